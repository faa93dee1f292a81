import PyProof.Rows.All
import Wide.All
import OpenK.AllK
import Wide.FinOn
import HandS.ForMost
import HandS.Flow
import HandS.Wide
import HandS.IsInst
import HandS.TupAny
import HandS.Style
import HandS.Zip
import HandS.Deep
import HandS.NoneIn
import PyProof.ReprRoads
import HandS.TupMul
import HandS.SortRule
import HandS.ExcCtx
import HandS.HotCalls
import HandS.SuiteRaise
import KE.KExcIs
import HandS.ExcOwn
import HandS.ExcInit
import HandS.ExcField
import KE.KExcInit
import KE.KExcLine
import PySem.Challenge.RW_roomprofile_k05_tidy_jobs
set_option Elab.async false
set_option linter.all false
set_option maxRecDepth 100000
set_option maxHeartbeats 1000000
/-! plain words: valleys, lower covers, profiles of steps -/
namespace PP

abbrev Vs := List (Int × Int)
/-- order of pairs: by the first, then by the second -/
def ltB (p q : Int × Int) : Bool := decide (p.1 < q.1) || (decide (p.1 = q.1) && decide (p.2 < q.2))
def insP (p : Int × Int) : Vs → Vs
  | [] => [p]
  | q :: r => if ltB q p = true then q :: insP p r else p :: q :: r
def sortP : Vs → Vs
  | [] => []
  | p :: r => insP p (sortP r)
theorem insP_mem {p x : Int × Int} : ∀ {l : Vs}, x ∈ insP p l ↔ x = p ∨ x ∈ l
  | [] => by simp [insP]
  | q :: r => by
    unfold insP
    split
    · simp only [List.mem_cons, insP_mem (l := r)]
      constructor
      · rintro (h | h | h) <;> simp [h]
      · rintro (h | h | h) <;> simp [h]
    · simp
theorem sortP_mem {x : Int × Int} : ∀ {l : Vs}, x ∈ sortP l ↔ x ∈ l
  | [] => by simp [sortP]
  | p :: r => by simp only [sortP, insP_mem, sortP_mem (l := r), List.mem_cons]
def Sor (l : Vs) : Prop := l.Pairwise fun p q => ltB q p = false
theorem ltB_false {p q : Int × Int} : ltB p q = false ↔ q.1 < p.1 ∨ (q.1 = p.1 ∧ q.2 ≤ p.2) := by
  unfold ltB
  simp only [Bool.or_eq_false_iff, Bool.and_eq_false_iff, decide_eq_false_iff_not]
  omega
theorem ltB_true {p q : Int × Int} : ltB p q = true ↔ p.1 < q.1 ∨ (p.1 = q.1 ∧ p.2 < q.2) := by
  unfold ltB
  simp only [Bool.or_eq_true, Bool.and_eq_true, decide_eq_true_eq]
theorem insP_sor {p : Int × Int} : ∀ {l : Vs}, Sor l → Sor (insP p l)
  | [], _ => List.pairwise_singleton _ _
  | q :: r, h => by
    have h' := List.pairwise_cons.mp h
    unfold insP
    split
    · rename_i c
      refine List.pairwise_cons.mpr ⟨fun x hx => ?_, insP_sor h'.2⟩
      rcases insP_mem.mp hx with rfl | hx
      · rw [ltB_true] at c; rw [ltB_false]; omega
      · exact h'.1 x hx
    · rename_i c
      have c' : ltB q p = false := by simpa using c
      refine List.pairwise_cons.mpr ⟨fun x hx => ?_, h⟩
      rcases List.mem_cons.mp hx with rfl | hx
      · exact c'
      · have a := h'.1 x hx
        rw [ltB_false] at a c' ⊢
        omega
theorem sortP_sor : ∀ l : Vs, Sor (sortP l)
  | [] => List.Pairwise.nil
  | p :: r => insP_sor (sortP_sor r)
theorem insP_perm {p : Int × Int} : ∀ {l : Vs}, (insP p l).Perm (p :: l)
  | [] => List.Perm.refl _
  | q :: r => by
    unfold insP
    split
    · exact ((insP_perm (l := r)).cons q).trans (List.Perm.swap p q r)
    · exact List.Perm.refl _
theorem sortP_perm : ∀ l : Vs, (sortP l).Perm l
  | [] => List.Perm.refl _
  | p :: r => insP_perm.trans ((sortP_perm r).cons p)
theorem sor_uniq : ∀ {l m : Vs}, Sor l → Sor m → l.Perm m → l = m
  | [], m, _, _, h => (List.Perm.eq_nil h.symm).symm
  | x :: l, [], _, _, h => absurd h.length_eq (by simp)
  | x :: l, y :: m, hl, hm, h => by
    have hl' := List.pairwise_cons.mp hl
    have hm' := List.pairwise_cons.mp hm
    have h1 : ltB x y = false := by
      rcases List.mem_cons.mp (h.mem_iff.mp (List.mem_cons_self (a := x) (l := l))) with e | hx
      · rw [e, ltB_false]; omega
      · exact hm'.1 x hx
    have h2 : ltB y x = false := by
      rcases List.mem_cons.mp (h.mem_iff.mpr (List.mem_cons_self (a := y) (l := m))) with e | hy
      · rw [e, ltB_false]; omega
      · exact hl'.1 y hy
    have e : x = y := by
      rw [ltB_false] at h1 h2
      exact Prod.ext (by omega) (by omega)
    subst e
    rw [sor_uniq hl'.2 hm'.2 (List.Perm.cons_inv h)]

/-- what a walk over sorted pairs keeps; the last usage kept -/
def dsc : Option Int → Vs → Vs
  | _, [] => []
  | none, p :: r => p :: dsc (some p.2) r
  | some u, p :: r => if p.2 < u then p :: dsc (some p.2) r else dsc (some u) r
def desc (l : Vs) : Vs := dsc none (sortP l)
def Cov (l : Vs) (c u : Int) : Prop := ∃ p ∈ l, p.1 ≤ c ∧ p.2 ≤ u
def Can (l : Vs) : Prop := l.Pairwise fun p q => p.1 < q.1 ∧ q.2 < p.2
theorem dsc_sub : ∀ {o : Option Int} {l : Vs} {p : Int × Int}, p ∈ dsc o l → p ∈ l ∧ (∀ u, o = some u → p.2 < u)
  | none, [], _, h => by simp [dsc] at h
  | some _, [], _, h => by simp [dsc] at h
  | none, q :: r, p, h => by
    simp only [dsc, List.mem_cons] at h
    refine ⟨?_, fun u z => by cases z⟩
    rcases h with rfl | h
    · exact List.mem_cons_self
    · exact List.mem_cons_of_mem _ (dsc_sub h).1
  | some v, q :: r, p, h => by
    simp only [dsc] at h
    split at h
    · rename_i c
      rcases List.mem_cons.mp h with rfl | h
      · exact ⟨List.mem_cons_self, fun u z => by cases z; exact c⟩
      · obtain ⟨a, b⟩ := dsc_sub h
        exact ⟨List.mem_cons_of_mem _ a, fun u z => by cases z; have := b _ rfl; omega⟩
    · obtain ⟨a, b⟩ := dsc_sub h
      exact ⟨List.mem_cons_of_mem _ a, b⟩
theorem dsc_cov : ∀ {o : Option Int} {l : Vs}, Sor l → ∀ p ∈ l, (∃ q ∈ dsc o l, q.1 ≤ p.1 ∧ q.2 ≤ p.2) ∨ (∃ u, o = some u ∧ u ≤ p.2)
  | none, q :: r, h, p, hp => by
    have h' := List.pairwise_cons.mp h
    rcases List.mem_cons.mp hp with rfl | hp
    · exact .inl ⟨p, by simp [dsc], by omega, by omega⟩
    · have a := h'.1 p hp
      rw [ltB_false] at a
      rcases dsc_cov (o := some q.2) h'.2 p hp with ⟨x, hx, h1, h2⟩ | ⟨u, e, hu⟩
      · exact .inl ⟨x, by simp [dsc, hx], h1, h2⟩
      · cases e
        exact .inl ⟨q, by simp [dsc], by omega, by omega⟩
  | some v, q :: r, h, p, hp => by
    have h' := List.pairwise_cons.mp h
    by_cases c : q.2 < v
    · rcases List.mem_cons.mp hp with rfl | hp
      · exact .inl ⟨p, by simp [dsc, c], by omega, by omega⟩
      · have a := h'.1 p hp
        rw [ltB_false] at a
        rcases dsc_cov (o := some q.2) h'.2 p hp with ⟨x, hx, h1, h2⟩ | ⟨u, e, hu⟩
        · exact .inl ⟨x, by simp [dsc, c, hx], h1, h2⟩
        · cases e
          exact .inl ⟨q, by simp [dsc, c], by omega, by omega⟩
    · rcases List.mem_cons.mp hp with rfl | hp
      · exact .inr ⟨v, rfl, by omega⟩
      · rcases dsc_cov (o := some v) h'.2 p hp with ⟨x, hx, h1, h2⟩ | e
        · exact .inl ⟨x, by simp [dsc, c, hx], h1, h2⟩
        · exact .inr e
theorem dsc_can : ∀ {o : Option Int} {l : Vs}, Sor l → Can (dsc o l)
  | none, [], _ => List.Pairwise.nil
  | some _, [], _ => List.Pairwise.nil
  | none, q :: r, h => by
    have h' := List.pairwise_cons.mp h
    simp only [dsc]
    refine List.pairwise_cons.mpr ⟨fun p hp => ?_, dsc_can h'.2⟩
    obtain ⟨a, b⟩ := dsc_sub hp
    have a' := h'.1 p a
    have b' := b _ rfl
    rw [ltB_false] at a'
    omega
  | some v, q :: r, h => by
    have h' := List.pairwise_cons.mp h
    simp only [dsc]
    split
    · refine List.pairwise_cons.mpr ⟨fun p hp => ?_, dsc_can h'.2⟩
      obtain ⟨a, b⟩ := dsc_sub hp
      have a' := h'.1 p a
      have b' := b _ rfl
      rw [ltB_false] at a'
      omega
    · exact dsc_can h'.2
theorem desc_can (l : Vs) : Can (desc l) := dsc_can (sortP_sor l)
theorem desc_sub {l : Vs} {p : Int × Int} (h : p ∈ desc l) : p ∈ l := sortP_mem.mp (dsc_sub h).1
theorem desc_cov {l : Vs} {p : Int × Int} (h : p ∈ l) : ∃ q ∈ desc l, q.1 ≤ p.1 ∧ q.2 ≤ p.2 := by
  rcases dsc_cov (o := none) (sortP_sor l) p (sortP_mem.mpr h) with h | ⟨u, e, _⟩
  · exact h
  · cases e
theorem cov_desc {l : Vs} {c u : Int} : Cov (desc l) c u ↔ Cov l c u := by
  constructor
  · rintro ⟨p, hp, h1, h2⟩
    exact ⟨p, desc_sub hp, h1, h2⟩
  · rintro ⟨p, hp, h1, h2⟩
    obtain ⟨q, hq, h3, h4⟩ := desc_cov hp
    exact ⟨q, hq, by omega, by omega⟩
theorem can_head {p q : Int × Int} {r : Vs} (h : Can (p :: r)) (hq : q ∈ p :: r) : p.1 ≤ q.1 ∧ q.2 ≤ p.2 := by
  rcases List.mem_cons.mp hq with rfl | hq
  · omega
  · have := (List.pairwise_cons.mp h).1 q hq; omega
theorem can_uniq : ∀ {l m : Vs}, Can l → Can m → (∀ c u, Cov l c u ↔ Cov m c u) → l = m
  | [], [], _, _, _ => rfl
  | [], p :: r, _, _, h => by
    obtain ⟨q, hq, _⟩ := (h p.1 p.2).mpr ⟨p, List.mem_cons_self, by omega, by omega⟩
    cases hq
  | p :: r, [], _, _, h => by
    obtain ⟨q, hq, _⟩ := (h p.1 p.2).mp ⟨p, List.mem_cons_self, by omega, by omega⟩
    cases hq
  | p :: l, q :: m, hl, hm, h => by
    have hl' := List.pairwise_cons.mp hl
    have hm' := List.pairwise_cons.mp hm
    obtain ⟨x, hx, x1, x2⟩ := (h p.1 p.2).mp ⟨p, List.mem_cons_self, by omega, by omega⟩
    obtain ⟨y, hy, y1, y2⟩ := (h q.1 q.2).mpr ⟨q, List.mem_cons_self, by omega, by omega⟩
    have a := can_head hm hx
    have b := can_head hl hy
    have e1 : p.1 = q.1 := by omega
    have ex : x = q := by
      rcases List.mem_cons.mp hx with e | hx
      · exact e
      · have := hm'.1 x hx; omega
    have ey : y = p := by
      rcases List.mem_cons.mp hy with e | hy
      · exact e
      · have := hl'.1 y hy; omega
    subst ex; subst ey
    have e : y = x := Prod.ext e1 (by omega)
    subst e
    rw [can_uniq hl'.2 hm'.2 fun c u => ?_]
    have key : ∀ {l m : Vs}, (∀ z ∈ l, y.1 < z.1 ∧ z.2 < y.2) → (∀ c u, Cov (y :: l) c u → Cov (y :: m) c u) → Cov l c u → Cov m c u := fun {l m} hl hh ⟨z, hz, z1, z2⟩ => by
      obtain ⟨w, hw, w1, w2⟩ := hh z.1 z.2 ⟨z, List.mem_cons_of_mem _ hz, by omega, by omega⟩
      have := hl z hz
      rcases List.mem_cons.mp hw with rfl | hw
      · omega
      · exact ⟨w, hw, by omega, by omega⟩
    exact ⟨key hl'.1 fun c u => (h c u).mp, key hm'.1 fun c u => (h c u).mpr⟩
theorem desc_eq {l m : Vs} (h : ∀ c u, Cov l c u ↔ Cov m c u) : desc l = desc m :=
  can_uniq (desc_can l) (desc_can m) fun c u => by rw [cov_desc, cov_desc]; exact h c u
theorem desc_eq_mem {l m : Vs} (h : ∀ p, p ∈ l ↔ p ∈ m) : desc l = desc m := desc_eq fun c u => by
  unfold Cov; simp only [h]
theorem desc_len (l : Vs) : (desc l).length ≤ l.length := by
  have : ∀ (o : Option Int) (l : Vs), (dsc o l).length ≤ l.length := by
    intro o l
    induction l generalizing o with
    | nil => cases o <;> simp [dsc]
    | cons p r ih =>
      cases o with
      | none => simp only [dsc, List.length_cons]; have := ih (some p.2); omega
      | some u =>
        simp only [dsc]
        split
        · simp only [List.length_cons]; have := ih (some p.2); omega
        · simp only [List.length_cons]; have := ih (some u); omega
  have h := this none (sortP l)
  rw [(sortP_perm l).length_eq] at h
  exact h
theorem desc_ne {l : Vs} (h : l ≠ []) : desc l ≠ [] := by
  obtain ⟨p, hp⟩ := List.exists_mem_of_ne_nil l h
  obtain ⟨q, hq, _⟩ := desc_cov hp
  intro e; rw [e] at hq; cases hq
end PP

/-! lists of whole numbers in their order -/
namespace PP
def lexL : List Int → List Int → Bool
  | [], [] => false
  | [], _ :: _ => true
  | _ :: _, [] => false
  | x :: a, y :: b => if x = y then lexL a b else decide (x < y)
theorem lexL_asym : ∀ {a b : List Int}, lexL a b = true → lexL b a = false
  | [], [], h => by cases h
  | [], _ :: _, _ => rfl
  | _ :: _, [], h => by cases h
  | x :: a, y :: b, h => by
    simp only [lexL] at h ⊢
    by_cases e : x = y
    · rw [if_pos e] at h; rw [if_pos e.symm]; exact lexL_asym h
    · rw [if_neg e] at h; rw [if_neg (Ne.symm e)]
      simp only [decide_eq_true_eq] at h
      exact decide_eq_false (by omega)
theorem lexL_tr : ∀ {a b c : List Int}, lexL b a = false → lexL c b = false → lexL c a = false
  | [], [], [], _, _ => rfl
  | [], [], _ :: _, _, _ => rfl
  | [], _ :: _, [], _, h => by cases h
  | [], _ :: _, _ :: _, _, _ => rfl
  | _ :: _, [], _, h, _ => by cases h
  | _ :: _, _ :: _, [], _, h => by cases h
  | x :: a, y :: b, z :: c, h, k => by
    simp only [lexL] at h k ⊢
    by_cases e1 : y = x
    · rw [if_pos e1] at h
      by_cases e2 : z = y
      · rw [if_pos e2] at k; rw [if_pos (e2.trans e1)]; exact lexL_tr h k
      · rw [if_neg e2] at k; rw [if_neg (fun q => e2 (q.trans e1.symm))]
        simp only [decide_eq_false_iff_not] at k ⊢; omega
    · rw [if_neg e1] at h
      simp only [decide_eq_false_iff_not] at h
      by_cases e2 : z = y
      · rw [if_neg (fun q => e1 (e2.symm.trans q))]
        simp only [decide_eq_false_iff_not]; omega
      · rw [if_neg e2] at k
        simp only [decide_eq_false_iff_not] at k
        rw [if_neg (by omega)]
        simp only [decide_eq_false_iff_not]; omega
theorem lexL_eq : ∀ {a b : List Int}, lexL a b = false → lexL b a = false → a = b
  | [], [], _, _ => rfl
  | [], _ :: _, h, _ => by cases h
  | _ :: _, [], _, h => by cases h
  | x :: a, y :: b, h, k => by
    simp only [lexL] at h k
    by_cases e : x = y
    · rw [if_pos e] at h; rw [if_pos e.symm] at k; rw [e, lexL_eq h k]
    · rw [if_neg e] at h; rw [if_neg (Ne.symm e)] at k
      simp only [decide_eq_false_iff_not] at h k; omega
def insT (p : List Int) : List (List Int) → List (List Int)
  | [] => [p]
  | q :: r => if lexL q p = true then q :: insT p r else p :: q :: r
def sortT : List (List Int) → List (List Int)
  | [] => []
  | p :: r => insT p (sortT r)
def SorT (l : List (List Int)) : Prop := l.Pairwise fun p q => lexL q p = false
theorem insT_perm {p : List Int} : ∀ {l : List (List Int)}, (insT p l).Perm (p :: l)
  | [] => List.Perm.refl _
  | q :: r => by
    unfold insT
    split
    · exact ((insT_perm (l := r)).cons q).trans (List.Perm.swap p q r)
    · exact List.Perm.refl _
theorem sortT_perm : ∀ l : List (List Int), (sortT l).Perm l
  | [] => List.Perm.refl _
  | p :: r => insT_perm.trans ((sortT_perm r).cons p)
theorem insT_sor {p : List Int} : ∀ {l : List (List Int)}, SorT l → SorT (insT p l)
  | [], _ => List.pairwise_singleton _ _
  | q :: r, h => by
    have h' := List.pairwise_cons.mp h
    unfold insT
    split
    · rename_i c
      refine List.pairwise_cons.mpr ⟨fun x hx => ?_, insT_sor h'.2⟩
      rcases List.mem_cons.mp (insT_perm.mem_iff.mp hx) with rfl | hx
      · exact lexL_asym c
      · exact h'.1 x hx
    · rename_i c
      have c' : lexL q p = false := by simpa using c
      refine List.pairwise_cons.mpr ⟨fun x hx => ?_, h⟩
      rcases List.mem_cons.mp hx with rfl | hx
      · exact c'
      · exact lexL_tr c' (h'.1 x hx)
theorem sortT_sor : ∀ l : List (List Int), SorT (sortT l)
  | [] => List.Pairwise.nil
  | p :: r => insT_sor (sortT_sor r)
theorem sorT_uniq : ∀ {l m : List (List Int)}, SorT l → SorT m → l.Perm m → l = m
  | [], m, _, _, h => (List.Perm.eq_nil h.symm).symm
  | x :: l, [], _, _, h => absurd h.length_eq (by simp)
  | x :: l, y :: m, hl, hm, h => by
    have hl' := List.pairwise_cons.mp hl
    have hm' := List.pairwise_cons.mp hm
    have rf : ∀ a : List Int, lexL a a = false := fun a => by
      cases q : lexL a a with
      | false => rfl
      | true => have := lexL_asym q; rw [q] at this; cases this
    have h1 : lexL x y = false := by
      rcases List.mem_cons.mp (h.mem_iff.mp (List.mem_cons_self (a := x) (l := l))) with e | hx
      · rw [e]; exact rf y
      · exact hm'.1 x hx
    have h2 : lexL y x = false := by
      rcases List.mem_cons.mp (h.mem_iff.mpr (List.mem_cons_self (a := y) (l := m))) with e | hy
      · rw [e]; exact rf x
      · exact hl'.1 y hy
    have e : x = y := lexL_eq h1 h2
    subst e
    rw [sorT_uniq hl'.2 hm'.2 (List.Perm.cons_inv h)]
end PP

/-! the small machine: data, store, terms, their evaluation -/
namespace RP
open PySem

inductive D where
  | non
  | bl (b : Bool)
  | int (i : Int)
  | str (x : Str)
  | tup (xs : List D)
  | lst (xs : List D)
  | dct (ks : List L2.Key) (xs : List D)
  | ref (n : Nat)
  | exn (c : Nat) (xs : List D)
  deriving Inhabited

mutual
def D.top : D → Nat
  | .tup xs => tops xs
  | .lst xs => tops xs
  | .dct _ xs => tops xs
  | .ref n => n + 1
  | .exn _ xs => tops xs + 1
  | .non => 0
  | .bl _ => 0
  | .int _ => 0
  | .str _ => 0
def tops : List D → Nat
  | [] => 0
  | x :: xs => max x.top (tops xs)
end

mutual
def D.same : D → D → Bool
  | .non, .non => true
  | .bl a, .bl b => a == b
  | .int a, .int b => a == b
  | .str a, .str b => decide (a = b)
  | .tup a, .tup b => sames a b
  | .lst a, .lst b => sames a b
  | .dct k a, .dct l b => decide (k = l) && sames a b
  | .ref a, .ref b => a == b
  | .exn c a, .exn d b => c == d && sames a b
  | _, _ => false
def sames : List D → List D → Bool
  | [], [] => true
  | x :: xs, y :: ys => x.same y && sames xs ys
  | _, _ => false
end

mutual
theorem D.same_iff : ∀ (a b : D), a.same b = true ↔ a = b
  | .non, b => by cases b <;> simp [D.same]
  | .bl _, b => by cases b <;> simp [D.same]
  | .int _, b => by cases b <;> simp [D.same]
  | .str _, b => by cases b <;> simp [D.same]
  | .ref _, b => by cases b <;> simp [D.same]
  | .exn c xs, b => by
    cases b with
    | exn d ys => simp only [D.same, D.exn.injEq, Bool.and_eq_true, beq_iff_eq, sames_iff xs ys]
    | _ => simp [D.same]
  | .tup xs, b => by
    cases b with
    | tup ys => simp only [D.same, D.tup.injEq]; exact sames_iff xs ys
    | _ => simp [D.same]
  | .lst xs, b => by
    cases b with
    | lst ys => simp only [D.same, D.lst.injEq]; exact sames_iff xs ys
    | _ => simp [D.same]
  | .dct k xs, b => by
    cases b with
    | dct l ys => simp only [D.same, D.dct.injEq, Bool.and_eq_true, decide_eq_true_eq, sames_iff xs ys]
    | _ => simp [D.same]
theorem sames_iff : ∀ (a b : List D), sames a b = true ↔ a = b
  | [], b => by cases b <;> simp [sames]
  | x :: xs, b => by
    cases b with
    | nil => simp [sames]
    | cons y ys => simp only [sames, Bool.and_eq_true, List.cons.injEq, D.same_iff x y, sames_iff xs ys]
end
mutual
/-- no exception within -/
def D.nox : D → Bool
  | .tup xs => noxs xs
  | .lst xs => noxs xs
  | .dct _ xs => noxs xs
  | .exn _ _ => false
  | .non => true
  | .bl _ => true
  | .int _ => true
  | .str _ => true
  | .ref _ => true
def noxs : List D → Bool
  | [] => true
  | x :: xs => x.nox && noxs xs
end
theorem sames_self (a : List D) : sames a a = true := (sames_iff a a).mpr rfl

/-- what lies in the store: a list; a list that nobody changes -/
inductive O where
  | lst (xs : List D)
  | fro (xs : List D)
  deriving Inhabited
def O.top : O → Nat
  | .lst xs => tops xs
  | .fro xs => tops xs
def O.items : O → List D
  | .lst xs => xs
  | .fro xs => xs

abbrev Sto := List O
abbrev Env := List (Option D)

/-- an exception: its class by number, what it keeps -/
structure Exn where
  cls : Nat
  args : List D

inductive Res (α : Type) where
  | ok (a : α) (st : Sto)
  | exc (x : Exn) (st : Sto)
  | bad

/-- what follows a part that raises nothing -/
def Res.bind {α β : Type} : Res α → (α → Sto → Res β) → Res β
  | .ok a st, f => f a st
  | .exc _ _, _ => .bad
  | .bad, _ => .bad
@[simp] theorem Res.bind_ok {α β : Type} (a : α) (st : Sto) (f : α → Sto → Res β) : (Res.ok a st).bind f = f a st := rfl
@[simp] theorem Res.bind_exc {α β : Type} (a : Exn) (st : Sto) (f : α → Sto → Res β) : (Res.exc a st : Res α).bind f = .bad := rfl
@[simp] theorem Res.bind_bad {α β : Type} (f : α → Sto → Res β) : (Res.bad : Res α).bind f = .bad := rfl
theorem Res.bind_eq_ok {α β : Type} {r : Res α} {f : α → Sto → Res β} {b : β} {st' : Sto} (h : r.bind f = .ok b st') : ∃ a st, r = .ok a st ∧ f a st = .ok b st' := by
  cases r with
  | ok a st => exact ⟨a, st, rfl, h⟩
  | exc x st => cases h
  | bad => cases h
theorem Res.bind_eq_exc {α β : Type} {r : Res α} {f : α → Sto → Res β} {x : Exn} {st' : Sto} (h : r.bind f = .exc x st') : ∃ a st, r = .ok a st ∧ f a st = .exc x st' := by
  cases r with
  | ok a st => exact ⟨a, st, rfl, h⟩
  | exc x st => cases h
  | bad => cases h

/-- what is newer than n and unreachable goes -/
def trim (n t : Nat) (st : Sto) : Sto := if t ≤ n ∧ (st.take n).all (fun o => decide (o.top ≤ n)) = true then st.take n else st

inductive Bin where
  | add | sub | mul | fdiv | mod | pow | addM
  deriving DecidableEq, Repr
inductive Cmp where
  | lt | le | gt | ge | eq | ne | isN | notN | isin | notin
  deriving DecidableEq, Repr
inductive Bi where
  | len | sum | abs | max | min | int | tuple | list | repr | all | any | sorted | str | bool | listM
  deriving DecidableEq, Repr
inductive Ty where
  | int | bool | tuple | str | list | dict
  deriving DecidableEq, Repr
inductive Mt where
  | append | extend | pop | index | count
  deriving DecidableEq, Repr

mutual
inductive E where
  | v (i : Nat)
  | k (d : D)
  | g (x : Nat)
  | tup (es : Es)
  | lst (m : Bool) (es : Es)
  | dct (ks : List L2.Key) (es : Es)
  | bin (o : Bin) (a b : E)
  | cmp (o : Cmp) (a b : E)
  | chain (o p : Cmp) (a b c : E)
  | neg (a : E)
  | not (a : E)
  | and (a b : E)
  | or (a b : E)
  | ife (c a b : E)
  | ix (a b : E)
  | sl (a lo hi : E)
  | rev (a : E)
  | call (f : Nat) (es : Es)
  | bi (b : Bi) (es : Es)
  | isi (a : E) (t : Ty)
  | mt (m : Mt) (a : E) (es : Es)
  | comp (t : Tg) (it : It) (c : E) (e : E)
  | lc (t : Tg) (it : It) (c : E) (e : E)
  | xis (a : E) (cs : List Nat)
  | xat (a : E) (cs : List Nat)
  | fnl (fs : List Nat) (i : E) (es : Es)
  | comp2 (t : Tg) (it : It) (u : Tg) (iu : It) (e : E)
inductive Es where
  | nil
  | cons (e : E) (es : Es)
inductive It where
  | seq (e : E)
  | rng (a b : E)
  | enum (e : E)
  | zip (a b : E)
inductive Tg where
  | nm (i : Nat)
  | two (a b : Tg)
  | sub (a i : E)
  | many (is : List Nat)
end

mutual
inductive S where
  | ex (e : E)
  | asg (t : Tg) (e : E)
  | two (i j : Nat) (a b : E)
  | three (i j k : Nat) (a b c : E)
  | whl (c : E) (b : Ss)
  | aug (i : Nat) (o : Bin) (e : E)
  | augIx (a i : E) (o : Bin) (e : E)
  | ret (e : E)
  | ife (c : E) (a b : Ss)
  | for_ (t : Tg) (it : It) (b : Ss)
  | skip
  | never
  | frz (i : Nat)
  | rse (c : Nat) (es : Es)
  | tr (b : Ss) (hs : Hs)
inductive Hs where
  | nil
  | cons (cs : List Nat) (i : Option Nat) (b : Ss) (hs : Hs)
inductive Ss where
  | nil
  | cons (s : S) (ss : Ss)
end

/-! ### primitives -/
def tru (d : D) (st : Sto) : Option Bool :=
  match d with
  | .non => some false
  | .bl b => some b
  | .int i => some (i != 0)
  | .str y => if y.length ≤ sizeLine then some ((y.length : Int) != 0) else none
  | .tup xs => some (!xs.isEmpty)
  | .lst xs => some (!xs.isEmpty)
  | .dct _ _ => none
  | .exn _ _ => none
  | .ref n => match st[n]? with
    | some o => some (!o.items.isEmpty)
    | none => none

def isB : D → Option Bool
  | .bl b => some b
  | _ => none
/-- a branch -/
def br {α : Type} (o : Option Bool) (x y : Res α) : Res α :=
  match o with
  | some true => x
  | some false => y
  | none => .bad
theorem br_some {α : Type} (b : Bool) (x y : Res α) : br (some b) x y = if b = true then x else y := by cases b <;> rfl
def mulOk (i j : Int) : Bool := decide (i.natAbs.log2 + j.natAbs.log2 < 1000000)
def divOk (j : Int) : Bool := decide (0 < j ∧ j.natAbs.log2 < 9000)
def powOk (i j : Int) : Bool := decide (0 ≤ j ∧ (Builtin.Int.intBits i : Int) * j ≤ 2 ^ 27)

def seqOf (d : D) (st : Sto) : Option (List D) :=
  match d with
  | .tup xs => some xs
  | .lst xs => some xs
  | .ref n => (st[n]?).map O.items
  | _ => none
/-- the items of a list -/
def lstOf (d : D) (st : Sto) : Option (List D) :=
  match d with
  | .lst xs => some xs
  | .ref n => (st[n]?).map O.items
  | _ => none
/-- the items of a list that is not the script -/
def ownOf (d : D) (st : Sto) : Option (List D) :=
  match d with
  | .lst xs => some xs
  | .ref n => match st[n]? with
    | some (.lst xs) => some xs
    | _ => none
  | _ => none

/-- what a list is extended by -/
def extOf (d : D) (st : Sto) : Option (List D) :=
  match d with
  | .tup xs => some xs
  | d => ownOf d st
def bin : Bin → D → D → Sto → Res D
  | .add, .int i, .int j, st => .ok (.int (i + j)) st
  | .sub, .int i, .int j, st => .ok (.int (i - j)) st
  | .mul, .int i, .int j, st => if mulOk i j then .ok (.int (i * j)) st else .bad
  | .fdiv, .int i, .int j, st => if divOk j then .ok (.int (i / j)) st else .bad
  | .mod, .int i, .int j, st => if 0 < j then .ok (.int (i % j)) st else .bad
  | .pow, .int i, .int j, st => if powOk i j then .ok (.int (i ^ j.toNat)) st else .bad
  | .add, .str x, .str y, st => if x.length + y.length ≤ sizeLine then .ok (.str (x ++ y)) st else .bad
  | .add, .tup xs, .tup ys, st => if xs.length + ys.length ≤ sizeLine then .ok (.tup (xs ++ ys)) st else .bad
  | .mul, .tup xs, .int k, st => if 0 < xs.length ∧ xs.length ≤ 1000 ∧ 2 ≤ k ∧ k ≤ 1000 then .ok (.tup (List.replicate k.toNat xs).flatten) st else .bad
  | .add, x, y, st => match ownOf x st, ownOf y st with
    | some xs, some ys => if xs.length + ys.length ≤ sizeLine then .ok (.lst (xs ++ ys)) st else .bad
    | _, _ => .bad
  | .addM, x, y, st => match ownOf x st, ownOf y st with
    | some xs, some ys => if xs.length + ys.length ≤ sizeLine then .ok (.ref st.length) (st ++ [.lst (xs ++ ys)]) else .bad
    | _, _ => .bad
  | .mul, x, .int k, st => match ownOf x st with
    | some xs => if -(2 ^ 63) ≤ k ∧ k < 2 ^ 63 ∧ xs.length * k.toNat ≤ sizeLine then .ok (.lst (List.replicate k.toNat xs).flatten) st else .bad
    | _ => .bad
  | _, _, _, _ => .bad


def augD : Bin → D → D → Sto → Res D
  | .add, .int i, .int j, st => .ok (.int (i + j)) st
  | .sub, .int i, .int j, st => .ok (.int (i - j)) st
  | _, _, _, _ => .bad

def keyP : L2.Key → PyData
  | .inl i => .int i
  | .inr x => .str x
mutual
/-- the data behind a value, lists by rd -/
def pyW (rd : Nat → Option PyData) : D → Option PyData
  | .non => some .none
  | .bl b => some (.bool b)
  | .int i => some (.int i)
  | .str x => some (.str x)
  | .tup xs => (pysW rd xs).map .tuple
  | .lst xs => (pysW rd xs).map .list
  | .dct ks xs => (pysW rd xs).map fun ys => .dict ((ks.map keyP).zip ys)
  | .ref n => rd n
  | .exn _ _ => none
def pysW (rd : Nat → Option PyData) : List D → Option (List PyData)
  | [] => some []
  | x :: xs => match pyW rd x with
    | some a => match pysW rd xs with
      | some r => some (a :: r)
      | none => none
    | none => none
end
/-- lists nested f deep -/
def rdN (st : Sto) : Nat → Nat → Option PyData
  | 0, _ => none
  | f + 1, n => match st[n]? with
    | some o => (pysW (rdN st f) o.items).map .list
    | none => none
def toPy (st : Sto) (d : D) : Option PyData := pyW (rdN st 4) d

/-- == -/
def eqP (x y : D) (st : Sto) : Option Bool :=
  match toPy st x, toPy st y with
  | some p, some q => if p.canLay0 = true ∧ q.canLay0 = true ∧ min p.depth q.depth ≤ 64 then some (PyData.eqv p q) else none
  | _, _ => none

def eqD (x y : D) (st : Sto) : Option Bool :=
  match x, y with
  | .str a, .str b => some (decide (a = b))
  | .tup xs, .tup [] => some xs.isEmpty
  | .lst xs, .lst [] => some xs.isEmpty
  | _, _ => eqP x y st
def flat : D → Bool
  | .non => true
  | .bl _ => true
  | .int _ => true
  | .str _ => true
  | .tup _ => false
  | .lst _ => false
  | .dct _ _ => false
  | .ref _ => false
  | .exn _ _ => false
def eqF : D → D → Bool
  | .non, .non => true
  | .bl a, .bl b => a == b
  | .bl a, .int b => (if a then 1 else 0) == b
  | .int a, .bl b => a == (if b then 1 else 0)
  | .int a, .int b => a == b
  | .str a, .str b => a == b
  | _, _ => false
def inP (x y : D) (st : Sto) : Option Bool :=
  match toPy st x, toPy st y with
  | some d, some (.list ds) => if SeqAt.shaped d = true ∧ SeqAt.shaped (.list ds) = true then some (ds.any fun z => PyData.eqv z d) else none
  | _, _ => none
def inD (x y : D) (st : Sto) : Option Bool :=
  match seqOf y st with
  | some xs => if flat x && xs.all flat then some (xs.any fun y => eqF y x) else inP x y st
  | none => none

def ofB : Option Bool → Sto → Res D
  | some b, st => .ok (.bl b) st
  | none, _ => .bad

def cmp : Cmp → D → D → Sto → Res D
  | .lt, .int i, .int j, st => .ok (.bl (decide (i < j))) st
  | .le, .int i, .int j, st => .ok (.bl (decide (i ≤ j))) st
  | .gt, .int i, .int j, st => .ok (.bl (decide (j < i))) st
  | .ge, .int i, .int j, st => .ok (.bl (decide (j ≤ i))) st
  | .eq, x, y, st => ofB (eqD x y st) st
  | .ne, x, y, st => ofB ((eqD x y st).map not) st
  | .isN, .bl a, .bl b, st => .ok (.bl (decide (a = b))) st
  | .notN, .bl a, .bl b, st => .ok (.bl (!decide (a = b))) st
  | .isN, x, .non, st => .ok (.bl (match x with | .non => true | _ => false)) st
  | .notN, x, .non, st => .ok (.bl (match x with | .non => false | _ => true)) st
  | .isin, x, y, st => ofB (inD x y st) st
  | .notin, x, y, st => ofB ((inD x y st).map not) st
  | _, _, _, _ => .bad

def ixD (x y : D) (st : Sto) : Res D :=
  match y with
  | .int i => match seqOf x st with
    | some xs => match L2.atI xs i with
      | some d => .ok d st
      | none => .bad
    | none => .bad
  | _ => .bad

def intsOf : List D → Option (List Int)
  | [] => some []
  | .int i :: r => (intsOf r).map (i :: ·)
  | _ :: _ => none

def boolsOf : List D → Option (List Bool)
  | [] => some []
  | .bl i :: r => (boolsOf r).map (i :: ·)
  | _ :: _ => none

def reprOk (p : PyData) : Bool := p.showable && decide (p.depth ≤ 64) && decide (p.shown.length ≤ sizeLine)
def reprD (x : D) (st : Sto) : Res D :=
  match toPy st x with
  | some p => if reprOk p then .ok (.str p.shown) st else .bad
  | none => .bad

def prsOf : List D → Option PP.Vs
  | [] => some []
  | .tup [.int i, .int j] :: r => (prsOf r).map ((i, j) :: ·)
  | _ :: _ => none
def tsOf : List D → Option (List (List Int))
  | [] => some []
  | .tup xs :: r => match intsOf xs, tsOf r with
    | some a, some t => some (a :: t)
    | _, _ => none
  | _ :: _ => none
def tD (p : List Int) : D := .tup (p.map D.int)
def prD (p : Int × Int) : D := .tup [.int p.1, .int p.2]
def minL (i : Int) (ns : List Int) : Int := ns.foldl (fun a b => if b < a then b else a) i
def maxL (i : Int) (ns : List Int) : Int := ns.foldl (fun a b => if b > a then b else a) i
def bi : Bi → List D → Sto → Res D
  | .len, [.str z], st => if z.length ≤ sizeLine then .ok (.int z.length) st else .bad
  | .len, [.dct ks _], st => .ok (.int ks.length) st
  | .len, [x], st => match seqOf x st with
    | some xs => .ok (.int xs.length) st
    | none => .bad
  | .sum, [x], st => match lstOf x st with
    | some xs => match intsOf xs with
      | some ns => .ok (.int ns.sum) st
      | none => .bad
    | none => .bad
  | .abs, [.int i], st => .ok (.int (if i < 0 then -i else i)) st
  | .max, [.int i, .int j], st => .ok (.int (if j > i then j else i)) st
  | .min, [.int i, .int j], st => .ok (.int (if j < i then j else i)) st
  | .int, [.int i], st => .ok (.int i) st
  | .int, [.bl b], st => .ok (.int (if b then 1 else 0)) st
  | .tuple, [x], st => match seqOf x st with
    | some xs => .ok (.tup xs) st
    | none => .bad
  | .list, [x], st => match seqOf x st with
    | some xs => .ok (.lst xs) st
    | none => .bad
  | .listM, [x], st => match seqOf x st with
    | some xs => .ok (.ref st.length) (st ++ [.lst xs])
    | none => .bad
  | .repr, [x], st => reprD x st
  | .min, [x], st => match lstOf x st with
    | some xs => match intsOf xs with
      | some (i :: ns) => .ok (.int (minL i ns)) st
      | _ => .bad
    | none => .bad
  | .max, [x], st => match lstOf x st with
    | some xs => match intsOf xs with
      | some (i :: ns) => .ok (.int (maxL i ns)) st
      | _ => .bad
    | none => .bad
  | .all, [x], st => match lstOf x st with
    | some xs => match boolsOf xs with
      | some bs => .ok (.bl (bs.all id)) st
      | none => .bad
    | none => .bad
  | .any, [x], st => match lstOf x st with
    | some xs => match boolsOf xs with
      | some bs => .ok (.bl (bs.any id)) st
      | none => .bad
    | none => .bad
  | .str, [.int i], st => if i.natAbs.log2 < 1920 then .ok (.str (PyData.shown (.int i))) st else .bad
  | .max, [.int i, .int j, .int k], st => .ok (.int (maxL i [j, k])) st
  | .max, [.int i, .int j, .int k, .int l], st => .ok (.int (maxL i [j, k, l])) st
  | .sorted, [x], st => match lstOf x st with
    | some xs => match prsOf xs with
      | some ps => .ok (.lst ((PP.sortP ps).map prD)) st
      | none => match tsOf xs with
        | some ts => if ts.length ≤ 1 ∨ ts.all (fun t => !t.isEmpty) = true then .ok (.lst ((PP.sortT ts).map tD)) st else .bad
        | none => .bad
    | none => .bad
  | _, _, _ => .bad

def tyIs : Ty → D → Sto → Option Bool
  | .int, .int _, _ => some true
  | .int, .bl _, _ => some true
  | .int, .non, _ => some false
  | .int, .str _, _ => some false
  | .int, .tup _, _ => some false
  | .int, .lst _, _ => some false
  | .int, .dct _ _, _ => some false
  | .int, .ref _, _ => some false
  | .int, .exn _ _, _ => none
  | .bool, .bl _, _ => some true
  | .bool, _, _ => some false
  | .tuple, .tup _, _ => some true
  | .tuple, _, _ => some false
  | .str, .str _, _ => some true
  | .str, _, _ => some false
  | .list, .ref n, st => match st[n]? with
    | some _ => some true
    | none => none
  | .list, .lst _, _ => some true
  | .list, _, _ => some false
  | .dict, .dct _ _, _ => some true
  | .dict, _, _ => some false
def isiD (t : Ty) (x : D) (st : Sto) : Res D :=
  match x with
  | .ref n => if n < st.length then ofB (tyIs t x st) st else .bad
  | .exn _ _ => .bad
  | _ => ofB (tyIs t x st) st

def setL (n : Nat) (f : List D → Option (List D)) (st : Sto) : Option Sto :=
  match st[n]? with
  | some (.lst xs) => match f xs with
    | some ys => if ys.length ≤ sizeLine then some (st.set n (.lst ys)) else none
    | none => none
  | _ => none

/-- the first place of a flat value -/
def ixF (y : D) : List D → Option Nat
  | [] => none
  | x :: xs => if eqF x y = true then some 0 else (ixF y xs).map (· + 1)
def ixQ (q : PyData) : List PyData → Option Nat
  | [] => none
  | z :: zs => if PyData.eqv z q = true then some 0 else (ixQ q zs).map (· + 1)
def ixP (x y : D) (st : Sto) : Res D := match toPy st y, toPy st x with
  | some d, some (.list ds) => if SeqAt.shaped d = true ∧ SeqAt.shaped (.list ds) = true then
      match ixQ d ds with
      | some i => .ok (.int i) st
      | none => .bad
    else .bad
  | _, _ => .bad
def mt : Mt → D → List D → Sto → Res D
  | .index, x, [y], st => match lstOf x st with
    | some xs => if flat y && xs.all flat then
        match ixF y xs with
        | some i => .ok (.int i) st
        | none => .bad
      else ixP x y st
    | none => .bad
  | .count, x, [y], st => match lstOf x st with
    | some xs => if flat y && xs.all flat then .ok (.int (xs.countP fun z => eqF z y)) st else .bad
    | none => .bad
  | .append, .ref n, [x], st => match setL n (fun xs => some (xs ++ [x])) st with
    | some st' => .ok .non st'
    | none => .bad
  | .extend, .ref n, [x], st => match extOf x st with
    | some ys => match setL n (fun xs => some (xs ++ ys)) st with
      | some st' => .ok .non st'
      | none => .bad
    | _ => .bad
  | _, _, _, _ => .bad

def putIx (o i v : D) (st : Sto) : Option Sto :=
  match o, i with
  | .ref n, .int k => setL n (fun xs => (L2.ixN xs.length k).map fun j => xs.set j v) st
  | _, _ => none

abbrev CallF := Nat → List D → Sto → Res D

/-- is the thing that is walked still what it was? -/
abbrev Src := List (Nat × List D)
def still : Src → Sto → Bool
  | [], _ => true
  | (n, xs) :: r, st => (match st[n]? with
    | some o => sames o.items xs
    | none => false) && still r st

def numb (lo : Int) : Nat → List D
  | 0 => []
  | n + 1 => .int lo :: numb (lo + 1) n
def enumd (i : Int) : List D → List D
  | [] => []
  | x :: xs => .tup [.int i, x] :: enumd (i + 1) xs
def zipd : List D → List D → List D
  | x :: xs, y :: ys => .tup [x, y] :: zipd xs ys
  | _, _ => []

section
variable (gl : List D) (cf : CallF)
/-- stores and the slots' values -/
def asgTup (f : D → Env → Sto → Res Env) (g : D → Env → Sto → Res Env) : D → Env → Sto → Res Env
  | .tup [a, b], env, st => (f a env st).bind fun env st => g b env st
  | x, env, st => match lstOf x st with
    | some [a, b] => (f a env st).bind fun env st => g b env st
    | _ => .bad
def setAll : List Nat → List D → Env → Env
  | i :: is, d :: ds, env => setAll is ds (env.set i (some d))
  | _, _, env => env
def asgMany (is : List Nat) : D → Env → Sto → Res Env
  | .tup xs, env, st => if xs.length = is.length then .ok (setAll is xs env) st else .bad
  | _, _, _ => .bad
def srcOf (d : D) : Option Nat := match d with
  | .ref n => some n
  | _ => none

def compLoop (tg : D → Env → Sto → Res Env) (cnd elt : Env → Sto → Res D) (src : Src) (n : Nat) (env : Env) : List D → Sto → Res Unit
  | [], st => if still src st then .ok () st else .bad
  | x :: xs, st => if still src st then
      (tg x env st).bind fun env1 st => (cnd env1 st).bind fun c st => br (tru c st)
          ((elt env1 st).bind fun y st => match setL n (fun xs => some (xs ++ [y])) st with
            | some st => compLoop tg cnd elt src n env xs (trim (n + 1) 0 st)
            | none => .bad)
          (compLoop tg cnd elt src n env xs (trim (n + 1) 0 st))
    else .bad

/-- a comprehension whose list nobody has seen yet -/
def lcLoop (tg : D → Env → Sto → Res Env) (cnd elt : Env → Sto → Res D) (src : Src) (n : Nat) (env : Env) : List D → List D → Sto → Res (List D)
  | [], acc, st => if still src st then .ok acc st else .bad
  | x :: xs, acc, st => if still src st then
      (tg x env st).bind fun env1 st => (cnd env1 st).bind fun c st => br (tru c st)
          ((elt env1 st).bind fun y st => if acc.length < sizeLine then lcLoop tg cnd elt src n env xs (acc ++ [y]) (trim n (tops (acc ++ [y])) st) else .bad)
          (lcLoop tg cnd elt src n env xs acc (trim n (tops acc) st))
    else .bad

/-- a comprehension of two walks -/
def in2Loop (tu : D → Env → Sto → Res Env) (elt : Env → Sto → Res D) (src : Src) (n k : Nat) (env : Env) : List D → Sto → Res Unit
  | [], st => if still src st then .ok () st else .bad
  | x :: xs, st => if still src st then
      (tu x env st).bind fun env1 st => (elt env1 st).bind fun y st => match setL n (fun xs => some (xs ++ [y])) st with
            | some st => in2Loop tu elt src n k env xs (trim k 0 st)
            | none => .bad
    else .bad
def out2Loop (tg : D → Env → Sto → Res Env) (iu : Env → Sto → Res (Src × List D)) (tu : D → Env → Sto → Res Env) (elt : Env → Sto → Res D) (wu : Env → Env) (src : Src) (n : Nat) (env : Env) : List D → Sto → Res Unit
  | [], st => if still src st then .ok () st else .bad
  | x :: xs, st => if still src st then
      (tg x env st).bind fun env1 st => (iu env1 st).bind fun r st => (in2Loop tu elt r.1 n st.length (wu env1) r.2 st).bind fun _ st => out2Loop tg iu tu elt wu src n env xs (trim (n + 1) 0 st)
    else .bad

def lkV (o : Option (Option D)) (st : Sto) : Res D := match o with
  | some (some d) => .ok d st
  | _ => .bad
def lkG (o : Option D) (st : Sto) : Res D := match o with
  | some d => .ok d st
  | none => .bad
/-- isinstance of an exception; what it keeps -/
def xisD (cs : List Nat) (x : D) (st : Sto) : Res D := match x with
  | .exn c _ => .ok (.bl (cs.contains c)) st
  | _ => .bad
def xatD (cs : List Nat) (x : D) (st : Sto) : Res D := match x with
  | .exn c [v] => if cs.contains c = true then .ok v st else .bad
  | _ => .bad
def fnlD (fs : List Nat) (i : D) (ds : List D) (st : Sto) : Res D := match i with
  | .int k => match L2.atI fs k with
    | some f => cf f ds st
    | none => .bad
  | _ => .bad
def negD (x : D) (st : Sto) : Res D := match x with
  | .int i => .ok (.int (-i)) st
  | _ => .bad
def partD : D → Option (Option Int)
  | .non => some none
  | .int i => some (some i)
  | _ => none
def cutD (xs : List D) (lo hi : Option Int) : List D := (xs.drop (HT.sIx xs.length 0 lo)).take (HT.sIx xs.length xs.length hi - HT.sIx xs.length 0 lo)
def slD (x l h : D) (st : Sto) : Res D := match partD l, partD h with
  | some lo, some hi => match x with
    | .tup xs => .ok (.tup (cutD xs lo hi)) st
    | x => match lstOf x st with
      | some xs => .ok (.lst (cutD xs lo hi)) st
      | none => .bad
  | _, _ => .bad
def revD (x : D) (st : Sto) : Res D := match x with
  | .tup xs => .ok (.tup xs.reverse) st
  | x => match lstOf x st with
    | some xs => .ok (.lst xs.reverse) st
    | none => .bad
def itOf (x : D) (st : Sto) : Res (Src × List D) := match seqOf x st with
  | some xs => .ok (((srcOf x).map (·, xs)).toList, xs) st
  | none => .bad
def rngOf (x y : D) (st : Sto) : Res (Src × List D) := match x, y with
  | .int i, .int j => if -(2 ^ 62) ≤ i ∧ i < 2 ^ 62 ∧ -(2 ^ 62) ≤ j ∧ j < 2 ^ 62 then .ok ([], numb i (j - i).toNat) st else .bad
  | _, _ => .bad
def enumOf (x : D) (st : Sto) : Res (Src × List D) := match lstOf x st with
  | some xs => .ok (((srcOf x).map (·, xs)).toList, enumd 0 xs) st
  | none => .bad
def zipOf (x y : D) (st : Sto) : Res (Src × List D) := match x, y with
  | .tup xs, .tup ys => .ok ([], zipd xs ys) st
  | x, y => match lstOf x st, lstOf y st with
    | some xs, some ys => .ok (((srcOf x).map (·, xs)).toList ++ ((srcOf y).map (·, ys)).toList, zipd xs ys) st
    | _, _ => .bad
def putTo (r : Option Sto) (env : Env) : Res Env := match r with
  | some st' => .ok env st'
  | none => .bad
def Tg.slots : Tg → List Nat
  | .nm i => [i]
  | .two a b => a.slots ++ b.slots
  | .sub _ _ => []
  | .many is => is
def wipeE (env : Env) : List Nat → Env
  | [] => env
  | i :: r => (wipeE env r).set i none

mutual
def ev : E → Env → Sto → Res D
  | .v i, env, st => lkV (env[i]?) st
  | .k d, _, st => .ok d st
  | .g x, _, st => lkG (gl[x]?) st
  | .tup es, env, st => (evs es env st).bind fun ds st => if ds.length ≤ sizeLine then .ok (.tup ds) st else .bad
  | .lst true es, env, st => (evs es env st).bind fun ds st => if ds.length ≤ sizeLine then .ok (.ref st.length) (st ++ [.lst ds]) else .bad
  | .lst false es, env, st => (evs es env st).bind fun ds st => if ds.length ≤ sizeLine then .ok (.lst ds) st else .bad
  | .dct ks es, env, st => (evs es env st).bind fun ds st => .ok (.dct ks ds) st
  | .bin o a b, env, st => (ev a env st).bind fun x st => (ev b env st).bind fun y st => bin o x y st
  | .cmp o a b, env, st => (ev a env st).bind fun x st => (ev b env st).bind fun y st => cmp o x y st
  | .chain o p a b c, env, st => (ev a env st).bind fun x st => (ev b env st).bind fun y st => (cmp o x y st).bind fun z st => br (isB z) ((ev c env st).bind fun w st => cmp p y w st) (.ok (.bl false) st)
  | .neg a, env, st => (ev a env st).bind fun x st => negD x st
  | .not a, env, st => (ev a env st).bind fun x st => br (tru x st) (.ok (.bl false) st) (.ok (.bl true) st)
  | .and a b, env, st => (ev a env st).bind fun x st => br (tru x st) (ev b env st) (.ok x st)
  | .or a b, env, st => (ev a env st).bind fun x st => br (tru x st) (.ok x st) (ev b env st)
  | .ife c a b, env, st => (ev c env st).bind fun x st => br (tru x st) (ev a env st) (ev b env st)
  | .ix a b, env, st => (ev a env st).bind fun x st => (ev b env st).bind fun y st => ixD x y st
  | .sl a lo hi, env, st => (ev a env st).bind fun x st => (ev lo env st).bind fun l st => (ev hi env st).bind fun h st => slD x l h st
  | .rev a, env, st => (ev a env st).bind fun x st => revD x st
  | .call f es, env, st => (evs es env st).bind fun ds st => cf f ds st
  | .bi b es, env, st => (evs es env st).bind fun ds st => bi b ds st
  | .isi a t, env, st => (ev a env st).bind fun x st => isiD t x st
  | .xis a cs, env, st => (ev a env st).bind fun x st => xisD cs x st
  | .xat a cs, env, st => (ev a env st).bind fun x st => xatD cs x st
  | .fnl fs i es, env, st => (ev i env st).bind fun x st => (evs es env st).bind fun ds st => fnlD cf fs x ds st
  | .mt m a es, env, st => (ev a env st).bind fun x st => (evs es env st).bind fun ds st => mt m x ds st
  | .comp t it c e, env, st => (evI it env st).bind fun r st =>
      (compLoop (asg t) (ev c) (ev e) r.1 st.length (wipeE env t.slots) r.2 (st ++ [.lst []])).bind fun _ st' => .ok (.ref st.length) st'
  | .lc t it c e, env, st => (evI it env st).bind fun r st =>
      (lcLoop (asg t) (ev c) (ev e) r.1 st.length (wipeE env t.slots) r.2 [] st).bind fun xs st' => .ok (.lst xs) st'
  | .comp2 t it u iu e, env, st => (evI it env st).bind fun r st =>
      (out2Loop (asg t) (evI iu) (asg u) (ev e) (fun e => wipeE e u.slots) r.1 st.length (wipeE env (t.slots ++ u.slots)) r.2 (st ++ [.lst []])).bind fun _ st' => .ok (.ref st.length) st'
def evs : Es → Env → Sto → Res (List D)
  | .nil, _, st => .ok [] st
  | .cons e es, env, st => (ev e env st).bind fun x st => (evs es env st).bind fun xs st => .ok (x :: xs) st
def evI : It → Env → Sto → Res (Src × List D)
  | .seq e, env, st => (ev e env st).bind fun x st => itOf x st
  | .rng a b, env, st => (ev a env st).bind fun x st => (ev b env st).bind fun y st => rngOf x y st
  | .enum e, env, st => (ev e env st).bind fun x st => enumOf x st
  | .zip a b, env, st => (ev a env st).bind fun x st => (ev b env st).bind fun y st => zipOf x y st
def asg : Tg → D → Env → Sto → Res Env
  | .nm i, d, env, st => .ok (env.set i (some d)) st
  | .two a b, d, env, st => asgTup (asg a) (asg b) d env st
  | .sub a i, d, env, st => (ev a env st).bind fun o st => (ev i env st).bind fun k st => putTo (putIx o k d st) env
  | .many is, d, env, st => asgMany is d env st
end

mutual
/-- lists from n on become values -/
def frz (st : Sto) (n : Nat) : Nat → D → Option D
  | 0, _ => none
  | _ + 1, .non => some .non
  | _ + 1, .bl b => some (.bl b)
  | _ + 1, .int i => some (.int i)
  | _ + 1, .str x => some (.str x)
  | k + 1, .tup xs => (frzs st n k xs).map .tup
  | k + 1, .lst xs => (frzs st n k xs).map .lst
  | k + 1, .dct ks xs => (frzs st n k xs).map (.dct ks)
  | _ + 1, .exn _ _ => none
  | k + 1, .ref m => if m < n then some (.ref m) else match st[m]? with
    | some (.lst xs) => if tops xs ≤ n then some (.lst xs) else (frzs st n k xs).map .lst
    | _ => none
def frzs (st : Sto) (n : Nat) : Nat → List D → Option (List D)
  | 0, _ => none
  | _ + 1, [] => some []
  | k + 1, x :: xs => match frz st n k x, frzs st n k xs with
    | some y, some ys => some (y :: ys)
    | _, _ => none
end
/-- may the store be cut at n? -/
def cuts (n : Nat) (st : Sto) : Bool := (st.take n).all (fun o => decide (o.top ≤ n))

inductive Fl where
  | nx (env : Env)
  | rt (d : D)
  | xc (x : Exn) (env : Env)
/-- what follows an expression within a statement -/
def Res.thn {α : Type} (r : Res α) (env : Env) (k : α → Sto → Res Fl) : Res Fl :=
  match r with
  | .ok a st => k a st
  | .exc x st => .ok (.xc x env) st
  | .bad => .bad
@[simp] theorem Res.thn_ok {α : Type} (a : α) (st : Sto) (env : Env) (k : α → Sto → Res Fl) : (Res.ok a st).thn env k = k a st := rfl
@[simp] theorem Res.thn_exc {α : Type} (x : Exn) (st : Sto) (env : Env) (k : α → Sto → Res Fl) : (Res.exc x st : Res α).thn env k = .ok (.xc x env) st := rfl

/-- what follows a statement -/
def nxt (f : Fl) (st : Sto) (k : Env → Sto → Res Fl) : Res Fl :=
  match f with
  | .nx env => k env st
  | .rt d => .ok (.rt d) st
  | .xc x env => .ok (.xc x env) st
def envTop : Env → Nat
  | [] => 0
  | some d :: r => max d.top (envTop r)
  | none :: r => envTop r

/-- the list of a name becomes a value -/
def frzV (i : Nat) (env : Env) (st : Sto) : Res Fl :=
  match env[i]? with
  | some (some (.ref n)) => match st[n]? with
    | some (.lst xs) => .ok (.nx (env.set i (some (.lst xs)))) (st.set n (.fro xs))
    | _ => .bad
  | _ => .bad
def forLoop (tg : D → Env → Sto → Res Env) (body : Env → Sto → Res Fl) (src : Src) (n : Nat) : List D → Env → Sto → Res Fl
  | [], env, st => if still src st then .ok (.nx env) st else .bad
  | x :: xs, env, st => if still src st then
      (tg x env st).bind fun env st => (body env st).bind fun f st => nxt f st fun env st => forLoop tg body src n xs env (trim n (envTop env) st)
    else .bad

def whileLoop (cnd : Env → Sto → Res D) (body : Env → Sto → Res Fl) (n : Nat) : Nat → Env → Sto → Res Fl
  | 0, _, _ => .bad
  | k + 1, env, st => (cnd env st).bind fun c st => br (tru c st) ((body env st).bind fun f st => nxt f st fun env st => whileLoop cnd body n k env (trim n (envTop env) st)) (.ok (.nx env) st)
def envNox (env : Env) : Bool := env.all fun o => match o with
  | some d => d.nox
  | none => true
def stoSame : Sto → Sto → Bool
  | [], [] => true
  | .lst a :: s, .lst b :: t => sames a b && stoSame s t
  | .fro a :: s, .fro b :: t => sames a b && stoSame s t
  | _, _ => false
def dropAt (i : Option Nat) (env : Env) : Env := match i with
  | some i => env.set i none
  | none => env
def putX (i : Option Nat) (x : Exn) (env : Env) : Env := match i with
  | some i => env.set i (some (.exn x.cls x.args))
  | none => env
def trEnd (h : Exn → Env → Sto → Res Fl) (f : Fl) (st : Sto) : Res Fl := match f with
  | .xc x env => h x env st
  | f => .ok f st
/-- behind an except suite: the store is what it was ahead of it, nothing knows of the exception -/
def sutEnd (i : Option Nat) (st : Sto) (f : Fl) (st' : Sto) : Res Fl :=
  if stoSame (st'.take st.length) st && cuts st.length st then
    match f with
    | .rt d => if d.nox && decide (d.top ≤ st.length) then .ok (.rt d) st else .bad
    | .nx env => if envNox (dropAt i env) && decide (envTop (dropAt i env) ≤ st.length) then .ok (.nx (dropAt i env)) st else .bad
    | .xc _ _ => .bad
  else .bad
mutual
def evS : S → Env → Sto → Res Fl
  | .ex e, env, st => (ev gl cf e env st).thn env fun _ st => .ok (.nx env) st
  | .asg t e, env, st => (ev gl cf e env st).thn env fun d st => (asg gl cf t d env st).bind fun env st => .ok (.nx env) st
  | .two i j a b, env, st => (ev gl cf a env st).bind fun x st => (ev gl cf b env st).bind fun y st => .ok (.nx ((env.set i (some x)).set j (some y))) st
  | .three i j k a b c, env, st => (ev gl cf a env st).bind fun x st => (ev gl cf b env st).bind fun y st => (ev gl cf c env st).bind fun z st => .ok (.nx (((env.set i (some x)).set j (some y)).set k (some z))) st
  | .whl c b, env, st => whileLoop (ev gl cf c) (evSs b) st.length 100000 env st
  | .augIx a i o e, env, st => (ev gl cf a env st).bind fun x st => (ev gl cf i env st).bind fun y st => (ixD x y st).bind fun v st => (ev gl cf e env st).bind fun u st => (augD o v u st).bind fun w st => (putTo (putIx x y w st) env).bind fun env st => .ok (.nx env) st
  | .aug i o e, env, st => (lkV (env[i]?) st).bind fun x st => (ev gl cf e env st).bind fun y st => (augD o x y st).bind fun z st => .ok (.nx (env.set i (some z))) st
  | .ret e, env, st => (ev gl cf e env st).thn env fun d st => .ok (.rt d) st
  | .rse c es, env, st => (evs gl cf es env st).bind fun ds st => .ok (.xc ⟨c, ds⟩ env) st
  | .tr b hs, env, st => (evSs b env st).bind fun f st => trEnd (evH hs) f st
  | .ife c a b, env, st => (ev gl cf c env st).bind fun x st => br (tru x st) (evSs a env st) (evSs b env st)
  | .for_ t it b, env, st => (evI gl cf it env st).bind fun r st => forLoop (asg gl cf t) (evSs b) r.1 st.length r.2 env st
  | .skip, env, st => .ok (.nx env) st
  | .never, _, _ => .bad
  | .frz i, env, st => frzV i env st
def evH : Hs → Exn → Env → Sto → Res Fl
  | .nil, x, env, st => .ok (.xc x env) st
  | .cons cs i b hs, x, env, st => if cs.contains x.cls = true then
      (evSs b (putX i x env) st).bind fun f st' => sutEnd i st f st'
    else evH hs x env st
def evSs : Ss → Env → Sto → Res Fl
  | .nil, env, st => .ok (.nx env) st
  | .cons s ss, env, st => (evS s env st).bind fun f st => nxt f st (evSs ss)
end
end

/-- a def: how many parameters, how many names, its body; does it hand out a list that may be changed? -/
structure Fd where
  np : Nat
  nn : Nat
  body : Ss
  mr : Bool

/-- a def's end: what is new and not handed out is forgotten; a new list that is handed out is a value from now on -/
def fin (mr : Bool) (n : Nat) (f : Fl) (st : Sto) : Res D :=
  match f with
  | .nx _ => .ok .non (trim n 0 st)
  | .rt d => if !mr && decide (n < d.top) then
      match frz st n 60 d with
      | some e => if decide (e.top ≤ n) && cuts n st then .ok e (st.take n) else .bad
      | none => .bad
    else .ok d (trim n d.top st)
  | .xc x _ => if tops x.args ≤ n then .exc x (trim n (tops x.args) st) else .bad
def callN (gl : List D) (P : List Fd) : Nat → CallF
  | 0, _, _, _ => .bad
  | n + 1, f, ds, st => match P[f]? with
    | none => .bad
    | some fd => if ds.length = fd.np then (evSs gl (callN gl P n) fd.body (ds.map some ++ List.replicate (fd.nn - fd.np) none) st).bind (fin fd.mr st.length) else .bad
theorem call_eq {gl : List D} {P : List Fd} {n f : Nat} {fd : Fd} {ds : List D} {st : Sto} (h : P[f]? = some fd) (hl : ds.length = fd.np) :
    callN gl P (n + 1) f ds st = (evSs gl (callN gl P n) fd.body (ds.map some ++ List.replicate (fd.nn - fd.np) none) st).bind (fin fd.mr st.length) := by
  simp only [callN, h, hl, if_true]

theorem nxt_nx {env : Env} {st : Sto} {k : Env → Sto → Res Fl} : nxt (.nx env) st k = k env st := rfl
theorem nxt_xc {x : Exn} {env : Env} {st : Sto} {k : Env → Sto → Res Fl} : nxt (.xc x env) st k = .ok (.xc x env) st := rfl
theorem nxt_rt {d : D} {st : Sto} {k : Env → Sto → Res Fl} : nxt (.rt d) st k = .ok (.rt d) st := rfl
theorem fin_rt {mr : Bool} {n : Nat} {d : D} {st : Sto} (h : d.top ≤ n) : fin mr n (.rt d) st = .ok d (trim n d.top st) := by
  have : decide (n < d.top) = false := decide_eq_false (by omega)
  simp [fin, this]
theorem fin_rtM {n : Nat} {d : D} {st : Sto} : fin true n (.rt d) st = .ok d (trim n d.top st) := rfl
theorem fin_nx {mr : Bool} {n : Nat} {env : Env} {st : Sto} : fin mr n (.nx env) st = .ok .non (trim n 0 st) := rfl
theorem fin_xc {mr : Bool} {n : Nat} {x : Exn} {env : Env} {st : Sto} (h : tops x.args ≤ n) : fin mr n (.xc x env) st = .exc x (trim n (tops x.args) st) := by simp only [fin, if_pos h]
theorem tru_bl {b : Bool} {st : Sto} : tru (.bl b) st = some b := rfl
def tyB : Ty → D → Bool
  | .int, .int _ => true
  | .int, .bl _ => true
  | .bool, .bl _ => true
  | .tuple, .tup _ => true
  | .str, .str _ => true
  | .list, .ref _ => true
  | .list, .lst _ => true
  | .dict, .dct _ _ => true
  | _, _ => false
theorem isi_eq {t : Ty} {d : D} {st : Sto} (h : d.top ≤ st.length) (hx : ∀ c xs, d ≠ .exn c xs) : isiD t d st = .ok (.bl (tyB t d)) st := by
  cases d with
  | ref n =>
    have hn : n < st.length := h
    have e : ∃ o, st[n]? = some o := ⟨st[n], List.getElem?_eq_getElem hn⟩
    obtain ⟨o, e⟩ := e
    cases t <;> simp [isiD, hn, tyIs, tyB, ofB, e]
  | exn c xs => exact absurd rfl (hx c xs)
  | _ => cases t <;> rfl

/-! ### what a call leaves -/
def Wf (st : Sto) : Prop := ∀ o ∈ st, o.top ≤ st.length
theorem trim_app {st more : Sto} {t : Nat} (w : Wf st) (h : t ≤ st.length) : trim st.length t (st ++ more) = st := by
  have e : (st ++ more).take st.length = st := List.take_left
  unfold trim
  rw [e, if_pos ⟨h, List.all_eq_true.mpr fun o ho => decide_eq_true (w o ho)⟩]
theorem trim_id {st : Sto} {t : Nat} (w : Wf st) (h : t ≤ st.length) : trim st.length t st = st := by
  have := trim_app (more := []) w h
  simpa using this
theorem trim_len {st st' more : Sto} {t : Nat} (w : Wf st') (hl : st'.length = st.length) (h : t ≤ st.length) : trim st.length t (st' ++ more) = st' := by
  rw [← hl] at h ⊢
  exact trim_app w h
end RP

/-! the small machine stands for the model's: how data and store lie in the abstract heap -/
namespace RP
open PySem L2

/-- where the store's things stand, and what is not to be touched -/
structure Pl where
  f : Nat → Addr
  R : Addr → Prop
instance : CoeFun Pl (fun _ => Nat → Addr) := ⟨Pl.f⟩
/-- the written part; which exceptions are at hand: at an address, of a class by number, its dict; the field that a class keeps -/
structure Hz where
  hx : Addr → Nat → Option Addr → Prop
  fl : Nat → Str
structure Kx extends Hz where
  K : PySem.W.Frag
/-- what may change, or is held -/
def Mu (ρ : Pl) (st : Sto) (a : Addr) : Prop := ρ.R a ∨ ∃ n xs, st[n]? = some (.lst xs) ∧ ρ n = a

mutual
inductive RV (K : Kx) (ρ : Pl) (st : Sto) (H : Hp) : D → V → Prop where
  | non : RV K ρ st H .non .non
  | bl (b : Bool) : RV K ρ st H (.bl b) (.bl b)
  | int (i : Int) : RV K ρ st H (.int i) (.int i)
  | str (x : Str) : RV K ρ st H (.str x) (.str x)
  | tup {a : Addr} {vs : List V} {ds : List D} : SqT K.K H a vs → RVs K ρ st H ds vs → RV K ρ st H (.tup ds) (.ref a)
  | lst {a : Addr} {vs : List V} {ds : List D} : H a = some (.lst vs) → ¬ Mu ρ st a → RVs K ρ st H ds vs → RV K ρ st H (.lst ds) (.ref a)
  | dct {a : Addr} {ks : List Key} {vs : List V} {ds : List D} : H a = some (.dK (ks.zip vs)) → ks.length = vs.length → ¬ Mu ρ st a → RVs K ρ st H ds vs → RV K ρ st H (.dct ks ds) (.ref a)
  | ref {n : Nat} : n < st.length → RV K ρ st H (.ref n) (.ref (ρ n))
  | exn0 {a : Addr} {c : Nat} : K.hx a c none → RV K ρ st H (.exn c []) (.ref a)
  | exn1 {a q : Addr} {c : Nat} {x : D} {u : V} : K.hx a c (some q) → H q = some (.xd [(K.fl c, u)]) → ¬ Mu ρ st q → RV K ρ st H x u → RV K ρ st H (.exn c [x]) (.ref a)
inductive RVs (K : Kx) (ρ : Pl) (st : Sto) (H : Hp) : List D → List V → Prop where
  | nil : RVs K ρ st H [] []
  | cons {d : D} {v : V} {ds : List D} {vs : List V} : RV K ρ st H d v → RVs K ρ st H ds vs → RVs K ρ st H (d :: ds) (v :: vs)
end

variable {K : Kx}

mutual
theorem RV.move {ρ ρ' : Pl} {st st' : Sto} {H H' : Hp} (hL : st.length ≤ st'.length) (hr : ∀ n, n < st.length → ρ' n = ρ n) (ht : ∀ a xs, SqT K.K H a xs → SqT K.K H' a xs) (hk : ∀ a o, H a = some o → ¬ Mu ρ st a → H' a = some o ∧ ¬ Mu ρ' st' a) :
    ∀ {d : D} {v : V}, RV K ρ st H d v → RV K ρ' st' H' d v
  | .non, _, .non => .non
  | .bl _, _, .bl _ => .bl _
  | .int _, _, .int _ => .int _
  | .str _, _, .str _ => .str _
  | .tup _, _, .tup h r => .tup (ht _ _ h) (RVs.move hL hr ht hk r)
  | .lst _, _, .lst h m r => .lst (hk _ _ h m).1 (hk _ _ h m).2 (RVs.move hL hr ht hk r)
  | .dct _ _, _, .dct h l m r => .dct (hk _ _ h m).1 l (hk _ _ h m).2 (RVs.move hL hr ht hk r)
  | .ref n, _, .ref h => by rw [← hr n h]; exact .ref (Nat.lt_of_lt_of_le h hL)
  | .exn _ _, _, .exn0 h => .exn0 h
  | .exn _ _, _, .exn1 h q m r => .exn1 h (hk _ _ q m).1 (hk _ _ q m).2 (RV.move hL hr ht hk r)
theorem RVs.move {ρ ρ' : Pl} {st st' : Sto} {H H' : Hp} (hL : st.length ≤ st'.length) (hr : ∀ n, n < st.length → ρ' n = ρ n) (ht : ∀ a xs, SqT K.K H a xs → SqT K.K H' a xs) (hk : ∀ a o, H a = some o → ¬ Mu ρ st a → H' a = some o ∧ ¬ Mu ρ' st' a) :
    ∀ {d : List D} {v : List V}, RVs K ρ st H d v → RVs K ρ' st' H' d v
  | [], _, .nil => .nil
  | _ :: _, _, .cons h r => .cons (RV.move hL hr ht hk h) (RVs.move hL hr ht hk r)
end
mutual
/-- only what the value reaches matters -/
theorem RV.low {ρ ρ' : Pl} {st st' : Sto} {H : Hp} {m : Nat} (hm : m ≤ st'.length) (hr : ∀ n, n < m → ρ' n = ρ n) (hk : ∀ a, ¬ Mu ρ st a → ¬ Mu ρ' st' a) : ∀ {d : D} {v : V}, d.top ≤ m → RV K ρ st H d v → RV K ρ' st' H d v
  | .non, _, _, .non => .non
  | .bl _, _, _, .bl _ => .bl _
  | .int _, _, _, .int _ => .int _
  | .str _, _, _, .str _ => .str _
  | .tup _, _, z, .tup h r => .tup h (RVs.low hm hr hk (by simpa [D.top] using z) r)
  | .lst _, _, z, .lst h q r => .lst h (hk _ q) (RVs.low hm hr hk (by simpa [D.top] using z) r)
  | .dct _ _, _, z, .dct h l q r => .dct h l (hk _ q) (RVs.low hm hr hk (by simpa [D.top] using z) r)
  | .ref n, _, z, .ref h => by
    have hn : n < m := by simp [D.top] at z; omega
    rw [← hr n hn]; exact .ref (Nat.lt_of_lt_of_le hn hm)
  | .exn _ _, _, _, .exn0 h => .exn0 h
  | .exn _ _, _, z, .exn1 h q m r => .exn1 h q (hk _ m) (RV.low hm hr hk (by simp only [D.top, tops] at z; omega) r)
theorem RVs.low {ρ ρ' : Pl} {st st' : Sto} {H : Hp} {m : Nat} (hm : m ≤ st'.length) (hr : ∀ n, n < m → ρ' n = ρ n) (hk : ∀ a, ¬ Mu ρ st a → ¬ Mu ρ' st' a) : ∀ {d : List D} {v : List V}, tops d ≤ m → RVs K ρ st H d v → RVs K ρ' st' H d v
  | [], _, _, .nil => .nil
  | _ :: _, _, z, .cons h r => by
    have z' := z
    simp only [tops, Nat.max_le] at z'
    exact .cons (RV.low hm hr hk z'.1 h) (RVs.low hm hr hk z'.2 r)
end
theorem RVs.length {ρ : Pl} {st : Sto} {H : Hp} : ∀ {ds : List D} {vs : List V}, RVs K ρ st H ds vs → ds.length = vs.length
  | _, _, .nil => rfl
  | _, _, .cons _ r => by simp [r.length]
theorem RVs.get {ρ : Pl} {st : Sto} {H : Hp} : ∀ {ds : List D} {vs : List V} {i : Nat} {d : D}, RVs K ρ st H ds vs → ds[i]? = some d → ∃ v, vs[i]? = some v ∧ RV K ρ st H d v
  | _, _, _, _, .nil, e => by simp at e
  | _, _, 0, _, .cons h _, e => by simp at e; subst e; exact ⟨_, rfl, h⟩
  | _, _, i + 1, d, .cons _ r, e => by
    obtain ⟨v, h1, h2⟩ := RVs.get (i := i) (d := d) r (by simpa using e)
    exact ⟨v, by simpa using h1, h2⟩
theorem RVs.app {ρ : Pl} {st : Sto} {H : Hp} : ∀ {ds es : List D} {vs us : List V}, RVs K ρ st H ds vs → RVs K ρ st H es us → RVs K ρ st H (ds ++ es) (vs ++ us)
  | _, _, _, _, .nil, s => s
  | _, _, _, _, .cons h r, s => .cons h (RVs.app r s)
theorem RVs.set {ρ : Pl} {st : Sto} {H : Hp} {d : D} {v : V} (h : RV K ρ st H d v) : ∀ {ds : List D} {vs : List V} (i : Nat), RVs K ρ st H ds vs → RVs K ρ st H (ds.set i d) (vs.set i v)
  | _, _, _, .nil => .nil
  | _, _, 0, .cons _ r => .cons h r
  | _, _, i + 1, .cons q r => .cons q (RVs.set h i r)
theorem RVs.rep {ρ : Pl} {st : Sto} {H : Hp} {ds : List D} {vs : List V} (h : RVs K ρ st H ds vs) : ∀ k : Nat, RVs K ρ st H (List.replicate k ds).flatten (List.replicate k vs).flatten
  | 0 => .nil
  | k + 1 => by
    rw [List.replicate_succ, List.replicate_succ, List.flatten_cons, List.flatten_cons]
    exact h.app (RVs.rep h k)

/-- a list that nobody writes -/
def Fro (K : Kx) (H : Hp) (a : Addr) (xs : List V) : Prop :=
  (∃ o, H a = some (.frz o (.lst xs))) ∨
    ∃ (o : Obj) (its : Array Value) (n : Nat), K.K.lookup a = some o ∧ o.cls = .type "list" ∧ o.dict = none ∧ o.data = .seq its n ∧ its.size ≤ sizeLine ∧ Vals xs its.toList
theorem Fro.sq {H : Hp} {a : Addr} {xs : List V} (h : Fro K H a xs) : SqL K.K H a xs := by
  rcases h with ⟨o, h⟩ | h
  · exact .inl (.inr ⟨o, h⟩)
  · exact .inr h

/-- a list that is read only -/
def FroM (K : Kx) (ρ : Pl) (st : Sto) (H : Hp) (a : Addr) (xs : List V) : Prop := Fro K H a xs ∨ (H a = some (.lst xs) ∧ ¬ Mu ρ st a)
theorem FroM.sq {ρ : Pl} {st : Sto} {H : Hp} {a : Addr} {xs : List V} (h : FroM K ρ st H a xs) : SqL K.K H a xs := h.elim Fro.sq fun z => SqL.of z.1
theorem FroM.move {ρ ρ' : Pl} {st st' : Sto} {H H' : Hp} (hf : ∀ a xs, Fro K H a xs → Fro K H' a xs) (hk : ∀ a o, H a = some o → ¬ Mu ρ st a → H' a = some o ∧ ¬ Mu ρ' st' a) {a : Addr} {xs : List V} (h : FroM K ρ st H a xs) : FroM K ρ' st' H' a xs :=
  h.elim (fun z => .inl (hf _ _ z)) fun z => .inr (hk _ _ z.1 z.2)
structure Rep (K : Kx) (ρ : Pl) (H : Hp) (st : Sto) : Prop where
  inj : ∀ m n xs ys, st[m]? = some (.lst xs) → st[n]? = some (.lst ys) → ρ m = ρ n → m = n
  lst : ∀ n xs, st[n]? = some (.lst xs) → ∃ vs, H (ρ n) = some (.lst vs) ∧ RVs K ρ st H xs vs
  fro : ∀ n xs, st[n]? = some (.fro xs) → ∃ vs, FroM K ρ st H (ρ n) vs ∧ RVs K ρ st H xs vs
  nr : ∀ n xs, st[n]? = some (.lst xs) → ¬ ρ.R (ρ n)
  rs : ∀ a, ρ.R a → H a ≠ none
theorem Rep.seq {ρ : Pl} {H : Hp} {st : Sto} (r : Rep K ρ H st) {n : Nat} {o : O} (h : st[n]? = some o) : ∃ vs, SqL K.K H (ρ n) vs ∧ RVs K ρ st H o.items vs := by
  cases o with
  | lst xs =>
    obtain ⟨vs, h1, h2⟩ := r.lst n xs h
    exact ⟨vs, SqL.of h1, h2⟩
  | fro xs =>
    obtain ⟨vs, h1, h2⟩ := r.fro n xs h
    exact ⟨vs, h1.sq, h2⟩
theorem Rep.mu {ρ : Pl} {H : Hp} {st : Sto} (r : Rep K ρ H st) {a : Addr} (h : Mu ρ st a) : H a ≠ none := by
  rcases h with h | ⟨n, xs, h, rfl⟩
  · exact r.rs a h
  · obtain ⟨vs, h1, _⟩ := r.lst n xs h
    rw [h1]; exact fun z => nomatch z

structure Go (K : Kx) (ρ : Pl) (st : Sto) (H : Hp) (ρ' : Pl) (st' : Sto) (H' : Hp) : Prop where
  len : st.length ≤ st'.length
  rho : ∀ n, n < st.length → ρ' n = ρ n
  res : ∀ a, ρ.R a → ρ'.R a
  t : ∀ a xs, SqT K.K H a xs → SqT K.K H' a xs
  f : ∀ a xs, Fro K H a xs → Fro K H' a xs
  keep : ∀ a o, H a = some o → ¬ Mu ρ st a → H' a = some o ∧ ¬ Mu ρ' st' a
  kr : ∀ a, ρ.R a → H' a = H a
  rep : Rep K ρ' H' st'
theorem Go.refl {ρ : Pl} {H : Hp} {st : Sto} (r : Rep K ρ H st) : Go K ρ st H ρ st H := ⟨Nat.le_refl _, fun _ _ => rfl, fun _ h => h, fun _ _ h => h, fun _ _ h => h, fun _ _ h m => ⟨h, m⟩, fun _ _ => rfl, r⟩
theorem Go.trans {ρ ρ1 ρ2 : Pl} {H H1 H2 : Hp} {st st1 st2 : Sto} (a : Go K ρ st H ρ1 st1 H1) (b : Go K ρ1 st1 H1 ρ2 st2 H2) : Go K ρ st H ρ2 st2 H2 :=
  ⟨Nat.le_trans a.len b.len, fun n h => by rw [b.rho n (Nat.lt_of_lt_of_le h a.len), a.rho n h], fun x h => b.res x (a.res x h), fun x xs h => b.t x xs (a.t x xs h), fun x xs h => b.f x xs (a.f x xs h),
    fun x o h m => b.keep x o (a.keep x o h m).1 (a.keep x o h m).2, fun x h => by rw [b.kr x (a.res x h), a.kr x h], b.rep⟩
theorem Go.rv {ρ ρ1 : Pl} {H H1 : Hp} {st st1 : Sto} (a : Go K ρ st H ρ1 st1 H1) {d : D} {v : V} (h : RV K ρ st H d v) : RV K ρ1 st1 H1 d v := h.move a.len a.rho a.t a.keep
theorem Go.rvs {ρ ρ1 : Pl} {H H1 : Hp} {st st1 : Sto} (a : Go K ρ st H ρ1 st1 H1) {d : List D} {v : List V} (h : RVs K ρ st H d v) : RVs K ρ1 st1 H1 d v := h.move a.len a.rho a.t a.keep

theorem sqT_new {H : Hp} {p : Addr} {o : HO} (hp : H p = none) : ∀ a xs, SqT K.K H a xs → SqT K.K (upd H p o) a xs := fun a xs h => by
  rcases h with (h | ⟨u, h⟩) | h
  · exact .inl (.inl (by rw [upd_ne (ne_of_none h hp)]; exact h))
  · exact .inl (.inr ⟨u, by rw [upd_ne (ne_of_none h hp)]; exact h⟩)
  · exact .inr h
theorem fro_new {H : Hp} {p : Addr} {o : HO} (hp : H p = none) : ∀ a xs, Fro K H a xs → Fro K (upd H p o) a xs := fun a xs h => by
  rcases h with ⟨u, h⟩ | h
  · exact .inl ⟨u, by rw [upd_ne (ne_of_none h hp)]; exact h⟩
  · exact .inr h
theorem sqT_mut {H : Hp} {p : Addr} {o : HO} {ys : List V} (hp : H p = some (.lst ys)) : ∀ a xs, SqT K.K H a xs → SqT K.K (upd H p o) a xs := fun a xs h => by
  rcases h with (h | ⟨u, h⟩) | h
  · exact .inl (.inl (by rw [upd_ne (ne_of h hp (by intro z; cases z))]; exact h))
  · exact .inl (.inr ⟨u, by rw [upd_ne (ne_of h hp (by intro z; cases z))]; exact h⟩)
  · exact .inr h
theorem fro_mut {H : Hp} {p : Addr} {o : HO} {ys : List V} (hp : H p = some (.lst ys)) : ∀ a xs, Fro K H a xs → Fro K (upd H p o) a xs := fun a xs h => by
  rcases h with ⟨u, h⟩ | h
  · exact .inl ⟨u, by rw [upd_ne (ne_of h hp (by intro z; cases z))]; exact h⟩
  · exact .inr h

/-- the heap grows by a thing that the store does not know -/
theorem Go.fresh {ρ : Pl} {H : Hp} {st : Sto} {p : Addr} {o : HO} (r : Rep K ρ H st) (hp : H p = none) : Go K ρ st H ρ st (upd H p o) := by
  have kp : ∀ a u, H a = some u → ¬ Mu ρ st a → upd H p o a = some u ∧ ¬ Mu ρ st a := fun a u h m => ⟨by rw [upd_ne (ne_of_none h hp)]; exact h, m⟩
  have mv : ∀ {ds : List D} {vs : List V}, RVs K ρ st H ds vs → RVs K ρ st (upd H p o) ds vs := fun h => h.move (Nat.le_refl _) (fun _ _ => rfl) (sqT_new hp) kp
  refine ⟨Nat.le_refl _, fun _ _ => rfl, fun _ h => h, sqT_new hp, fro_new hp, kp, fun a h => ?_, ⟨r.inj, fun n xs h => ?_, fun n xs h => ?_, r.nr, fun a h => ?_⟩⟩
  · exact upd_ne (fun z : a = p => r.rs a h (by rw [z]; exact hp))
  · obtain ⟨vs, h1, h2⟩ := r.lst n xs h
    exact ⟨vs, by rw [upd_ne (ne_of_none h1 hp)]; exact h1, mv h2⟩
  · obtain ⟨vs, h1, h2⟩ := r.fro n xs h
    exact ⟨vs, h1.move (fro_new hp) kp, mv h2⟩
  · rw [upd_ne (fun z : a = p => r.rs a h (by rw [z]; exact hp))]; exact r.rs a h
theorem Rep.notMu {ρ : Pl} {H : Hp} {st : Sto} (r : Rep K ρ H st) {p : Addr} (hp : H p = none) : ¬ Mu ρ st p := fun h => r.mu h hp

def put (ρ : Pl) (n : Nat) (p : Addr) : Pl := ⟨fun m => if m = n then p else ρ m, ρ.R⟩
theorem put_same {ρ : Pl} {n : Nat} {p : Addr} : put ρ n p n = p := if_pos rfl
theorem put_ne {ρ : Pl} {m n : Nat} {p : Addr} (h : m ≠ n) : put ρ n p m = ρ m := if_neg h
theorem at_app {st : Sto} {o u : O} {n : Nat} (h : (st ++ [u])[n]? = some o) : (n < st.length ∧ st[n]? = some o) ∨ (n = st.length ∧ o = u) := by
  by_cases hl : n < st.length
  · rw [List.getElem?_append_left hl] at h
    exact .inl ⟨hl, h⟩
  · rw [List.getElem?_append_right (Nat.le_of_not_lt hl)] at h
    by_cases e : n = st.length
    · subst e; simp at h; exact .inr ⟨rfl, h.symm⟩
    · have : 1 ≤ n - st.length := by omega
      rw [List.getElem?_eq_none (by simpa using this)] at h; cases h
theorem mu_put {ρ : Pl} {st : Sto} {p a : Addr} {ds : List D} (h : Mu (put ρ st.length p) (st ++ [.lst ds]) a) : Mu ρ st a ∨ a = p := by
  rcases h with h | ⟨n, xs, h, e⟩
  · exact .inl (.inl h)
  · rcases at_app h with ⟨l, h⟩ | ⟨rfl, _⟩
    · exact .inl (.inr ⟨n, xs, h, by rw [← e, put_ne (Nat.ne_of_lt l)]⟩)
    · exact .inr (by rw [← e, put_same])
/-- a new list -/
theorem Go.newL {ρ : Pl} {H : Hp} {st : Sto} {p : Addr} {ds : List D} {vs : List V} (r : Rep K ρ H st) (hp : H p = none) (h : RVs K ρ st H ds vs) :
    Go K ρ st H (put ρ st.length p) (st ++ [.lst ds]) (upd H p (.lst vs)) := by
  have kp : ∀ a u, H a = some u → ¬ Mu ρ st a → upd H p (.lst vs) a = some u ∧ ¬ Mu (put ρ st.length p) (st ++ [.lst ds]) a := fun a u h m => by
    have ne := ne_of_none h hp
    exact ⟨by rw [upd_ne ne]; exact h, fun z => (mu_put z).elim m ne⟩
  have mv : ∀ {es : List D} {us : List V}, RVs K ρ st H es us → RVs K (put ρ st.length p) (st ++ [.lst ds]) (upd H p (.lst vs)) es us := fun h => h.move (by simp) (fun n hn => put_ne (Nat.ne_of_lt hn)) (sqT_new hp) kp
  refine ⟨by simp, fun n hn => put_ne (Nat.ne_of_lt hn), fun _ h => h, sqT_new hp, fro_new hp, kp, fun a h => upd_ne (fun z : a = p => r.rs a h (by rw [z]; exact hp)), ⟨fun m n xs ys h1 h2 e => ?_, fun n xs q => ?_, fun n xs q => ?_, fun n xs q => ?_, fun a q => ?_⟩⟩
  · rcases at_app h1 with ⟨l1, h1⟩ | ⟨rfl, _⟩
    · rcases at_app h2 with ⟨l2, h2⟩ | ⟨rfl, _⟩
      · rw [put_ne (Nat.ne_of_lt l1), put_ne (Nat.ne_of_lt l2)] at e
        exact r.inj m n xs ys h1 h2 e
      · rw [put_ne (Nat.ne_of_lt l1), put_same] at e
        obtain ⟨ws, k, _⟩ := r.lst m xs h1
        rw [e, hp] at k; cases k
    · rcases at_app h2 with ⟨l2, h2⟩ | ⟨rfl, _⟩
      · rw [put_same, put_ne (Nat.ne_of_lt l2)] at e
        obtain ⟨ws, k, _⟩ := r.lst n ys h2
        rw [← e, hp] at k; cases k
      · rfl
  · rcases at_app q with ⟨l1, q⟩ | ⟨rfl, e⟩
    · obtain ⟨ws, h1, h2⟩ := r.lst n xs q
      exact ⟨ws, by rw [put_ne (Nat.ne_of_lt l1), upd_ne (ne_of_none h1 hp)]; exact h1, mv h2⟩
    · cases e
      exact ⟨vs, by rw [put_same]; exact upd_same, mv h⟩
  · rcases at_app q with ⟨l1, q⟩ | ⟨rfl, e⟩
    · obtain ⟨ws, h1, h2⟩ := r.fro n xs q
      exact ⟨ws, by rw [put_ne (Nat.ne_of_lt l1)]; exact h1.move (fro_new hp) kp, mv h2⟩
    · cases e
  · rcases at_app q with ⟨l1, q⟩ | ⟨rfl, e⟩
    · rw [put_ne (Nat.ne_of_lt l1)]; exact r.nr n xs q
    · rw [put_same]; exact fun z => r.rs p z hp
  · rw [upd_ne (fun z : a = p => r.rs a q (by rw [z]; exact hp))]; exact r.rs a q
theorem RV.last {ρ : Pl} {H : Hp} {st : Sto} {p : Addr} {o : O} : RV K (put ρ st.length p) (st ++ [o]) H (.ref st.length) (.ref p) := by
  have h : RV K (put ρ st.length p) (st ++ [o]) H (.ref st.length) (.ref (put ρ st.length p st.length)) := .ref (by simp)
  rw [put_same] at h
  exact h
/-- a new list that nobody will change -/
theorem RV.newV {ρ : Pl} {H : Hp} {st : Sto} {p : Addr} {ds : List D} {vs : List V} (r : Rep K ρ H st) (hp : H p = none) (h : RVs K ρ st H ds vs) : RV K ρ st (upd H p (.lst vs)) (.lst ds) (.ref p) :=
  .lst upd_same (r.notMu hp) ((Go.fresh r hp).rvs h)
theorem at_set {st : Sto} {n : Nat} {xs ys : List D} (hn : st[n]? = some (.lst xs)) {m : Nat} {o : O} (h : (st.set n (O.lst ys))[m]? = some o) : (m ≠ n ∧ st[m]? = some o) ∨ (m = n ∧ o = .lst ys) := by
  by_cases e : n = m
  · subst e
    have hl : n < st.length := (List.getElem?_eq_some_iff.mp hn).1
    rw [List.getElem?_set_self hl] at h
    exact .inr ⟨rfl, (Option.some.inj h).symm⟩
  · rw [List.getElem?_set_ne e] at h
    exact .inl ⟨fun z => e z.symm, h⟩
theorem mu_set {ρ : Pl} {st : Sto} {n : Nat} {xs ys : List D} (hn : st[n]? = some (.lst xs)) {a : Addr} (h : Mu ρ (st.set n (.lst ys)) a) : Mu ρ st a := by
  rcases h with h | ⟨m, zs, h, e⟩
  · exact .inl h
  · rcases at_set hn h with ⟨_, h⟩ | ⟨rfl, _⟩
    · exact .inr ⟨m, zs, h, e⟩
    · exact .inr ⟨m, xs, hn, e⟩
/-- a list is changed -/
theorem Go.setL {ρ : Pl} {H : Hp} {st : Sto} {n : Nat} {xs ys : List D} {vs ws : List V} (r : Rep K ρ H st) (hn : st[n]? = some (.lst xs)) (hv : H (ρ n) = some (.lst vs)) (h : RVs K ρ st H ys ws) :
    Go K ρ st H ρ (st.set n (.lst ys)) (upd H (ρ n) (.lst ws)) := by
  have kp : ∀ a u, H a = some u → ¬ Mu ρ st a → upd H (ρ n) (.lst ws) a = some u ∧ ¬ Mu ρ (st.set n (.lst ys)) a := fun a u h m =>
    ⟨by rw [upd_ne (fun z => m (.inr ⟨n, xs, hn, z.symm⟩))]; exact h, fun z => m (mu_set hn z)⟩
  have mv : ∀ {ds : List D} {vs : List V}, RVs K ρ st H ds vs → RVs K ρ (st.set n (.lst ys)) (upd H (ρ n) (.lst ws)) ds vs := fun h => h.move (by simp) (fun _ _ => rfl) (sqT_mut hv) kp
  have back : ∀ {m : Nat} {zs : List D}, (st.set n (O.lst ys))[m]? = some (.lst zs) → ∃ zs', st[m]? = some (.lst zs') := fun {m zs} h => by
    rcases at_set hn h with ⟨_, h⟩ | ⟨rfl, _⟩
    · exact ⟨_, h⟩
    · exact ⟨_, hn⟩
  refine ⟨by simp, fun _ _ => rfl, fun _ h => h, sqT_mut hv, fro_mut hv, kp, fun a q => upd_ne (fun z : a = ρ n => r.nr n xs hn (by rw [← z]; exact q)), ⟨fun a b as bs h1 h2 e => ?_, fun m zs h => ?_, fun m zs h => ?_, fun m zs h => ?_, fun a q => ?_⟩⟩
  · obtain ⟨_, h1⟩ := back h1
    obtain ⟨_, h2⟩ := back h2
    exact r.inj a b _ _ h1 h2 e
  · rcases at_set hn h with ⟨ne, h⟩ | ⟨rfl, e⟩
    · obtain ⟨us, h1, h2⟩ := r.lst m zs h
      exact ⟨us, by rw [upd_ne (fun z => ne (r.inj m n _ _ h hn z))]; exact h1, mv h2⟩
    · cases e
      exact ⟨ws, upd_same, mv ‹_›⟩
  · rcases at_set hn h with ⟨ne, h⟩ | ⟨rfl, e⟩
    · obtain ⟨us, h1, h2⟩ := r.fro m zs h
      exact ⟨us, h1.move (fro_mut hv) kp, mv h2⟩
    · cases e
  · obtain ⟨_, h⟩ := back h
    exact r.nr m _ h
  · rw [upd_ne (fun z : a = ρ n => r.nr n xs hn (by rw [← z]; exact q))]; exact r.rs a q

/-! ### what is held -/
def Pl.hold (ρ : Pl) (p : Addr) : Pl := ⟨ρ.f, fun a => ρ.R a ∨ a = p⟩
def Pl.free (ρ : Pl) (p : Addr) : Pl := ⟨ρ.f, fun a => ρ.R a ∧ a ≠ p⟩
theorem mu_hold {ρ : Pl} {st : Sto} {p a : Addr} : Mu (ρ.hold p) st a ↔ Mu ρ st a ∨ a = p := by
  constructor
  · rintro ((h | h) | h)
    · exact .inl (.inl h)
    · exact .inr h
    · exact .inl (.inr h)
  · rintro ((h | h) | h)
    · exact .inl (.inl h)
    · exact .inr h
    · exact .inl (.inr h)
theorem mu_free {ρ : Pl} {st : Sto} {p a : Addr} (h : Mu (ρ.free p) st a) : Mu ρ st a := by
  rcases h with h | h
  · exact .inl h.1
  · exact .inr h
/-- a new thing that is held -/
theorem Go.hold {ρ : Pl} {H : Hp} {st : Sto} {p : Addr} {o : HO} (r : Rep K ρ H st) (hp : H p = none) : Go K ρ st H (ρ.hold p) st (upd H p o) := by
  have g := Go.fresh (o := o) r hp
  have kp : ∀ a u, H a = some u → ¬ Mu ρ st a → upd H p o a = some u ∧ ¬ Mu (ρ.hold p) st a := fun a u h m =>
    ⟨(g.keep a u h m).1, fun z => (mu_hold.mp z).elim m (ne_of_none h hp)⟩
  have mv : ∀ {ds : List D} {vs : List V}, RVs K ρ st H ds vs → RVs K (ρ.hold p) st (upd H p o) ds vs := fun h => RVs.move (ρ := ρ) (ρ' := ρ.hold p) (st := st) (st' := st) (Nat.le_refl _) (fun _ _ => rfl) (sqT_new hp) kp h
  refine ⟨Nat.le_refl _, fun _ _ => rfl, fun _ h => .inl h, g.t, g.f, kp, g.kr, ⟨r.inj, fun n xs h => ?_, fun n xs h => ?_, fun n xs h z => ?_, fun a h => ?_⟩⟩
  · obtain ⟨vs, h1, h2⟩ := r.lst n xs h
    exact ⟨vs, by show upd H p o (ρ n) = _; rw [upd_ne (ne_of_none h1 hp)]; exact h1, mv h2⟩
  · obtain ⟨vs, h1, h2⟩ := r.fro n xs h
    exact ⟨vs, h1.move (ρ' := ρ.hold p) (st' := st) (fro_new hp) kp, mv h2⟩
  · rcases z with z | z
    · exact r.nr n xs h z
    · obtain ⟨vs, h1, _⟩ := r.lst n xs h
      have z' : ρ n = p := z
      rw [z', hp] at h1; cases h1
  · rcases h with h | h
    · rw [g.kr a h]; exact r.rs a h
    · subst h; rw [upd_same]; exact fun z => nomatch z
/-- what is held is changed by its holder -/
theorem Go.own {ρ ρ1 : Pl} {H H1 : Hp} {st st1 : Sto} {p : Addr} {vs : List V} {o : HO} (r0 : Rep K ρ H st) (g : Go K ρ st H ρ1 st1 H1) (hp : H p = none) (hr : ρ1.R p) (hv : H1 p = some (.lst vs)) :
    Go K ρ st H ρ1 st1 (upd H1 p o) ∧ (∀ ds us, RVs K ρ1 st1 H1 ds us → RVs K ρ1 st1 (upd H1 p o) ds us) := by
  have kp : ∀ a u, H1 a = some u → ¬ Mu ρ1 st1 a → upd H1 p o a = some u ∧ ¬ Mu ρ1 st1 a := fun a u h m =>
    ⟨by rw [upd_ne (fun z : a = p => m (.inl (by rw [z]; exact hr)))]; exact h, m⟩
  have mv : ∀ {ds : List D} {vs : List V}, RVs K ρ1 st1 H1 ds vs → RVs K ρ1 st1 (upd H1 p o) ds vs := fun h => h.move (Nat.le_refl _) (fun _ _ => rfl) (sqT_mut hv) kp
  refine ⟨⟨g.len, g.rho, g.res, fun a xs h => sqT_mut hv _ _ (g.t a xs h), fun a xs h => fro_mut hv _ _ (g.f a xs h), fun a u h m => ?_, fun a h => ?_, ⟨g.rep.inj, fun n xs h => ?_, fun n xs h => ?_, g.rep.nr, fun a h => ?_⟩⟩, fun ds us h => mv h⟩
  · obtain ⟨h1, h2⟩ := g.keep a u h m
    exact ⟨by rw [upd_ne (ne_of_none h hp)]; exact h1, h2⟩
  · rw [upd_ne (fun z : a = p => r0.rs a h (by rw [z]; exact hp))]; exact g.kr a h
  · obtain ⟨us, h1, h2⟩ := g.rep.lst n xs h
    exact ⟨us, by rw [upd_ne (fun z : ρ1 n = p => g.rep.nr n xs h (by rw [z]; exact hr))]; exact h1, mv h2⟩
  · obtain ⟨us, h1, h2⟩ := g.rep.fro n xs h
    exact ⟨us, h1.move (fro_mut hv) kp, mv h2⟩
  · by_cases e : a = p
    · subst e; rw [upd_same]; exact fun z => nomatch z
    · rw [upd_ne e]; exact g.rep.rs a h
/-- the holder lets go -/
theorem Go.free {ρ ρ1 : Pl} {H H1 : Hp} {st st1 : Sto} {p : Addr} (r0 : Rep K ρ H st) (g : Go K ρ st H ρ1 st1 H1) (hp : H p = none) : Go K ρ st H (ρ1.free p) st1 H1 := by
  have mv : ∀ {ds : List D} {vs : List V}, RVs K ρ1 st1 H1 ds vs → RVs K (ρ1.free p) st1 H1 ds vs := fun h => RVs.move (ρ := ρ1) (ρ' := ρ1.free p) (st := st1) (st' := st1) (Nat.le_refl _) (fun _ _ => rfl) (fun _ _ h => h) (fun a u h m => ⟨h, fun z => m (mu_free z)⟩) h
  refine ⟨g.len, g.rho, fun a h => ⟨g.res a h, fun z : a = p => r0.rs a h (by rw [z]; exact hp)⟩, g.t, g.f, fun a u h m => ⟨(g.keep a u h m).1, fun z => (g.keep a u h m).2 (mu_free z)⟩, g.kr, ⟨g.rep.inj, fun n xs h => ?_, fun n xs h => ?_, fun n xs h z => g.rep.nr n xs h z.1, fun a h => g.rep.rs a h.1⟩⟩
  · obtain ⟨us, h1, h2⟩ := g.rep.lst n xs h
    exact ⟨us, h1, mv h2⟩
  · obtain ⟨us, h1, h2⟩ := g.rep.fro n xs h
    exact ⟨us, h1.move (ρ' := ρ1.free p) (st' := st1) (fun _ _ z => z) (fun a u h m => ⟨h, fun z => m (mu_free z)⟩), mv h2⟩
theorem RVs.free {ρ : Pl} {st : Sto} {H : Hp} {p : Addr} {ds : List D} {vs : List V} (h : RVs K ρ st H ds vs) : RVs K (ρ.free p) st H ds vs :=
  RVs.move (ρ := ρ) (ρ' := ρ.free p) (st := st) (st' := st) (Nat.le_refl _) (fun _ _ => rfl) (fun _ _ h => h) (fun a u h m => ⟨h, fun z => m (mu_free z)⟩) h

/-! ### what is forgotten need not be told -/
theorem mu_take {ρ : Pl} {st : Sto} {n : Nat} {a : Addr} (h : Mu ρ (st.take n) a) : Mu ρ st a := by
  rcases h with h | ⟨m, xs, h, e⟩
  · exact .inl h
  · refine .inr ⟨m, xs, ?_, e⟩
    rw [List.getElem?_take] at h
    split at h
    · exact h
    · cases h
theorem RV.take {ρ : Pl} {st : Sto} {H : Hp} {n : Nat} {d : D} {v : V} (hn : n ≤ st.length) (ht : d.top ≤ n) (h : RV K ρ st H d v) : RV K ρ (st.take n) H d v :=
  h.low (by rw [List.length_take]; omega) (fun _ _ => rfl) (fun a q z => q (mu_take z)) ht
theorem RVs.take {ρ : Pl} {st : Sto} {H : Hp} {n : Nat} {d : List D} {v : List V} (hn : n ≤ st.length) (ht : tops d ≤ n) (h : RVs K ρ st H d v) : RVs K ρ (st.take n) H d v :=
  h.low (by rw [List.length_take]; omega) (fun _ _ => rfl) (fun a q z => q (mu_take z)) ht
theorem Rep.take {ρ : Pl} {H : Hp} {st : Sto} {n : Nat} (r : Rep K ρ H st) (h : ∀ o ∈ st.take n, o.top ≤ n) (hn : n ≤ st.length) : Rep K ρ H (st.take n) := by
  have at' : ∀ {m : Nat} {o : O}, (st.take n)[m]? = some o → st[m]? = some o ∧ o.top ≤ n := fun {m o} q => by
    refine ⟨?_, h o (List.mem_of_getElem? q)⟩
    rw [List.getElem?_take] at q
    split at q
    · exact q
    · cases q
  refine ⟨fun a b as bs h1 h2 e => r.inj a b as bs (at' h1).1 (at' h2).1 e, fun m zs q => ?_, fun m zs q => ?_, fun m zs q => r.nr m zs (at' q).1, r.rs⟩
  · obtain ⟨vs, h1, h2⟩ := r.lst m zs (at' q).1
    exact ⟨vs, h1, h2.take hn (at' q).2⟩
  · obtain ⟨vs, h1, h2⟩ := r.fro m zs (at' q).1
    exact ⟨vs, h1.move (fun _ _ z => z) (fun a u h m => ⟨h, fun z => m (mu_take z)⟩), h2.take hn (at' q).2⟩
theorem Go.take {ρ ρ1 : Pl} {H H1 : Hp} {st st1 : Sto} {n : Nat} (g : Go K ρ st H ρ1 st1 H1) (h : ∀ o ∈ st1.take n, o.top ≤ n) (hn : st.length ≤ n) (h1 : n ≤ st1.length) : Go K ρ st H ρ1 (st1.take n) H1 :=
  ⟨by rw [List.length_take]; omega, g.rho, g.res, g.t, g.f, fun a u q m => ⟨(g.keep a u q m).1, fun z => (g.keep a u q m).2 (mu_take z)⟩, g.kr, g.rep.take h h1⟩
theorem Go.trim {ρ ρ1 : Pl} {H H1 : Hp} {st st1 : Sto} {t : Nat} (g : Go K ρ st H ρ1 st1 H1) : Go K ρ st H ρ1 (trim st.length t st1) H1 := by
  unfold RP.trim
  split
  · rename_i h
    exact g.take (fun o ho => of_decide_eq_true (List.all_eq_true.mp h.2 o ho)) (Nat.le_refl _) g.len
  · exact g
theorem RV.trim {ρ : Pl} {H : Hp} {st1 : Sto} {n t : Nat} {d : D} {v : V} (hn : n ≤ st1.length) (ht : d.top ≤ t) (h : RV K ρ st1 H d v) : RV K ρ (trim n t st1) H d v := by
  unfold RP.trim
  split
  · rename_i q
    exact h.take hn (by omega)
  · exact h
theorem RVs.trim {ρ : Pl} {H : Hp} {st1 : Sto} {n t : Nat} {d : List D} {v : List V} (hn : n ≤ st1.length) (ht : tops d ≤ t) (h : RVs K ρ st1 H d v) : RVs K ρ (trim n t st1) H d v := by
  unfold RP.trim
  split
  · rename_i q
    exact h.take hn (by omega)
  · exact h

mutual
/-- what knows of no exception is the same whatever exceptions are at hand -/
theorem RV.other {K' : Kx} (hK : K'.K = K.K) {ρ : Pl} {st : Sto} {H : Hp} : ∀ {d : D} {v : V}, d.nox = true → RV K ρ st H d v → RV K' ρ st H d v
  | .non, _, _, .non => .non
  | .bl _, _, _, .bl _ => .bl _
  | .int _, _, _, .int _ => .int _
  | .str _, _, _, .str _ => .str _
  | .tup _, _, z, .tup h r => .tup (by rw [hK]; exact h) (RVs.other hK z r)
  | .lst _, _, z, .lst h m r => .lst h m (RVs.other hK z r)
  | .dct _ _, _, z, .dct h l m r => .dct h l m (RVs.other hK z r)
  | .ref _, _, _, .ref h => .ref h
  | .exn _ _, _, z, _ => Bool.noConfusion (show false = true from z)
theorem RVs.other {K' : Kx} (hK : K'.K = K.K) {ρ : Pl} {st : Sto} {H : Hp} : ∀ {d : List D} {v : List V}, noxs d = true → RVs K ρ st H d v → RVs K' ρ st H d v
  | [], _, _, .nil => .nil
  | _ :: _, _, z, .cons h r => by
    have z' := z
    simp only [noxs, Bool.and_eq_true] at z'
    exact .cons (RV.other hK z'.1 h) (RVs.other hK z'.2 r)
end
mutual
/-- where no exception is at hand, none is told of -/
theorem RV.nox (hK : ∀ a c d, ¬ K.hx a c d) {ρ : Pl} {st : Sto} {H : Hp} : ∀ {d : D} {v : V}, RV K ρ st H d v → d.nox = true
  | .non, _, .non => rfl
  | .bl _, _, .bl _ => rfl
  | .int _, _, .int _ => rfl
  | .str _, _, .str _ => rfl
  | .tup _, _, .tup _ r => RVs.nox hK r
  | .lst _, _, .lst _ _ r => RVs.nox hK r
  | .dct _ _, _, .dct _ _ _ r => RVs.nox hK r
  | .ref _, _, .ref _ => rfl
  | .exn _ _, _, .exn0 h => absurd h (hK _ _ _)
  | .exn _ _, _, .exn1 h _ _ _ => absurd h (hK _ _ _)
theorem RVs.nox (hK : ∀ a c d, ¬ K.hx a c d) {ρ : Pl} {st : Sto} {H : Hp} : ∀ {d : List D} {v : List V}, RVs K ρ st H d v → noxs d = true
  | [], _, .nil => rfl
  | _ :: _, _, .cons h r => by simp only [noxs, Bool.and_eq_true]; exact ⟨RV.nox hK h, RVs.nox hK r⟩
end
theorem Fro.other {K' : Kx} (hK : K'.K = K.K) {H : Hp} {a : Addr} {xs : List V} (h : Fro K H a xs) : Fro K' H a xs := by
  rcases h with h | h
  · exact .inl h
  · rw [← hK] at h; exact .inr h
theorem FroM.other {K' : Kx} (hK : K'.K = K.K) {ρ : Pl} {st : Sto} {H : Hp} {a : Addr} {xs : List V} (h : FroM K ρ st H a xs) : FroM K' ρ st H a xs := h.elim (fun z => .inl (z.other hK)) .inr
def stoNox (st : Sto) : Prop := ∀ o ∈ st, noxs o.items = true
theorem Rep.nox (hK : ∀ a c d, ¬ K.hx a c d) {ρ : Pl} {H : Hp} {st : Sto} (r : Rep K ρ H st) : stoNox st := fun o ho => by
  obtain ⟨n, hn⟩ := List.mem_iff_getElem?.mp ho
  obtain ⟨vs, _, h2⟩ := r.seq hn
  exact h2.nox hK
theorem Rep.other {K' : Kx} (hK : K'.K = K.K) {ρ : Pl} {H : Hp} {st : Sto} (z : stoNox st) (r : Rep K ρ H st) : Rep K' ρ H st :=
  ⟨r.inj, fun n xs h => by obtain ⟨vs, h1, h2⟩ := r.lst n xs h; exact ⟨vs, h1, h2.other hK (z _ (List.mem_of_getElem? h))⟩,
    fun n xs h => by obtain ⟨vs, h1, h2⟩ := r.fro n xs h; exact ⟨vs, h1.other hK, h2.other hK (z _ (List.mem_of_getElem? h))⟩, r.nr, r.rs⟩
theorem Go.other {K' : Kx} (hK : K'.K = K.K) {ρ ρ' : Pl} {H H' : Hp} {st st' : Sto} (z : stoNox st') (g : Go K ρ st H ρ' st' H') : Go K' ρ st H ρ' st' H' :=
  ⟨g.len, g.rho, g.res, fun a xs h => by rw [hK] at h ⊢; exact g.t a xs h, fun a xs h => (g.f a xs (h.other hK.symm)).other hK, g.keep, g.kr, g.rep.other hK z⟩

/-! ### lists that become values -/
theorem notMu_cut {ρ : Pl} {H : Hp} {st : Sto} {n m : Nat} {xs : List D} (r : Rep K ρ H st) (hm : n ≤ m) (h : st[m]? = some (.lst xs)) : ¬ Mu ρ (st.take n) (ρ m) := by
  rintro (z | ⟨k, ys, z, e⟩)
  · exact r.nr m xs h z
  · have hk : st[k]? = some (.lst ys) ∧ k < n := by
      rw [List.getElem?_take] at z
      split at z
      · exact ⟨z, by assumption⟩
      · cases z
    have := r.inj k m ys xs hk.1 h e
    omega
mutual
theorem frz_ok {ρ : Pl} {H : Hp} {st : Sto} {n : Nat} (r : Rep K ρ H st) (hn : n ≤ st.length) : ∀ (k : Nat) {d e : D} {v : V}, frz st n k d = some e → RV K ρ st H d v → RV K ρ (st.take n) H e v
  | 0, _, _, _, h, _ => by simp [frz] at h
  | _ + 1, .non, _, _, h, .non => by simp [frz] at h; subst h; exact .non
  | _ + 1, .bl _, _, _, h, .bl _ => by simp [frz] at h; subst h; exact .bl _
  | _ + 1, .int _, _, _, h, .int _ => by simp [frz] at h; subst h; exact .int _
  | _ + 1, .str _, _, _, h, .str _ => by simp [frz] at h; subst h; exact .str _
  | _ + 1, .exn _ _, _, _, h, _ => by simp [frz] at h
  | k + 1, .tup xs, e, _, h, .tup q rs => by
    simp only [frz] at h
    cases z : frzs st n k xs with
    | none => rw [z] at h; cases h
    | some ys => rw [z] at h; cases h; exact .tup q (frzs_ok r hn k z rs)
  | k + 1, .lst xs, e, _, h, .lst q m rs => by
    simp only [frz] at h
    cases z : frzs st n k xs with
    | none => rw [z] at h; cases h
    | some ys => rw [z] at h; cases h; exact .lst q (fun w => m (mu_take w)) (frzs_ok r hn k z rs)
  | k + 1, .dct ks xs, e, _, h, .dct q l m rs => by
    simp only [frz] at h
    cases z : frzs st n k xs with
    | none => rw [z] at h; cases h
    | some ys => rw [z] at h; cases h; exact .dct q l (fun w => m (mu_take w)) (frzs_ok r hn k z rs)
  | k + 1, .ref m, e, _, h, .ref q => by
    simp only [frz] at h
    split at h
    · rename_i hm
      cases h
      exact .ref (by rw [List.length_take]; omega)
    · rename_i hm
      split at h
      · rename_i xs hx
        obtain ⟨vs, h1, h2⟩ := r.lst m xs hx
        split at h
        · rename_i ht
          cases h
          exact .lst h1 (notMu_cut r (by omega) hx) (h2.take hn ht)
        cases z : frzs st n k xs with
        | none => rw [z] at h; cases h
        | some ys =>
          rw [z] at h; cases h
          exact .lst h1 (notMu_cut r (by omega) hx) (frzs_ok r hn k z h2)
      · cases h
theorem frzs_ok {ρ : Pl} {H : Hp} {st : Sto} {n : Nat} (r : Rep K ρ H st) (hn : n ≤ st.length) : ∀ (k : Nat) {d e : List D} {v : List V}, frzs st n k d = some e → RVs K ρ st H d v → RVs K ρ (st.take n) H e v
  | 0, _, _, _, h, _ => by simp [frzs] at h
  | _ + 1, [], _, _, h, .nil => by simp [frzs] at h; subst h; exact .nil
  | k + 1, x :: xs, e, _, h, .cons q rs => by
    simp only [frzs] at h
    split at h
    · rename_i y ys h1 h2
      cases h
      exact .cons (frz_ok r hn k h1 q) (frzs_ok r hn k h2 rs)
    · cases h
end

/-! ### names -/
structure REnv (K : Kx) (ρ : Pl) (st : Sto) (H : Hp) (env : Env) (σ : L2.St) : Prop where
  len : env.length = σ.length
  get : ∀ (i : Nat) (d : D), env[i]? = some (some d) → ∃ v, σ[i]? = some (some v) ∧ RV K ρ st H d v
theorem REnv.move {ρ ρ' : Pl} {st st' : Sto} {H H' : Hp} {env : Env} {σ : L2.St} (e : REnv K ρ st H env σ) (g : Go K ρ st H ρ' st' H') : REnv K ρ' st' H' env σ :=
  ⟨e.len, fun i d h => by obtain ⟨v, h1, h2⟩ := e.get i d h; exact ⟨v, h1, g.rv h2⟩⟩
theorem REnv.set {ρ : Pl} {st : Sto} {H : Hp} {env : Env} {σ : L2.St} {d : D} {v : V} (e : REnv K ρ st H env σ) (i : Nat) (h : RV K ρ st H d v) : REnv K ρ st H (env.set i (some d)) (σ.set i (some v)) := by
  refine ⟨by simp [e.len], fun j d' q => ?_⟩
  by_cases hj : i = j
  · subst hj
    have hl : i < env.length := by
      have := (List.getElem?_eq_some_iff.mp q).1
      simpa using this
    rw [List.getElem?_set_self hl] at q
    cases q
    exact ⟨v, by rw [List.getElem?_set_self (by rw [← e.len]; exact hl)], h⟩
  · rw [List.getElem?_set_ne hj] at q
    rw [List.getElem?_set_ne hj]
    exact e.get j d' q
theorem REnv.drop {ρ : Pl} {st : Sto} {H : Hp} {env : Env} {σ : L2.St} (e : REnv K ρ st H env σ) (i : Nat) : REnv K ρ st H (env.set i none) (σ.set i none) := by
  refine ⟨by simp [e.len], fun j d' q => ?_⟩
  by_cases hj : i = j
  · subst hj
    have hl : i < env.length := by
      have := (List.getElem?_eq_some_iff.mp q).1
      simpa using this
    rw [List.getElem?_set_self hl] at q
    cases q
  · rw [List.getElem?_set_ne hj] at q
    rw [List.getElem?_set_ne hj]
    exact e.get j d' q
theorem REnv.wipe {ρ : Pl} {st : Sto} {H : Hp} {env : Env} {σ : L2.St} (e : REnv K ρ st H env σ) : ∀ vs : List Nat, REnv K ρ st H (wipeE env vs) (wipe σ vs)
  | [] => e
  | i :: r => (REnv.wipe e r).drop i
theorem REnv.other {K' : Kx} (hK : K'.K = K.K) {ρ : Pl} {st : Sto} {H : Hp} {env : Env} {σ : L2.St} (z : envNox env = true) (e : REnv K ρ st H env σ) : REnv K' ρ st H env σ :=
  ⟨e.len, fun i d h => by
    obtain ⟨v, h1, h2⟩ := e.get i d h
    exact ⟨v, h1, h2.other hK (List.all_eq_true.mp z _ (List.mem_of_getElem? h))⟩⟩
theorem REnv.nox (hK : ∀ a c d, ¬ K.hx a c d) {ρ : Pl} {st : Sto} {H : Hp} {env : Env} {σ : L2.St} (e : REnv K ρ st H env σ) : envNox env = true := by
  refine List.all_eq_true.mpr fun o ho => ?_
  cases o with
  | none => rfl
  | some d =>
    obtain ⟨i, hi⟩ := List.mem_iff_getElem?.mp ho
    obtain ⟨v, _, h2⟩ := e.get i d hi
    exact h2.nox hK
theorem envTop_le {env : Env} {i : Nat} {d : D} (h : env[i]? = some (some d)) : d.top ≤ envTop env := by
  induction env generalizing i with
  | nil => simp at h
  | cons x r ih =>
    cases i with
    | zero => simp at h; subst h; simp only [envTop]; exact Nat.le_max_left _ _
    | succ i =>
      have q := ih (i := i) (by simpa using h)
      cases x with
      | none => exact q
      | some y => simp only [envTop]; exact Nat.le_trans q (Nat.le_max_right _ _)
theorem REnv.trim {ρ : Pl} {H : Hp} {st1 : Sto} {n : Nat} {env : Env} {σ : L2.St} (hn : n ≤ st1.length) (e : REnv K ρ st1 H env σ) : REnv K ρ (trim n (envTop env) st1) H env σ :=
  ⟨e.len, fun i d h => by obtain ⟨v, h1, h2⟩ := e.get i d h; exact ⟨v, h1, h2.trim hn (envTop_le h)⟩⟩
/-! ### a list is changed no more -/
theorem at_stop {st : Sto} {n : Nat} {xs : List D} (hn : st[n]? = some (.lst xs)) {m : Nat} {o : O} (h : (st.set n (O.fro xs))[m]? = some o) : (m ≠ n ∧ st[m]? = some o) ∨ (m = n ∧ o = .fro xs) := by
  by_cases e : n = m
  · subst e
    have hl : n < st.length := (List.getElem?_eq_some_iff.mp hn).1
    rw [List.getElem?_set_self hl] at h
    exact .inr ⟨rfl, (Option.some.inj h).symm⟩
  · rw [List.getElem?_set_ne e] at h
    exact .inl ⟨fun z => e z.symm, h⟩
theorem mu_stop {ρ : Pl} {st : Sto} {n : Nat} {xs : List D} (hn : st[n]? = some (.lst xs)) {a : Addr} (h : Mu ρ (st.set n (.fro xs)) a) : Mu ρ st a := by
  rcases h with h | ⟨m, zs, h, e⟩
  · exact .inl h
  · rcases at_stop hn h with ⟨_, h⟩ | ⟨_, e⟩
    · exact .inr ⟨m, zs, h, by assumption⟩
    · cases e
theorem notMu_stop {ρ : Pl} {H : Hp} {st : Sto} {n : Nat} {xs : List D} (r : Rep K ρ H st) (hn : st[n]? = some (.lst xs)) : ¬ Mu ρ (st.set n (.fro xs)) (ρ n) := by
  rintro (z | ⟨k, ys, z, e⟩)
  · exact r.nr n xs hn z
  · rcases at_stop hn z with ⟨ne, z⟩ | ⟨_, e'⟩
    · exact ne (r.inj k n ys xs z hn e)
    · cases e'
theorem Go.stop {ρ : Pl} {H : Hp} {st : Sto} {n : Nat} {xs : List D} (r : Rep K ρ H st) (hn : st[n]? = some (.lst xs)) : Go K ρ st H ρ (st.set n (.fro xs)) H := by
  have kp : ∀ a u, H a = some u → ¬ Mu ρ st a → H a = some u ∧ ¬ Mu ρ (st.set n (.fro xs)) a := fun a u h m => ⟨h, fun z => m (mu_stop hn z)⟩
  have mv : ∀ {ds : List D} {vs : List V}, RVs K ρ st H ds vs → RVs K ρ (st.set n (.fro xs)) H ds vs := fun h => h.move (by simp) (fun _ _ => rfl) (fun _ _ z => z) kp
  refine ⟨by simp, fun _ _ => rfl, fun _ h => h, fun _ _ z => z, fun _ _ z => z, kp, fun _ _ => rfl, ⟨fun a b as bs h1 h2 e => ?_, fun m zs h => ?_, fun m zs h => ?_, fun m zs h => ?_, r.rs⟩⟩
  · rcases at_stop hn h1 with ⟨_, h1⟩ | ⟨_, z⟩
    · rcases at_stop hn h2 with ⟨_, h2⟩ | ⟨_, z⟩
      · exact r.inj a b _ _ h1 h2 e
      · cases z
    · cases z
  · rcases at_stop hn h with ⟨_, h⟩ | ⟨_, z⟩
    · obtain ⟨us, h1, h2⟩ := r.lst m zs h
      exact ⟨us, h1, mv h2⟩
    · cases z
  · rcases at_stop hn h with ⟨_, h⟩ | ⟨rfl, z⟩
    · obtain ⟨us, h1, h2⟩ := r.fro m zs h
      exact ⟨us, h1.move (fun _ _ z => z) kp, mv h2⟩
    · cases z
      obtain ⟨us, h1, h2⟩ := r.lst m xs hn
      exact ⟨us, .inr ⟨h1, notMu_stop r hn⟩, mv h2⟩
  · rcases at_stop hn h with ⟨_, h⟩ | ⟨_, z⟩
    · exact r.nr m zs h
    · cases z
/-- a name's list becomes a value -/
theorem REnv.frz {ρ : Pl} {H : Hp} {st : Sto} {n i : Nat} {xs : List D} {env : Env} {σ : L2.St} (r : Rep K ρ H st) (e : REnv K ρ st H env σ) (hi : env[i]? = some (some (.ref n))) (hx : st[n]? = some (.lst xs)) :
    REnv K ρ (st.set n (.fro xs)) H (env.set i (some (.lst xs))) σ := by
  have e1 := e.move (Go.stop r hx)
  refine ⟨by simpa using e.len, fun j d q => ?_⟩
  by_cases hj : i = j
  · subst hj
    have hl : i < env.length := (List.getElem?_eq_some_iff.mp hi).1
    rw [List.getElem?_set_self hl] at q
    cases q
    obtain ⟨v, k1, k2⟩ := e.get i _ hi
    cases k2
    obtain ⟨vs, k3, k4⟩ := r.lst n xs hx
    exact ⟨_, k1, .lst k3 (notMu_stop r hx) ((Go.stop r hx).rvs k4)⟩
  · rw [List.getElem?_set_ne hj] at q
    exact e1.get j d q
end RP

/-! classes that keep a value, over any base: made, stored into, raised -/
namespace PySem
namespace RPX
open PySem.W PySem.Calls PyProof.Rows PySem.HandSPX
open Builtin Builtin.ObjectAttr
section
variable {prog : Program} {w : World} {A : Around} {R : Result → Shared → Prop} {hp : Heap} {gs : Array GenState} {dr : Drawn} {tn : Nat} {sys : OsState}
theorem osa_first {K : W.Frag} {f : Str} {k : Tok} {v : Value} {x C : Addr} {flds : Array Value} {cd : ClassData} (KX : K.In hp)
    (atx : hp.get? x = some { cls := .ref C, data := .fields flds }) (atC : W.clsIn K C = some cd)
    (free : ∀ me : Value, refuseLoop me "__setattr__" cd.mro = pure ()) (top : cd.mro.contains (.type "object") = true)
    (some1 : cd.mro.isEmpty = false) (dict : cd.hasDict = true) (absent : W.findIn K (.ref C) f = some none)
    (done : ∀ h2 k2 y, (∀ b o, b ≠ x → hp.get? b = some o → h2.get? b = some o) → hp.objs.size ≤ y → y ≠ x →
      h2.get? x = some { cls := .ref C, dict := some y, data := .fields flds } →
      h2.Ns1 y (fun z => if z = f then some v else none) → R (.ok (.ret .none)) ⟨h2, gs, dr, k2, sys⟩) :
    codeAny (model prog w) A (.call (.builtin "object.__setattr__") ⟨[.ref x, .str f k, v], []⟩) R ⟨hp, gs, dr, tn, sys⟩ := by
  have inst : W.InstAt hp x { cls := .ref C, data := .fields flds } C none := ⟨atx, rfl, rfl, trivial⟩
  have facts := F.store_object
  have far : x ≠ hp.objs.size := Nat.ne_of_lt (Heap.lt_size atx)
  have within : W.Looks (model prog w) hp (isInstance (.ref x) (.type "object")) true :=
    inst.type.andThen (W.looks_mroIn KX (by unfold W.mroIn; rw [atC, Option.bind_some, if_neg (by rw [some1]; decide), top]))
  refine codeAny_call_builtin facts.slot.plain facts.entry ?_
  refine @W.check_slot (model prog w) _ _ ⟨hp, gs, dr, tn, sys⟩ "object.__setattr__" "object" "__setattr__" (.ref x) [.str f k, v] [] _ ?_ ?_ within ?_ ?_
  · exact facts.kind
  · exact facts.split
  · exact facts.args (.ref x) (.str f k) v
  have row : W.Looks (model prog w) hp (mroOf (.ref C)) cd.mro := (W.looks_clsIn KX atC).andThen .now
  have noTaker : W.Looks (model prog w) hp (storeTaker? none) none := .now
  have cls : W.Looks (model prog w) hp (classData C) cd := W.looks_clsIn KX atC
  rw [W.osa_eq, refuse_eq]
  refine wpAny_bind (wpAny_bind (inst.type.at (wpAny_bind (row.at ?_))))
  rw [free]
  refine wpAny_pure (wpAny_bind (inst.type.at (wpAny_bind ((W.looks_findIn KX absent).at (wpAny_bind (noTaker.at ?_))))))
  show wpAny _ _ (storeInOwnDict (.ref x) (.ref C) (.str f k) f v false) _ _ _
  obtain ⟨c1, c2, c3, c4, c5, c6, c7, c8, c9, c10, c11⟩ := cd
  dsimp only at dict
  subst dict
  unfold storeInOwnDict ownDictForStores
  repeat (first | with_reducible refine store_in_new ?_ ?_ | with_reducible refine wpAny_loadPart_at atx ?_ | with_reducible refine cls.at ?_ | wp_step)
  · exact ⟨_, #[], _, (Heap.get?_update_ne _ _ _ _ far.symm).trans (Heap.get?_push_at rfl rfl), rfl, fun z hz => absurd hz (by simp), fun _ => rfl⟩
  · intro h2 k2 ns rest
    have still : (hp.push { cls := .type "dict", data := .dict #[] }).get? x = some { cls := .ref C, data := .fields flds } := Heap.get?_push_of_some _ atx
    refine done h2 k2 hp.objs.size (fun b o nb ob => ?_) (Nat.le_refl _) far.symm ?_ ns
    · exact (rest.2 b (Nat.ne_of_lt (Heap.lt_size ob))).trans ((Heap.get?_update_ne _ _ _ _ nb).trans (Heap.get?_push_of_some _ ob))
    · exact (rest.2 x far).trans (Heap.get?_update_self _ still rfl)
end
section
open AutoSeq1
theorem ext_tuple (l : Addr) (its : Array Value) (n : Nat) (b : Addr) (ts : Array Value) (m : Nat) (dd : Option Addr) (sl : Array (Option Value)) (c0 : ¬(!its.isEmpty && Builtin.List.listTooLong (its.size + ts.size)) = true) (c1 : its.size ≤ sizeLine) (c2 : its.size + ts.size ≤ sizeLine + 1) :
    Meets (Builtin.«list.extend» ⟨[.ref l, .ref b], []⟩) (fun _ R s => s.heap.get? l = some { cls := .type "list", dict := none, data := .seq its n, slots := #[] } ∧ s.heap.get? b = some { cls := .type "tuple", dict := dd, data := .seq ts m, slots := sl } ∧
      R (.ok (.ret Value.none)) { s with heap := s.heap.update l (Obj.mapSeq fun x => x ++ ts), toks := s.toks }) :=
  .of_wp fun prog w A R s all => by
    obtain ⟨hp, gs, dr, tk, sys⟩ := s
    obtain ⟨atl, atb, done⟩ := all
    have f1 := AutoSeq1.idx_int
    have f2 := AutoSeq1.sub_tuple_tuple
    have f3 := AutoSeq1.sub_list_list
    have f4 := AutoSeq1.sub_tuple_list
    have f5 := AutoSeq1.sub_list_tuple
    have len : (its ++ ts).size ≤ sizeLine + 1 := by rw [Array.size_append]; exact c2
    wp_walk using (wpAny_updateSeq atl rfl (hz := c1) (_hz' := len)), wpAny_loadPart' atl, wpAny_loadPart' atb
    exact ⟨_, rfl, done⟩
end
end RPX
end PySem

namespace RP
open PySem PySem.Spec L2

theorem binit_eval {B : Str} (env : PySem.Env) (me m : Str) (j : Nat) (p1 p2 p3 p4 pos : Pos) (hl : (p2.endLine == pos.line) = true) : ∃ pl : Sem Bool, eval (.Call (.Attribute (.Name B p1) "__init__" p2) [.Name me p3, .Constant (.str m) j p4] [] pos) env = (do
    let o ← eval (.Name B p1) env
    standAt p2.atName
    let (f, first) ← holding [o] (getMethod o "__init__" pl)
    callWith pos f first (backTo pos (starEach [.Name me p3, .Constant (.str m) j p4] env)) (backToKw pos (keywordEach [] env))) := by
  have h1 : methodCallPos true (.Name B p1) env p2 pos = pure pos := by
    unfold methodCallPos
    rw [hl]; rfl
  refine ⟨do return (← importBound (.Name B p1) env).getD true, ?_⟩
  show (do
    let o ← eval (.Name B p1) env
    standAt p2.atName
    let (f, first) ← holding [o] (getMethod o "__init__" (do return (← importBound (.Name B p1) env).getD true))
    let cp ← methodCallPos true (.Name B p1) env p2 pos
    callWith cp f first (backTo pos (starEach [.Name me p3, .Constant (.str m) j p4] env)) (backToKw pos (keywordEach [] env))) = _
  rw [h1]
  rfl
/-- a base class that is built in -/
structure BaseB (B newId initId : String) (bmB : List Value) : Prop where
  F : ExcBaseFacts B newId initId bmB
  free : ∀ me : Value, refuseLoop me "__setattr__" bmB = pure ()
  top : bmB.contains (.type "object") = true
  ty : typeOf (.type B) = pure (.type "type")
  init : ∀ K : PySem.W.Frag, PySem.W.findCls K (.type B) (.type "type") "__init__" = some (.val (.builtin initId))
  stub : Manifest.isStub B = false
  boot : bootBuiltins B = some (.type B)
  nm : (Str.ofString B) ≠ "__name__"
  nd : ((Str.ofString B) == ("__debug__" : Str)) = false
theorem base_Overflow : BaseB "OverflowError" "OverflowError.__new__" "OverflowError.__init__" [.type "OverflowError", .type "ArithmeticError", .type "Exception", .type "BaseException", .type "object"] :=
  ⟨PySem.F.excBase_OverflowError, PySem.F.store_OverflowError.passes, by decide +kernel, by kernel_rfl, fun K => by kernel_rfl, by decide +kernel, by decide +kernel, by decide +kernel, by decide +kernel⟩
theorem base_Index : BaseB "IndexError" "IndexError.__new__" "IndexError.__init__" [.type "IndexError", .type "LookupError", .type "Exception", .type "BaseException", .type "object"] :=
  ⟨PySem.F.excBase_IndexError, PySem.F.store_IndexError.passes, by decide +kernel, by kernel_rfl, fun K => by kernel_rfl, by decide +kernel, by decide +kernel, by decide +kernel, by decide +kernel⟩
theorem base_Runtime : BaseB "RuntimeError" "RuntimeError.__new__" "RuntimeError.__init__" [.type "RuntimeError", .type "Exception", .type "BaseException", .type "object"] :=
  ⟨PySem.F.excBase_RuntimeError, PySem.F.store_RuntimeError.passes, by decide +kernel, by kernel_rfl, fun K => by kernel_rfl, by decide +kernel, by decide +kernel, by decide +kernel, by decide +kernel⟩
theorem base_Lookup : BaseB "LookupError" "LookupError.__new__" "LookupError.__init__" [.type "LookupError", .type "Exception", .type "BaseException", .type "object"] :=
  ⟨PySem.F.excBase_LookupError, PySem.F.store_LookupError.passes, by decide +kernel, by kernel_rfl, fun K => by kernel_rfl, by decide +kernel, by decide +kernel, by decide +kernel, by decide +kernel⟩
/-- what is written of such a class -/
structure MadeC (K : PySem.W.Frag) (C : Addr) (bmB : List Value) (newId : String) : Prop where
  cls : PySem.W.excInitIn K C bmB newId = true
  hd : PySem.W.hasDictIn K C = true
  sa : PySem.W.findIn K (.ref C) "__setattr__" = some (some (.builtin "object.__setattr__"))
theorem MadeC.cd {K : PySem.W.Frag} {C : Addr} {bmB : List Value} {newId : String} (M : MadeC K C bmB newId) : ∃ nm q N bs bm sn sub ab col dd k0 k1 k2 k3 k5,
    K.lookup C = some (excClassObj nm q C N bs bm true sn sub ab col dd k0 k1 k2 k3 k5 newId) ∧ PySem.W.excTail bmB bm = true ∧
    ∃ cd, PySem.W.clsIn K C = some cd ∧ cd.mro = .ref C :: bm ∧ cd.hasDict = true := by
  have q := M.cls
  have d := M.hd
  unfold PySem.W.excInitIn at q
  unfold PySem.W.hasDictIn PySem.W.clsIn at d
  split at q
  · rename_i dd cd sl ho
    rw [ho] at d
    split at q
    · rename_i C' bm k0 k1 k2 k3 n k5 hm hs
      simp only [Bool.and_eq_true, beq_iff_eq, Bool.not_eq_true'] at q
      obtain ⟨⟨⟨rfl, rfl⟩, hdel⟩, ht⟩ := q
      obtain ⟨nm, bs, mro, ns, qn, hd, sn, sub, ab, col, del⟩ := cd
      have d' : hd = true := by simpa using d
      dsimp only at hm hdel
      subst hm hdel d'
      have hsl : sl = #[k0, k1, k2, k3, some (.builtin n), k5] := by
        obtain ⟨l⟩ := sl
        simp only at hs
        rw [hs]
      subst hsl
      exact ⟨nm, qn, ns, bs, bm, sn, sub, ab, col, dd, k0, k1, k2, k3, k5, ho, ht, _, by unfold PySem.W.clsIn; rw [ho], rfl, rfl⟩
    · cases q
  · cases q
section
variable {X : Cx} {pins : List (Addr × Obj)} {σ : St} {H : Hp} {s : Shared} {a C dx : Addr} {f : Str} {y : V} {u : Value} {fs : List (Str × V)} {Q : Unit → Shared → Prop} {E : Value → Shared → Prop} {A : Around} {B newId initId : String} {bmB : List Value}
/-- self.f = y, the first one -/
theorem keep_first (BB : BaseB B newId initId bmB) (T : MadeC X.K C bmB newId) (I : Inv X pins σ H s) (e : H a = some (exo a C none)) (hno : PySem.W.findIn X.K (.ref C) f = some none) (ry : RelV y u)
    (done : ∀ y0 s2, H y0 = none → y0 ≠ a → Inv X pins σ (upd (upd H y0 (exd y0 [(f, y)])) a (exo a C (some y0))) s2 → Q () s2) :
    wpAny (model X.prog X.w) A (setAttr (.ref a) f u) Q E s := by
  obtain ⟨nm, q, N, bs, bm, sn, sub, ab, col, dd, k0, k1, k2, k3, k5, hC, tail, cd, atC, mro, hdict⟩ := T.cd
  obtain ⟨t1, ho⟩ := exo_at I.hok e
  obtain ⟨hp, gs, dr, tn, sys⟩ := s
  have bare : PySem.W.InstAt hp a { cls := .ref C, dict := none, data := .fields #[.ref t1, .none, .none, .none, .bool false, .none] } C none := ⟨ho, rfl, rfl, trivial⟩
  refine PySem.W.set_plain I.kIn bare T.sa ?_
  have tail' : PySem.W.excTail bmB (.ref C :: bm) = true := tail
  have free : ∀ me : Value, refuseLoop me "__setattr__" cd.mro = pure () := fun me => by rw [mro]; exact PySem.W.excTail_pass me (BB.free me) _ tail'
  have top : cd.mro.contains (.type "object") = true := by rw [mro, PySem.W.excTail_contains "object" _ tail']; exact BB.top
  refine PySem.RPX.osa_first I.kIn ho atC free top (by rw [mro]; rfl) hdict hno (fun h2 k2 y0 kept far near at2 ns => ?_)
  have n0 : H y0 = none := I.hok.fresh far
  have apart : ∀ {b : Addr} {o : Obj}, hp.get? b = some o → b ≠ y0 := fun {b o} z => Nat.ne_of_lt (Nat.lt_of_lt_of_le (Heap.lt_size z) far)
  have nota : ∀ {b : Addr}, H b = none → b ≠ a := fun {b} n z => by
    subst z
    rw [e] at n
    cases n
  have U : Un X.fs [] H (upd (upd H y0 (exd y0 [(f, y)])) a (exo a C (some y0))) hp h2 := {
    keep := fun b o z n _ _ => kept b o (nota n) z
    slot := fun b o z n _ _ => ⟨o.slots, kept b o (nota n) z⟩
    free := fun b o z n _ => by rw [upd_ne (nota n), upd_ne (apart z), n]
    there := fun b o z _ => by
      by_cases same : b = a
      · subst same
        exact ⟨_, at2⟩
      · exact ⟨o, kept b o same z⟩
    tups := fun b xs z => by rw [upd_ne (at_ne e z exo_tup), upd_ne (ne_of_none z n0), z]
    frzs := fun b o v z => by rw [upd_ne (at_ne e z exo_frz), upd_ne (ne_of_none z n0), z]
    tbls := fun b ps z => ⟨#[], by rw [upd_ne (at_ne e z exo_tbl), upd_ne (ne_of_none z n0), z]; simp⟩ }
  refine done y0 _ n0 near (I.un (t' := k2) U fun b o z => ?_)
  by_cases same : b = a
  · subst same
    rw [upd_same] at z
    cases z
    exact exo_ok at2
  rw [upd_ne same] at z
  by_cases same2 : b = y0
  · subst same2
    rw [upd_same] at z
    cases z
    exact exd_ok ns (relO_put (fs := []) ry fun _ => True.intro)
  rw [upd_ne same2] at z
  refine (I.hok b o z).stay (fun c v hc got => kept c v ?_ got) (fun c hc => ?_) (fun c xs hc => ?_)
  · rcases hc with hc | hc
    · rw [hc]; exact same
    · exact at_ne e hc exo_own
  · rw [upd_ne (at_ne e hc exo_own), upd_ne (ne_of_none hc n0), hc]
  · rw [upd_ne (at_ne e hc exo_tup), upd_ne (ne_of_none hc n0), hc]
/-- B.__init__(self, ..): nothing of it is told -/
theorem base_init {us : List Value} {Q : Value → Shared → Prop} (BB : BaseB B newId initId bmB) (T : MadeC X.K C bmB newId) (I : Inv X pins σ H s) (e : H a = some (exo a C none)) (hl : us.length ≤ sizeLine) (h : ∀ s2, Inv X pins σ H s2 → Q .none s2) :
    wpAny (model X.prog X.w) A (call (.builtin initId) (.ref a :: us)) Q E s := by
  obtain ⟨nm, q, N, bs, bm, sn, sub, ab, col, dd, k0, k1, k2, k3, k5, hC, tail, _⟩ := T.cd
  obtain ⟨t1, ho⟩ := exo_at I.hok e
  obtain ⟨hp, gs, dr, tn, sys⟩ := s
  refine wpAny_call (PySem.HandSPX.init_base BB.F (fun Y => PySem.W.excTail_contains Y bm tail) (I.kIn _ _ hC) ho hl fun h2 t2 kept at2 => ?_)
  have J := I.write (t' := tn) (x := a) (e := a) (o := exo a C none) (by rw [e]; exact True.intro) (.inl rfl) kept ⟨_, at2⟩ (exo_ok at2)
  have same : upd H a (exo a C none) = H := by
    funext b
    by_cases hb : b = a
    · subst hb
      rw [upd_same, e]
    · rw [upd_ne hb]
  rw [same] at J
  exact h _ J
end
/-- B.__init__(self, ..), read -/
def tBi (K : PySem.W.Frag) (bmB : List Value) (newId : String) (ta : TA) : TE := fun σ H Q => ta σ H fun vs H1 => ∃ (a C : Addr) (ws : List V), vs = .ref a :: ws ∧ ws.length ≤ 1000 ∧ MadeC K C bmB newId ∧ H1 a = some (exo a C none) ∧ Q .non H1
/-- self.f = e -/
def tKeep (K : PySem.W.Frag) (bmB : List Value) (newId : String) (f : Str) (to te : TE) : TS := fun D σ H => te σ H fun y H1 => to σ H1 fun x H2 => ∃ a C : Addr, x = .ref a ∧ MadeC K C bmB newId ∧ PySem.W.findIn K (.ref C) f = some none ∧
  H2 a = some (exo a C none) ∧ ∀ dx, H2 dx = none → dx ≠ a → D.nx σ (upd (upd H2 dx (exd dx [(f, y)])) a (exo a C (some dx)))
section
variable {X : Cx} {o e : Expr} {es : List Expr} {to te : TE} {ta : TA} {f : Str} {p p' p1 p2 pos : Pos} {B newId initId : String} {bmB : List Value}
theorem pe_binit (BB : BaseB B newId initId bmB) (hi : PySem.W.handedIn (.builtin initId) = true) (hg : Gl X (Str.ofString B)) (hm : X.mg (Str.ofString B) = none) (ha : PA X (e :: es) ta)
    (hc : ∃ pl : Sem Bool, eval (.Call (.Attribute (.Name (Str.ofString B) p1) "__init__" p2) (e :: es) [] pos) X.env = (do
      let o ← eval (.Name (Str.ofString B) p1) X.env
      standAt p2.atName
      let (f, first) ← holding [o] (getMethod o "__init__" pl)
      callWith pos f first (backTo pos (starEach (e :: es) X.env)) (backToKw pos (keywordEach [] X.env))))
    (he : starEach (e :: es) X.env = (false, eval e X.env) :: starEach es X.env := by rfl) (hpl : (backTo pos (starEach es X.env)).any (·.1) = false := by rfl) :
    PE X (.Call (.Attribute (.Name (Str.ofString B) p1) "__init__" p2) (e :: es) [] pos) (tBi X.K bmB newId ta) := by
  obtain ⟨pl, hc⟩ := hc
  refine ⟨fun pins s σ H Q I h => ?_⟩
  refine PySem.W.methodCall_KW (ld_blt I hg hm BB.boot ?_ BB.nm BB.nd) hc
  obtain ⟨m, fr⟩ := I.fr
  refine PySem.W.method_type fr I.ok.mod.kin BB.ty BB.stub (BB.init _) hi ?_
  show wpAny _ _ (callWith pos (Value.builtin initId) [] (backTo pos (starEach (e :: es) X.env)) []) _ _ _
  refine PyProof.Rows.callWith_method1 (thn (ha.run pos pins _ σ H _ (I.tok _) h) fun us s1 got => ?_) he hpl
  obtain ⟨vs, H1, I1, r1, a, C, ws, rfl, hl, T, ea, q⟩ := got
  cases r1 with
  | @cons _ u0 _ ur ra rw' =>
    obtain rfl : u0 = Value.ref a := ra
    have short : ur.length ≤ sizeLine := by
      rw [← Paired.length rw', sizeLine_eq]; omega
    exact base_init BB T I1 ea short fun s2 J => ⟨.non, H1, J, rfl, q⟩
theorem ps_keep (BB : BaseB B newId initId bmB) (ho : PE X o to) (he : PE X e te) (hs : swapsWith e (some (.Attribute o f p')) pos.line X.env = pure false := by rfl) : PS X (.Assign [.Attribute o f p'] e pos) (tKeep X.K bmB newId f to te) := by
  refine ⟨fun pins s σ H D I h => ?_⟩
  refine plainObj_wpAny_Assign_Attribute (thn (he.run pins s σ H _ I h) fun v s1 g1 => ?_) hs
  obtain ⟨y, H1, I1, r1, q1⟩ := g1
  refine thn (ho.run pins s1 σ H1 _ I1 q1) fun u s2 g2 => ?_
  obtain ⟨x, H2, I2, r2, a, C, rfl, T, hno, ea, q⟩ := g2
  obtain rfl : u = Value.ref a := r2
  exact keep_first BB T I2 ea hno r1 fun dx s3 n ne J => ⟨σ, _, J, q dx n ne⟩
end
end RP

/-! the own __init__ of such a class, walked once; the class called and raised -/
namespace RP
open PySem PySem.Spec L2
/-- the body of an __init__ that keeps one value -/
def InitBody (B : String) (f me p : Str) (l : List Stmt) : Prop := ∃ (m : Str) (j : Nat) (p1 p2 p3 p4 p5 p6 p7 p8 p9 pA : Pos),
  l = [.Expr (.Call (.Attribute (.Name (Str.ofString B) p1) "__init__" p2) [.Name me p3, .Constant (.str m) j p4] [] p5) p6, .Assign [.Attribute (.Name me p7) f p8] (.Name p p9) pA] ∧ (p2.endLine == p5.line) = true
structure InitB (K : PySem.W.Frag) (mg : Str → Option Value) (C fI : Addr) (fd : FuncData) (B newId initId : String) (bmB : List Value) (f me p q : Str) (st : Stmt) : Prop where
  base : BaseB B newId initId bmB
  hin : PySem.W.handedIn (.builtin initId) = true
  made : MadeC K C bmB newId
  no : PySem.W.findIn K (.ref C) f = some none
  ini : PySem.W.findIn K (.ref C) "__init__" = some (some (.ref fI))
  ty : PySem.W.typeIn K (.ref fI) = some (.type "function")
  fn : Fun K "__init__" q st fI fd
  bind : Binds K fd [me, p] []
  sc : FnScope [me, p] [me, p] (defScope st)
  loc : (defScope st).names.lookup me = some .local ∧ (defScope st).names.lookup p = some .local
  blt : mg (Str.ofString B) = none
  gl : (defScope st).names.lookup (Str.ofString B) = some .globalImplicit
  body : InitBody B f me p (defBody st)
  nm : (me == ("__debug__" : Str)) = false ∧ (me == ("__classdict__" : Str)) = false ∧ (p == ("__debug__" : Str)) = false ∧ (p == ("__classdict__" : Str)) = false

section
variable {P : Program} {w : World} {K : PySem.W.Frag} {mg : Str → Option Value} {base : Heap} {C fI : Addr} {fd : FuncData} {B newId initId : String} {bmB : List Value} {f me p q : Str} {st : Stmt}
theorem run_init (IB : InitB K mg C fI fd B newId initId bmB f me p q st) {A : Around} {outer : List PySem.Env} {s : Shared} {H : Hp} {args : Args} {us : List Value} {a : Addr} {y : V} {Q : VK} {E : XK}
    (hd : A.handled = none) (hdp : A.depth < recursionLimit) (e0 : Env0 P w K mg base A outer s H) (hb : BindsTo s fd args ([me, p].zip us)) (r1 : Vals [.ref a, y] us)
    (ha : H a = some (exo a C none)) (hQ : ∀ dx, H dx = none → dx ≠ a → Q .non (upd (upd H dx (exd dx [(f, y)])) a (exo a C (some dx)))) :
    codeAny (model P w) A (.call (.ref fI) args) (CR (L2N.CX P w) outer P w H s Q E) s := by
  have S := IB.sc
  obtain ⟨oc, od, kV, doc, pm, an, cdv, ct, osl, rfl, lk, hcd⟩ := IB.fn.ex
  have KX : K.In s.heap := e0.mod.kin.keeps fun b o e => (e0.bs b o e).1
  have lim : s.heap.NoLimit := e0.mod.nolimit.keeps fun b o e => (e0.bs b o e).1
  have hkind : ∀ z ∈ [me, p].zip us, (defScope st).names.lookup z.1 = some .local ∨ ((defScope st).names.lookup z.1 = some .cell ∧ ((cellsFrom (s.heap.objs.size + 1) (defScope st).names []).lookup z.1).isSome = true) := fun ⟨m, v⟩ hz =>
    (S.par m (List.of_mem_zip hz).1).elim .inl fun z => .inr ⟨z, PySem.W.cellsFrom_some _ _ _ (.inl z)⟩
  refine codeAny_call_function hdp (KX _ _ lk) rfl S.co S.gen rfl (PySem.W.codeRec_of KX hcd) (hb _ _ _ _ ?_)
  refine wpAny_newFunctionEnv_cells S.kind hkind fun env he s1 x => ?_
  subst he
  refine ⟨lim.keeps x.toInCall.keep, codeAny_func ?_⟩
  let X := cxOf (L2N.CX P w) P w K mg base [me, p] q (defScope st) fI cdv A outer s H E
  have I : Inv X [] (L2.start [me, p] [V.ref a, y]) H s1 := inv_start S hd e0 rfl r1 x
  obtain ⟨m, j, p1, p2, p3, p4, p5, p6, p7, p8, p9, pA, hbody, line⟩ := IB.body
  have v0 : ∀ ps, PE X (.Name me ps) (tVar 0) := fun ps => pe_var rfl (.inl IB.loc.1) IB.nm.1 IB.nm.2.1
  have v1 : ∀ ps, PE X (.Name p ps) (tVar 1) := fun ps => pe_var rfl (.inl IB.loc.2) IB.nm.2.2.1 IB.nm.2.2.2
  have one : PE X (.Call (.Attribute (.Name (Str.ofString B) p1) "__init__" p2) [.Name me p3, .Constant (.str m) j p4] [] p5) (tBi K bmB newId (tCons (tVar 0) (tCons (tC (.str m)) tNil))) :=
    pe_binit IB.base IB.hin IB.gl IB.blt (pa_cons (v0 p3) (pa_cons pe_str pa_nil)) (binit_eval _ me m j p1 p2 p3 p4 p5 line)
  have two : PS X (.Assign [.Attribute (.Name me p7) f p8] (.Name p p9) pA) (tKeep K bmB newId f (tVar 0) (tVar 1)) := ps_keep IB.base (v0 p7) (v1 p9)
  have all : PSs X (defBody st) (tSeq (tDrop (tBi K bmB newId (tCons (tVar 0) (tCons (tC (.str m)) tNil)))) (tSeq (tKeep K bmB newId f (tVar 0) (tVar 1)) tNext)) := by
    rw [hbody]
    exact pss_cons (ps_expr one) (pss_cons two pss_nil)
  have fin : ∀ {s' : Shared} {fl' : Flow}, SP X [] { nx := fun σ' H' => Q .non H', rt := fun v H' => Q v H' } fl' s' → CR (L2N.CX P w) outer P w H s Q E (.ok (.ret (match fl' with | .ret v => v | _ => .none))) s' := fun {s' fl'} hs => by
    cases fl' with
    | ret u =>
      obtain ⟨v, σ', H', J, rv', q'⟩ := hs
      exact ⟨v, H', J.os, J.bare, J.base, J.hok, rv', q'⟩
    | next =>
      obtain ⟨σ', H', J, q'⟩ := hs
      exact ⟨.non, H', J.os, J.bare, J.base, J.hok, rfl, q'⟩
    | brk =>
      obtain ⟨_, _, _, q'⟩ := hs
      exact False.elim q'
    | cont =>
      obtain ⟨_, _, _, q'⟩ := hs
      exact False.elim q'
  have run := all.run [] s1 _ H { nx := fun σ' H' => Q .non H', rt := fun v H' => Q v H' } I ⟨.ref a, rfl, a, C, [.str m], rfl, by simp, IB.made, ha, ⟨y, rfl, .ref a, rfl, a, C, rfl, IB.made, IB.no, ha, fun dx n ne => hQ dx n ne⟩⟩
  refine wpAny_mono run (fun fl' s' hs => ?_) fun e s' hs => hs
  have := fin hs
  cases fl' <;> exact this
end
section
variable {X : Cx} {x : Str} {e : Expr} {es : List Expr} {ta : TA} {p0 pos : Pos} {C fI : Addr} {fd : FuncData} {B newId initId : String} {bmB : List Value} {f me p q : Str} {st : Stmt}
/-- C(e), C's own __init__ keeping the value -/
def tMade (C : Addr) (f : Str) (ta : TA) : St → Hp → XK → Prop := fun σ H Q => ta σ H fun vs H1 => ∃ y, vs = [y] ∧ ∀ d, H1 d = none → Q (.ref C) (some d) (upd H1 d (.xd [(f, y)]))
theorem pmk_init (IB : InitB X.K X.mg C fI fd B newId initId bmB f me p q st) (kC : PySem.W.keepIn X.K (.ref C) = true) (r : Raises X (.ref C)) (hc : X.calm = true) (hdp : X.A.depth + 1 < recursionLimit)
    (hg : Gl X x) (hm : X.mg x = some (.ref C)) (ha : PA X (e :: es) ta) (hdb : (x == ("__debug__" : Str)) = false) (he : starEach (e :: es) X.env = (false, eval e X.env) :: starEach es X.env) (hpl : (backTo pos (starEach es X.env)).any (·.1) = false) :
    L2N.PMk X (.Call (.Name x p0) (e :: es) [] pos) (tMade C f ta) := by
  intro pins s σ H Q I h
  have hh : X.A.handled = none := I.ok.hd hc
  obtain ⟨nm, qn, N, bs, bm, sn, sub, ab, col, dd, k0, k1, k2, k3, k5, hC, tail, _⟩ := IB.made.cd
  refine wpAny_Call_Name_kw (ld_glob I hg hm ?_ hdb)
  refine PySem.W.callWith_K (h₀ := X.base) I.ok.mod.kin kC (thn (ha.run pos pins s σ H _ I h) fun us s1 got => ?_) he hpl
  obtain ⟨vs, H1, I1, r1, y, rfl, q1⟩ := got
  refine ⟨I1.kIn, ?_⟩
  show wpAny _ _ (call (.ref C) us) _ _ _
  obtain ⟨hp, gs, dr, tn, sys⟩ := s1
  have far : hp.objs.size ≤ hp.objs.size + 1 := Nat.le_succ _
  have new : H1 (hp.objs.size + 1) = none := I1.hok.fresh far
  have kept : ∀ b o, hp.get? b = some o → ((hp.push (PySem.W.kdv_tup us)).push (PySem.HandSPX.excO C hp.objs.size)).get? b = some o := fun b o z =>
    Heap.get?_push_of_some _ (Heap.get?_push_of_some _ z)
  have there : ((hp.push (PySem.W.kdv_tup us)).push (PySem.HandSPX.excO C hp.objs.size)).get? (hp.objs.size + 1) = some (PySem.HandSPX.excO C hp.objs.size) := by heap_get
  have I2 := I1.laid (t' := tn) (a := hp.objs.size + 1) (o := exo (hp.objs.size + 1) C none) (h' := (hp.push (PySem.W.kdv_tup us)).push (PySem.HandSPX.excO C hp.objs.size)) kept far (exo_ok there)
  have r2 : Vals [V.ref (hp.objs.size + 1), y] (Value.ref (hp.objs.size + 1) :: us) := .cons rfl r1
  have two : us.length = 1 := by rw [← Paired.length r1]; rfl
  have two' : ((Value.ref (hp.objs.size + 1) :: us) ++ ([] : List Value)).length = [me, p].length := by simp [two]
  have b2 := IB.bind ⟨(hp.push (PySem.W.kdv_tup us)).push (PySem.HandSPX.excO C hp.objs.size), gs, dr, tn, sys⟩ (Value.ref (hp.objs.size + 1) :: us) I2.kIn two'
  rw [List.append_nil] at b2
  have short : us.length ≤ sizeLine := by rw [two]; decide
  refine wpAny_call (PySem.HandSPX.call_own IB.base.F (fun Y => PySem.W.excTail_contains Y bm tail) (I1.kIn _ _ hC) (PySem.W.looks_findIn I1.kIn IB.ini) (fun me => PySem.W.bind_fn I1.kIn me IB.ty) short
    (codeAny_mono (run_init IB (A := X.A.under (.builtin "type.__call__" ⟨.ref C :: us, []⟩)) (outer := X.stack) (E := fun _ _ _ => False)
      (Q := fun v H' => v = .non ∧ ∃ d, (upd H1 (hp.objs.size + 1) (exo (hp.objs.size + 1) C none)) d = none ∧ d ≠ hp.objs.size + 1 ∧ H' = upd (upd (upd H1 (hp.objs.size + 1) (exo (hp.objs.size + 1) C none)) d (exd d [(f, y)])) (hp.objs.size + 1) (exo (hp.objs.size + 1) C (some d)))
      hh (by rw [make_depth]; omega) (I2.env0.make C us []) b2 r2 upd_same (fun d n ne => ⟨rfl, d, n, ne, rfl⟩)) fun r s' hq' => ?_))
  cases r with
  | error er =>
    obtain ⟨_, _, _, _, _, _, _, _, _, _, _, _, z⟩ := hq'
    exact z.elim
  | ok fl =>
    cases fl with
    | ret u =>
      obtain ⟨v, H2, os2, bare2, un2, hok2, rv, rfl, d, n, ne, rfl⟩ := hq'
      obtain ⟨h2, g2, d2, t2, os'⟩ := s'
      have n1 : H1 d = none := by rw [upd_ne ne] at n; exact n
      have ea : (upd (upd (upd H1 (hp.objs.size + 1) (exo (hp.objs.size + 1) C none)) d (exd d [(f, y)])) (hp.objs.size + 1) (exo (hp.objs.size + 1) C (some d))) (hp.objs.size + 1) = some (exo (hp.objs.size + 1) C (some d)) := upd_same
      have ed : (upd (upd (upd H1 (hp.objs.size + 1) (exo (hp.objs.size + 1) C none)) d (exd d [(f, y)])) (hp.objs.size + 1) (exo (hp.objs.size + 1) C (some d))) d = some (exd d [(f, y)]) := by rw [upd_ne ne, upd_same]
      obtain ⟨t0, G, J, kG, ge, hoe, na⟩ := mk_end0 (d2 := d2) (t2 := t2) I1 far kept un2 hok2 os2 bare2 ea ed n1
      have same : upd (del (upd (upd (upd H1 (hp.objs.size + 1) (exo (hp.objs.size + 1) C none)) d (exd d [(f, y)])) (hp.objs.size + 1) (exo (hp.objs.size + 1) C (some d))) (hp.objs.size + 1)) d (.xd [(f, y)]) = upd H1 d (.xd [(f, y)]) := by
        funext b
        by_cases b1 : b = d
        · subst b1; rw [upd_same, upd_same]
        · rw [upd_ne b1, upd_ne b1]
          by_cases b2 : b = hp.objs.size + 1
          · subst b2; rw [del_same, new]
          · rw [del_ne b2, upd_ne b2, upd_ne b1, upd_ne b2]
      rw [same] at J na
      refine ⟨rv, hp.objs.size + 1, _, _, ⟨G, g2, d2, t2, os'⟩, _, .ref C, some d, rfl, J, kG, ge, hoe, ⟨rfl, rfl, fun vs hv => ?_⟩, rfl, rfl, na, os2 ▸ rfl, bare2, r, q1 d n1⟩
      cases hv
      rfl
    | next => exact False.elim hq'
    | brk => exact False.elim hq'
    | cont => exact False.elim hq'
end
/-- an exception class that can be made, keeping a value in the field f -/
def ExMk (K : PySem.W.Frag) (mg : Str → Option Value) (C : Addr) (f : Str) : Prop := ∃ (fI : Addr) (fd : FuncData) (B newId initId : String) (bmB : List Value) (me p q : Str) (st : Stmt), InitB K mg C fI fd B newId initId bmB f me p q st
end RP

namespace RP
open PySem L2

/-! ### the weakest readings -/
def TW (X : Cx) (e : Expr) : TE := fun σ H Q => ∀ pins s, Inv X pins σ H s → wpAny (model X.prog X.w) X.A (eval e X.env) (EP X pins σ Q) X.xe s
def TWT (X : Cx) (e : Expr) : TT := fun σ H Q => ∀ pins s, Inv X pins σ H s → wpAny (model X.prog X.w) X.A (isTrue e X.env (eval e X.env)) (TP X pins σ Q) X.xe s
def TWA (X : Cx) (es : List Expr) : TA := fun σ H Q => ∀ pos pins s, Inv X pins σ H s → wpAny (model X.prog X.w) X.A (spliced (backTo pos (starEach es X.env))) (AP X pins σ Q) X.xe s
def TWS (X : Cx) (c : Stmt) : TS := fun D σ H => ∀ pins s, Inv X pins σ H s → wpAny (model X.prog X.w) X.A (exec c X.env) (SP X pins D) X.xe s
def TWSs (X : Cx) (cs : List Stmt) : TS := fun D σ H => ∀ pins s, Inv X pins σ H s → wpAny (model X.prog X.w) X.A (execs cs X.env) (SP X pins D) X.xe s
theorem pe_w {X : Cx} {e : Expr} : PE X e (TW X e) := ⟨fun pins s σ H Q I h => h pins s I⟩
theorem pt_w {X : Cx} {e : Expr} : PT X e (TWT X e) := ⟨fun pins s σ H Q I h => h pins s I⟩
theorem pa_w {X : Cx} {es : List Expr} : PA X es (TWA X es) := ⟨fun pos pins s σ H Q I h => h pos pins s I⟩
theorem ps_w {X : Cx} {c : Stmt} : PS X c (TWS X c) := ⟨fun pins s σ H D I h => h pins s I⟩
theorem pss_w {X : Cx} {cs : List Stmt} : PSs X cs (TWSs X cs) := ⟨fun pins s σ H D I h => h pins s I⟩
theorem TW.of {X : Cx} {e : Expr} {t : TE} {σ : St} {H : Hp} {Q : VK} (h : PE X e t) (q : t σ H Q) : TW X e σ H Q := fun pins s I => h.run pins s σ H Q I q
theorem TWT.of {X : Cx} {e : Expr} {t : TT} {σ : St} {H : Hp} {Q : Bool → Hp → Prop} (h : PT X e t) (q : t σ H Q) : TWT X e σ H Q := fun pins s I => h.run pins s σ H Q I q
theorem TWA.of {X : Cx} {es : List Expr} {t : TA} {σ : St} {H : Hp} {Q : List V → Hp → Prop} (h : PA X es t) (q : t σ H Q) : TWA X es σ H Q := fun pos pins s I => h.run pos pins s σ H Q I q
theorem TWS.of {X : Cx} {c : Stmt} {t : TS} {σ : St} {H : Hp} {D : Ends} (h : PS X c t) (q : t D σ H) : TWS X c D σ H := fun pins s I => h.run pins s σ H D I q
theorem TWSs.of {X : Cx} {cs : List Stmt} {t : TS} {σ : St} {H : Hp} {D : Ends} (h : PSs X cs t) (q : t D σ H) : TWSs X cs D σ H := fun pins s I => h.run pins s σ H D I q
theorem TW.mono {X : Cx} {e : Expr} {σ : St} {H : Hp} {Q Q' : VK} (h : TW X e σ H Q) (m : ∀ v H, Q v H → Q' v H) : TW X e σ H Q' := fun pins s I =>
  thn (h pins s I) fun u s1 ⟨v, H1, I1, r, q⟩ => ⟨v, H1, I1, r, m v H1 q⟩

/-- the exception classes by number -/
structure Xs where
  exs : List Str
  fls : List (Option Str)
  mks : List Nat
def Xs.fl (x : Xs) (c : Nat) : Str := (x.fls.getD c none).getD ""
/-- is it made with a text alone? -/
def Xs.msg (x : Xs) (c : Nat) : Bool := (x.fls.getD c none).isNone
/-! ### what is known where a piece of text runs -/
structure Ctx where
  N : List Str
  sc : Scope
  fns : List (Str × List Str × Bool)
  gls : List (Str × D)
  bs : List Str
  cel : Str → Bool
  P : List Fd
  /-- names whose lists change; does the def hand out such a list; lists that become values: ahead of the statement at a line, a name -/
  mv : List Str := []
  mr : Bool := false
  fz : List (Nat × Nat) := []
  /-- the exception classes; names of classes in tests, with the classes by number that are within -/
  xs : Xs := ⟨[], [], []⟩
  tys : List (Str × List Nat) := []
  /-- is an exception being handled? -/
  hot : Bool := false
def Ctx.gl (Γ : Ctx) : List D := Γ.gls.map (·.2)
def Ctx.run (Γ : Ctx) (n : Nat) : CallF := callN Γ.gl Γ.P n


/-- the written part, where these exceptions are at hand -/
abbrev kx (X : Cx) (z : Hz) : Kx := ⟨z, X.K⟩
/-- no exception is at hand -/
def hz0 (fl : Nat → Str) : Hz := ⟨fun _ _ _ => False, fl⟩
def clsOf (mg : Str → Option Value) (exs : List Str) (c : Nat) (C : Addr) : Prop := ∃ x, exs[c]? = some x ∧ mg x = some (.ref C)
/-- an exception in the air stands for a datum -/
def RX (mg : Str → Option Value) (exs : List Str) (κ : Kx) (ρ : Pl) (st : Sto) (H : Hp) (x : Exn) (cls : Value) (d : Option Addr) : Prop :=
  (∃ C, clsOf mg exs x.cls C ∧ cls = .ref C) ∧ ((x.args = [] ∧ d = none) ∨ ∃ q a u, x.args = [a] ∧ d = some q ∧ H q = some (.xd [(κ.fl x.cls, u)]) ∧ ¬ Mu ρ st q ∧ RV κ ρ st H a u)
/-- what an evaluation gives, or raises -/
def Post {α : Type} (r : Res α) (p : α → Sto → Prop) (e : Exn → Sto → Prop) : Prop := match r with
  | .ok a st => p a st
  | .exc x st => e x st
  | .bad => False
def FG (P : Program) (w : World) (K : PySem.W.Frag) (mg : Str → Option Value) (base : Heap) (xs : Xs) (n : Nat) (f : Addr) (fd : FuncData) (ps : List Str) (run : List D → Sto → Res D) : Prop :=
  ∀ (A : Around) (outer : List PySem.Env) (s : Shared) (H : Hp) (args : Args) (us : List Value) (vs : List V) (ds : List D) (st : Sto) (ρ : Pl) (Q : VK) (E : XK),
    Room n A → A.guards = some [] → Env0 P w K mg base A outer s H → BindsTo s fd args (ps.zip us) → Vals vs us → vs.length = ps.length → RVs ⟨hz0 xs.fl, K⟩ ρ st H ds vs → Rep ⟨hz0 xs.fl, K⟩ ρ H st →
    Post (run ds st) (fun d st' => ∀ v ρ' H', Go ⟨hz0 xs.fl, K⟩ ρ st H ρ' st' H' → RV ⟨hz0 xs.fl, K⟩ ρ' st' H' d v → Q v H') (fun x st' => ∀ cls dd ρ' H', Go ⟨hz0 xs.fl, K⟩ ρ st H ρ' st' H' → RX mg xs.exs ⟨hz0 xs.fl, K⟩ ρ' st' H' x cls dd → E cls dd H') →
    codeAny (model P w) A (.call (.ref f) args) (CR (L2N.CX P w) outer P w H s Q E) s
/-- the exceptions at hand: the one that is handled -/
structure HotZ (mg : Str → Option Value) (xs : Xs) (z : Hz) (p : Addr × Obj) : Prop where
  hx : ∀ a c d, z.hx a c d → a = p.1 ∧ ∃ C, clsOf mg xs.exs c C ∧ L2N.Zn (.ref C) d p.2
  fl : z.fl = xs.fl
  ob : ∃ vs, p.2.data = .fields vs
/-- the same where an exception is handled: nothing is raised there -/
def FGH (P : Program) (w : World) (K : PySem.W.Frag) (mg : Str → Option Value) (base : Heap) (xs : Xs) (n : Nat) (f : Addr) (fd : FuncData) (ps : List Str) (run : List D → Sto → Res D) : Prop :=
  ∀ (A : Around) (outer : List PySem.Env) (s : Shared) (H : Hp) (args : Args) (us : List Value) (vs : List V) (ds : List D) (st : Sto) (ρ : Pl) (Q : VK) (d : D) (st' : Sto) (p : Addr × Obj) (z : Hz),
    L2H.RoomH n A → A.guards = some [] → L2H.Hot1 A p → L2H.PinOk outer H s p → HotZ mg xs z p → Env0 P w K mg base A outer s H → BindsTo s fd args (ps.zip us) → Vals vs us → vs.length = ps.length → RVs ⟨z, K⟩ ρ st H ds vs → Rep ⟨z, K⟩ ρ H st →
    run ds st = .ok d st' → (∀ v ρ' H', Go ⟨z, K⟩ ρ st H ρ' st' H' → RV ⟨z, K⟩ ρ' st' H' d v → Q v H') →
    codeAny (model P w) A (.call (.ref f) args) (fun r s' => ∃ u, r = .ok (.ret u) ∧ CE outer P w H s Q u s') s

/-- what the written part says of an exception class -/
structure ExF (K : PySem.W.Frag) (C : Addr) : Prop where
  ga : PySem.W.findIn K (.ref C) "__getattribute__" = some (some (.builtin "BaseException.__getattribute__"))
  gt : PySem.W.findIn K (.ref C) "__getattr__" = some none
  ex : PySem.W.subIn K (.ref C) (.type "BaseException") = some true
  ty : PySem.W.typeIn K (.ref C) = some (.type "type")
  kp : PySem.W.keepIn K (.ref C) = true
  hd : PySem.W.hasDictIn K C = true
  cl : PySem.W.findIn K (.ref C) "__class__" = some (some (.builtin "object.__class__"))
  mr : PySem.W.mroIn K C (.type "object") = some true
/-- .. of a class made with a text, over ValueError -/
def ExM (K : PySem.W.Frag) (C : Addr) : Prop := PySem.W.excIn K C [.type "ValueError", .type "Exception", .type "BaseException", .type "object"] "ValueError.__new__" = true
/-- .. of a class that keeps a value, in the field f -/
structure ExV (K : PySem.W.Frag) (C : Addr) (f : Str) : Prop where
  no : PySem.W.findIn K (.ref C) f = some none
/-- what it says of every exception's class attribute -/
structure ExA (K : PySem.W.Frag) : Prop where
  sp : PySem.W.specialIn K (.builtin "object.__class__") "__get__" = some (some (.builtin "getset_descriptor.__get__"))
  tk : PySem.W.takesIn K (.builtin "object.__class__") = some true
/-- a class in a test: which of the numbered classes are within it -/
def TyF (K : PySem.W.Frag) (mg : Str → Option Value) (exs : List Str) (t : Str × List Nat) : Prop :=
  ∃ v c, ClsV v c ∧ (mg t.1 = some c ∨ (mg t.1 = none ∧ bootBuiltins t.1 = some c ∧ t.1 ≠ "__name__")) ∧
    ∀ (k : Nat) (C : Addr), clsOf mg exs k C → PySem.W.exmOne K (.ref C) c = some (t.2.contains k) ∧ PySem.W.kitOne K (.ref C) c = some (t.2.contains k)

structure Good (Γ : Ctx) (n : Nat) (X : Cx) (z : Hz) : Prop where
  N : X.N = Γ.N
  nd : Γ.N.Nodup
  sc : X.env.scope = Γ.sc
  calm : Γ.hot = false → X.calm = true ∧ z = hz0 Γ.xs.fl
  hot : Γ.hot = true → ∃ p, L2H.Hot1 X.A p ∧ p ∈ X.pn ∧ HotZ X.mg Γ.xs z p
  room : L2H.RoomH n X.A
  guards : X.A.guards = some []
  fn : ∀ x, Γ.cel x = true → X.fn x = true
  kind : Γ.sc.kind = .function
  gl : ∀ (k : Nat) (x : Str) (d : D), Γ.gls[k]? = some (x, d) → ∃ v u, X.mg x = some u ∧ RelV v u ∧ ∀ ρ st H, RV (kx X z) ρ st H d v
  blt : ∀ x ∈ Γ.bs, X.mg x = none
  exs : ∀ (k : Nat) (x : Str), Γ.xs.exs[k]? = some x → ∃ C, X.mg x = some (.ref C) ∧ ExF X.K C ∧ (Γ.xs.msg k = true → ExM X.K C) ∧ (k ∈ Γ.xs.mks → ∀ f, Γ.xs.fls[k]? = some (some f) → ExMk X.K X.mg C f) ∧ ∀ f, Γ.xs.fls[k]? = some (some f) → ExV X.K C f
  exa : Γ.xs.exs ≠ [] → ExA X.K
  tys : ∀ t ∈ Γ.tys, TyF X.K X.mg Γ.xs.exs t
  fns : ∀ (k : Nat) (x : Str) (ps : List Str) (h : Bool), Γ.fns[k]? = some (x, ps, h) → ∃ a fd, X.mg x = some (.ref a) ∧ PySem.W.keepIn X.K (.ref a) = true ∧ Binds X.K fd ps [] ∧
    (h = false → FG X.prog X.w X.K X.mg X.base Γ.xs n a fd ps (Γ.run n k)) ∧ (h = true → FGH X.prog X.w X.K X.mg X.base Γ.xs n a fd ps (Γ.run n k))
theorem Good.room0 {Γ : Ctx} {n : Nat} {X : Cx} {z : Hz} (G : Good Γ n X z) (h : Γ.hot = false) (ok : X.Ok) : Room n X.A := ⟨ok.hd (G.calm h).1, G.room.dp, G.room.un⟩
theorem Good.units {Γ : Ctx} {n : Nat} {X : Cx} {z : Hz} (G : Good Γ n X z) : X.A.units + 199 < cLine := by have := G.room.un; omega

def SimE (Γ : Ctx) (e : Expr) (i : E) : Prop := ∀ {n : Nat} {X : Cx} {z : Hz}, Good Γ n X z → ∀ {env : Env} {st : Sto} {d : D} {st' : Sto} {ρ : Pl} {σ : St} {H : Hp} {Q : VK},
  ev Γ.gl (Γ.run n) i env st = .ok d st' → REnv (kx X z) ρ st H env σ → Rep (kx X z) ρ H st →
  (∀ v ρ' H', Go (kx X z) ρ st H ρ' st' H' → RV (kx X z) ρ' st' H' d v → Q v H') → TW X e σ H Q
/-- what an expression raises -/
def SimX (Γ : Ctx) (e : Expr) (i : E) : Prop := Γ.hot = false → ∀ {n : Nat} {X : Cx} {z : Hz}, Good Γ n X z → ∀ {W : WX}, L2N.Takes X W → ∀ {env : Env} {st : Sto} {y : Exn} {st' : Sto} {ρ : Pl} {σ : St} {H : Hp} {Q : VK},
  ev Γ.gl (Γ.run n) i env st = .exc y st' → REnv (kx X z) ρ st H env σ → Rep (kx X z) ρ H st →
  (∀ cls dd ρ' H', Go (kx X z) ρ st H ρ' st' H' → RX X.mg Γ.xs.exs (kx X z) ρ' st' H' y cls dd → W cls dd σ H') → TW X e σ H Q
def SimT (Γ : Ctx) (e : Expr) (i : E) : Prop := ∀ {n : Nat} {X : Cx} {z : Hz}, Good Γ n X z → ∀ {env : Env} {st : Sto} {d : D} {b : Bool} {st' : Sto} {ρ : Pl} {σ : St} {H : Hp} {Q : Bool → Hp → Prop},
  ev Γ.gl (Γ.run n) i env st = .ok d st' → tru d st' = some b → REnv (kx X z) ρ st H env σ → Rep (kx X z) ρ H st →
  (∀ ρ' H', Go (kx X z) ρ st H ρ' st' H' → Q b H') → TWT X e σ H Q
def SimA (Γ : Ctx) (es : List Expr) (is : Es) : Prop := ∀ {n : Nat} {X : Cx} {z : Hz}, Good Γ n X z → ∀ {env : Env} {st : Sto} {ds : List D} {st' : Sto} {ρ : Pl} {σ : St} {H : Hp} {Q : List V → Hp → Prop},
  evs Γ.gl (Γ.run n) is env st = .ok ds st' → REnv (kx X z) ρ st H env σ → Rep (kx X z) ρ H st →
  (∀ vs ρ' H', Go (kx X z) ρ st H ρ' st' H' → RVs (kx X z) ρ' st' H' ds vs → Q vs H') → TWA X es σ H Q

variable {Γ : Ctx}

theorem RVs.empty {K : Kx} {ρ : Pl} {st : Sto} {H : Hp} {ds : List D} {vs : List V} (r : RVs K ρ st H ds vs) : ds.isEmpty = vs.isEmpty := by
  cases r <;> rfl
theorem tru_ok {K : Kx} {ρ : Pl} {H : Hp} {st : Sto} {d : D} {v : V} {b : Bool} (r : Rep K ρ H st) (h : RV K ρ st H d v) (e : tru d st = some b) : TruV K.K v H b := by
  cases h with
  | non => cases e; rfl
  | bl b => cases e; rfl
  | int i => cases e; rfl
  | str x =>
    simp only [tru] at e
    split at e
    · rename_i hl; cases e; exact ⟨hl, rfl⟩
    · cases e
  | tup h rs =>
    rename_i a vs ds
    cases e
    refine .inr (.inl ⟨vs, h, ?_⟩)
    cases rs <;> rfl
  | lst h m rs =>
    rename_i a vs ds
    cases e
    refine .inl ⟨vs, SqL.of h, ?_⟩
    cases rs <;> rfl
  | dct h l m rs => cases e
  | exn0 _ => cases e
  | exn1 _ _ _ _ => cases e
  | ref hn =>
    rename_i n
    simp only [tru] at e
    cases q : st[n]? with
    | none => rw [q] at e; cases e
    | some o =>
      rw [q] at e
      cases e
      obtain ⟨vs, h1, h2⟩ := r.seq q
      exact .inl ⟨vs, h1, by rw [h2.empty]⟩

theorem sim_v {x : Str} {pos : Pos} {i : Nat} (hN : Γ.N[i]? = some x) (hv : Vis Γ.sc x) (hd : (x == ("__debug__" : Str)) = false) (hc : (x == ("__classdict__" : Str)) = false) : SimE Γ (.Name x pos) (.v i) := by
  intro n X z G env st d st' ρ σ H Q h re rp q
  simp only [ev] at h
  unfold lkV at h
  split at h
  · rename_i y e
    cases h
    obtain ⟨v, h1, h2⟩ := re.get i _ e
    exact TW.of (pe_var (i := i) (by rw [G.N]; exact hN) (by rw [G.sc]; exact hv) hd hc) ⟨v, h1, q v ρ H (Go.refl rp) h2⟩
  · cases h

theorem sim_k {e : Expr} {d : D} {v : V} (hp : ∀ X : Cx, PE X e (tC v)) (hv : ∀ (K : Kx) ρ st H, RV K ρ st H d v) : SimE Γ e (.k d) := by
  intro n X z G env st d' st' ρ σ H Q h re rp q
  have h' : Res.ok d st = Res.ok d' st' := by simpa [ev] using h
  cases h'
  exact TW.of (hp X) (q v ρ H (Go.refl rp) (hv _ _ _ _))
theorem sim_int {i : Int} {j : Nat} {pos : Pos} : SimE Γ (.Constant (.int i) j pos) (.k (.int i)) := sim_k (fun _ => pe_int) fun _ _ _ _ => .int i
theorem sim_bl {b : Bool} {j : Nat} {pos : Pos} : SimE Γ (.Constant (.bool b) j pos) (.k (.bl b)) := sim_k (fun _ => pe_bl) fun _ _ _ _ => .bl b
theorem sim_non {j : Nat} {pos : Pos} : SimE Γ (.Constant .none j pos) (.k .non) := sim_k (fun _ => pe_non) fun _ _ _ _ => .non
theorem sim_str {x : Str} {j : Nat} {pos : Pos} : SimE Γ (.Constant (.str x) j pos) (.k (.str x)) := sim_k (fun _ => pe_str) fun _ _ _ _ => .str x

theorem gl_of {k : Nat} {x : Str} {d : D} (h : Γ.gls[k]? = some (x, d)) : Γ.gl[k]? = some d := by
  simp [Ctx.gl, h]
theorem sim_g {x : Str} {pos : Pos} {k : Nat} {d : D} (hk : Γ.gls[k]? = some (x, d)) (hs : Γ.sc.names.lookup x = some .globalImplicit) (hd : (x == ("__debug__" : Str)) = false) : SimE Γ (.Name x pos) (.g k) := by
  intro n X z G env st d' st' ρ σ H Q h re rp q
  have h' : Res.ok d st = Res.ok d' st' := by simpa [ev, gl_of hk, lkG] using h
  cases h'
  obtain ⟨v, u, h1, h2, h3⟩ := G.gl k x d hk
  exact TW.of (pe_glob (by show X.env.scope.names.lookup x = _; rw [G.sc]; exact hs) h1 h2 hd) (q v ρ H (Go.refl rp) (h3 _ _ _))

/-! ### argument lists -/
def star : Expr → Bool
  | .Starred _ _ => true
  | _ => false
theorem starEach_cons {e : Expr} (h : star e = false) (es : List Expr) (env : PySem.Env) : starEach (e :: es) env = (false, eval e env) :: starEach es env := by
  cases e <;> first | rfl | (simp [star] at h)
theorem sim_nil : SimA Γ [] .nil := by
  intro n X z G env st ds st' ρ σ H Q h re rp q
  have h' : Res.ok [] st = Res.ok ds st' := by simpa [evs] using h
  cases h'
  exact TWA.of pa_nil (q [] ρ H (Go.refl rp) .nil)
theorem sim_cons {e : Expr} {es : List Expr} {i : E} {is : Es} (hs : star e = false) (h1 : SimE Γ e i) (h2 : SimA Γ es is) : SimA Γ (e :: es) (.cons i is) := by
  intro n X z G env st ds st' ρ σ H Q h re rp q
  simp only [evs] at h
  obtain ⟨x, s1, e1, h⟩ := Res.bind_eq_ok h
  obtain ⟨xs, s2, e2, h⟩ := Res.bind_eq_ok h
  cases h
  refine TWA.of (pa_cons pe_w pa_w (starEach_cons hs _ _)) (h1 G e1 re rp fun v ρ1 H1 g1 r1 => h2 G e2 (re.move g1) g1.rep fun vs ρ2 H2 g2 r2 => ?_)
  exact q (v :: vs) ρ2 H2 (g1.trans g2) (.cons (g2.rv r1) r2)

theorem sim_tup {es : List Expr} {is : Es} {k : Nat} {pos : Pos} (h1 : SimA Γ es is) : SimE Γ (.Tuple es k pos) (.tup is) := by
  intro n X z G env st d st' ρ σ H Q h re rp q
  simp only [ev] at h
  obtain ⟨xs, s1, e1, h⟩ := Res.bind_eq_ok h
  split at h
  · rename_i hz
    cases h
    refine TW.of (pe_tup pa_w) (h1 G e1 re rp fun vs ρ1 H1 g1 r1 => ⟨by rw [← r1.length]; exact hz, fun p hp => ?_⟩)
    have g2 := Go.fresh (o := .tup vs) g1.rep hp
    exact q (.ref p) ρ1 _ (g1.trans g2) (.tup (SqT.of upd_same) (g2.rvs r1))
  · cases h
theorem sim_lst {es : List Expr} {is : Es} {pos : Pos} (m : Bool) (h1 : SimA Γ es is) : SimE Γ (.List es pos) (.lst m is) := by
  intro n X z G env st d st' ρ σ H Q h re rp q
  cases m with
  | true =>
    simp only [ev] at h
    obtain ⟨xs, s1, e1, h⟩ := Res.bind_eq_ok h
    split at h
    · rename_i hz
      cases h
      refine TW.of (pe_lst pa_w) (h1 G e1 re rp fun vs ρ1 H1 g1 r1 => ⟨by rw [← r1.length]; exact hz, fun p hp => ?_⟩)
      have g2 := Go.newL g1.rep hp r1
      exact q (.ref p) _ _ (g1.trans g2) RV.last
    · cases h
  | false =>
    simp only [ev] at h
    obtain ⟨xs, s1, e1, h⟩ := Res.bind_eq_ok h
    split at h
    · rename_i hz
      cases h
      refine TW.of (pe_lst pa_w) (h1 G e1 re rp fun vs ρ1 H1 g1 r1 => ⟨by rw [← r1.length]; exact hz, fun p hp => ?_⟩)
      exact q (.ref p) _ _ (g1.trans (Go.fresh g1.rep hp)) (RV.newV g1.rep hp r1)
    · cases h
theorem sim_dct0 {pos : Pos} : SimE Γ (.Dict [] [] pos) (.dct [] .nil) := by
  intro n X z G env st d st' ρ σ H Q h re rp q
  have h' : Res.ok (D.dct [] []) st = Res.ok d st' := by simpa [ev, evs] using h
  cases h'
  exact TW.of pe_dnewK fun p hp => q (.ref p) _ _ (Go.fresh rp hp) (.dct (vs := []) upd_same rfl (rp.notMu hp) .nil)

/-! ### operators -/
def rAll (X : Cx) (f : Value → Value → Sem Value) : V → V → Hp → VK → Prop := fun v u H Q => ∃ r, OpR X f r ∧ r v u H Q
theorem opAll {X : Cx} {f : Value → Value → Sem Value} : OpR X f (rAll X f) := fun pins s σ H x y v u Q I rx ry ⟨r, h, q⟩ => h pins s σ H x y v u Q I rx ry q
def Bin.op : Bin → Operator
  | .add => .Add | .addM => .Add | .sub => .Sub | .mul => .Mult | .fdiv => .FloorDiv | .mod => .Mod | .pow => .Pow
def Cmp.op : Cmp → CmpOp
  | .lt => .Lt | .le => .LtE | .gt => .Gt | .ge => .GtE | .eq => .Eq | .ne => .NotEq | .isN => .Is | .notN => .IsNot | .isin => .In | .notin => .NotIn

def CPowW (i j : Int) : Prop := 0 ≤ j ∧ (Builtin.Int.intBits i : Int) * j ≤ 2 ^ 27
theorem op_powW {X : Cx} : OpR X (binaryOp .Pow) (rI CPowW fun i j => .int (i ^ j.toNat)) := opI fun _ _ _ _ _ _ _ hc q => PyProof.Rows.pow_int hc.1 hc.2 q

theorem mulOk.w {i j : Int} (h : mulOk i j = true) : CMulW i j := by unfold mulOk at h; simpa [CMulW] using h
theorem divOk.w {i j : Int} (h : divOk j = true) : CDivW i j := by unfold divOk at h; simpa [CDivW] using h
theorem powOk.w {i j : Int} (h : powOk i j = true) : CPowW i j := by unfold powOk at h; simpa [CPowW] using h
theorem ownOf_ok {K : Kx} {ρ : Pl} {H : Hp} {st : Sto} (rp : Rep K ρ H st) {d : D} {v : V} {xs : List D} (e : ownOf d st = some xs) (r : RV K ρ st H d v) : ∃ p vs, v = .ref p ∧ H p = some (.lst vs) ∧ RVs K ρ st H xs vs := by
  cases r with
  | lst h m rs => cases e; exact ⟨_, _, rfl, h, rs⟩
  | ref hn =>
    rename_i n
    simp only [ownOf] at e
    split at e
    · rename_i ys hy
      cases e
      obtain ⟨vs, h1, h2⟩ := rp.lst n xs hy
      exact ⟨_, vs, rfl, h1, h2⟩
    · cases e
  | _ => cases e
theorem bin_ok {X : Cx} {n : Nat} {z : Hz} (G : Good Γ n X z) {o : Bin} {x y d : D} {st st' : Sto} {ρ : Pl} {H : Hp} {v u : V} {Q : VK} (h : bin o x y st = .ok d st') (rx : RV (kx X z) ρ st H x v) (ry : RV (kx X z) ρ st H y u) (rp : Rep (kx X z) ρ H st)
    (q : ∀ v ρ' H', Go (kx X z) ρ st H ρ' st' H' → RV (kx X z) ρ' st' H' d v → Q v H') : rAll X (binaryOp o.op) v u H Q := by
  unfold bin at h
  split at h
  · cases h; cases rx; cases ry
    exact ⟨_, op_add, _, _, rfl, rfl, q _ _ _ (Go.refl rp) (.int _)⟩
  · cases h; cases rx; cases ry
    exact ⟨_, op_sub, _, _, rfl, rfl, q _ _ _ (Go.refl rp) (.int _)⟩
  · split at h
    · rename_i hc
      cases h; cases rx; cases ry
      exact ⟨_, op_mulW, _, _, rfl, rfl, mulOk.w hc, q _ _ _ (Go.refl rp) (.int _)⟩
    · cases h
  · split at h
    · rename_i hc
      cases h; cases rx; cases ry
      exact ⟨_, op_fdivW, _, _, rfl, rfl, divOk.w hc, q _ _ _ (Go.refl rp) (.int _)⟩
    · cases h
  · split at h
    · rename_i hc
      cases h; cases rx; cases ry
      exact ⟨_, op_mod, _, _, rfl, rfl, hc, q _ _ _ (Go.refl rp) (.int _)⟩
    · cases h
  · split at h
    · rename_i hc
      cases h; cases rx; cases ry
      exact ⟨_, op_powW, _, _, rfl, rfl, powOk.w hc, q _ _ _ (Go.refl rp) (.int _)⟩
    · cases h
  · split at h
    · rename_i hc
      cases h; cases rx; cases ry
      exact ⟨_, op_add_str, _, _, rfl, rfl, hc, q _ _ _ (Go.refl rp) (.str _)⟩
    · cases h
  · split at h
    · rename_i hc
      cases h
      cases rx with
      | tup h1 r1 =>
        cases ry with
        | tup h2 r2 =>
          rename_i b us' a vs'
          refine ⟨_, op_catA, _, _, _, _, rfl, rfl, h1, h2, by rw [← r1.length, ← r2.length]; exact hc, fun z => ?_, fun z1 z2 => ?_, fun z1 z2 p hp => ?_⟩
          · subst z; cases r1
            exact q _ _ _ (Go.refl rp) (.tup h2 r2)
          · subst z2; cases r2
            refine q _ _ _ (Go.refl rp) ?_
            rw [List.append_nil]
            exact .tup h1 r1
          · exact q _ _ _ (Go.fresh rp hp) (.tup (SqT.of upd_same) ((Go.fresh rp hp).rvs (r1.app r2)))
    · cases h
  · split at h
    · rename_i hc
      cases h
      cases ry
      cases rx with
      | tup h1 r1 =>
        rename_i a vs
        refine ⟨_, op_repT, _, _, _, rfl, rfl, h1, fun z => ?_, hc.2.2.1, hc.2.2.2, by rw [← r1.length]; exact hc.2.1, fun p hp => ?_⟩
        · have := hc.1; rw [r1.length, z] at this; exact absurd this (by decide)
        · exact q _ _ _ (Go.fresh rp hp) (.tup (SqT.of upd_same) ((Go.fresh rp hp).rvs (r1.rep _)))
    · cases h
  · split at h
    · split at h
      · rename_i xs ys e1 e2 hc
        cases h
        obtain ⟨p1, vs, rfl, h1, r1⟩ := ownOf_ok rp e1 rx
        obtain ⟨p2, us, rfl, h2, r2⟩ := ownOf_ok rp e2 ry
        refine ⟨_, op_cat, _, _, _, _, rfl, rfl, h1, h2, by rw [← r1.length, ← r2.length]; exact hc, fun p hp => ?_⟩
        exact q _ _ _ (Go.fresh rp hp) (RV.newV rp hp (r1.app r2))
      · cases h
    · cases h
  · split at h
    · split at h
      · rename_i xs ys e1 e2 hc
        cases h
        obtain ⟨p1, vs, rfl, h1, r1⟩ := ownOf_ok rp e1 rx
        obtain ⟨p2, us, rfl, h2, r2⟩ := ownOf_ok rp e2 ry
        refine ⟨_, op_cat, _, _, _, _, rfl, rfl, h1, h2, by rw [← r1.length, ← r2.length]; exact hc, fun p hp => ?_⟩
        exact q _ _ _ (Go.newL rp hp (r1.app r2)) RV.last
      · cases h
    · cases h
  · split at h
    · split at h
      · rename_i xs e1 hc
        cases h
        obtain ⟨p1, vs, rfl, h1, r1⟩ := ownOf_ok rp e1 rx
        cases ry
        refine ⟨_, op_rep, _, _, _, rfl, rfl, h1, hc.1, hc.2.1, by rw [← r1.length]; exact hc.2.2, fun p hp => ?_⟩
        exact q _ _ _ (Go.fresh rp hp) (RV.newV rp hp (r1.rep _))
      · cases h
    · cases h
  · cases h
theorem sim_bin {a b : Expr} {i j : E} {o : Bin} {pos : Pos} (h1 : SimE Γ a i) (h2 : SimE Γ b j) : SimE Γ (.BinOp a o.op b pos) (.bin o i j) := by
  intro n X z G env st d st' ρ σ H Q h re rp q
  simp only [ev] at h
  obtain ⟨x, s1, e1, h⟩ := Res.bind_eq_ok h
  obtain ⟨y, s2, e2, h⟩ := Res.bind_eq_ok h
  refine TW.of (pe_op opAll pe_w pe_w) (h1 G e1 re rp fun v ρ1 H1 g1 r1 => h2 G e2 (re.move g1) g1.rep fun u ρ2 H2 g2 r2 => ?_)
  exact bin_ok G h (g2.rv r1) r2 g2.rep fun w ρ3 H3 g3 r3 => q w ρ3 H3 ((g1.trans g2).trans g3) r3
end RP

namespace RP
open PySem L2

/-! ### data behind a value -/
mutual
inductive Dq (K : PySem.W.Frag) (H : Hp) : V → PyData → Prop
  | non : Dq K H .non .none
  | bl (b : Bool) : Dq K H (.bl b) (.bool b)
  | int (i : Int) : Dq K H (.int i) (.int i)
  | str (x : Str) : Dq K H (.str x) (.str x)
  | lst {a : Addr} {xs : List V} {ds : List PyData} : SqL K H a xs → DqAll K H xs ds → Dq K H (.ref a) (.list ds)
  | tup {a : Addr} {xs : List V} {ds : List PyData} : SqT K H a xs → DqAll K H xs ds → Dq K H (.ref a) (.tuple ds)
  | dct {a : Addr} {ks : List Key} {xs : List V} {ds : List PyData} : H a = some (.dK (ks.zip xs)) → ks.length = xs.length → DqAll K H xs ds → Dq K H (.ref a) (.dict ((ks.map keyP).zip ds))
inductive DqAll (K : PySem.W.Frag) (H : Hp) : List V → List PyData → Prop
  | nil : DqAll K H [] []
  | cons {v : V} {vs : List V} {d : PyData} {ds : List PyData} : Dq K H v d → DqAll K H vs ds → DqAll K H (v :: vs) (d :: ds)
end
mutual
theorem Dq.dp {K : PySem.W.Frag} {H : Hp} : ∀ {d : PyData} {v : V}, d.canLay0 = true → Dq K H v d → Dp K H v d
  | _, _, _, .non => .non
  | _, _, _, .bl b => .bl b
  | _, _, _, .int i => .int i
  | _, _, _, .str x => .str x
  | _, _, h, .lst s r => .lst s (DqAll.dp (by simpa [PyData.canLay0] using h) r)
  | _, _, h, .tup s r => .tup s (DqAll.dp (by simpa [PyData.canLay0] using h) r)
  | _, _, h, .dct _ _ _ => by simp [PyData.canLay0] at h
theorem DqAll.dp {K : PySem.W.Frag} {H : Hp} : ∀ {d : List PyData} {v : List V}, PyData.canLayAll0 d = true → DqAll K H v d → DpAll K H v d
  | _, _, _, .nil => .nil
  | _, _, h, .cons a r => by
    simp only [PyData.canLayAll0, Bool.and_eq_true] at h
    exact .cons (Dq.dp h.1 a) (DqAll.dp h.2 r)
end
theorem DqAll.length {K : PySem.W.Frag} {H : Hp} : ∀ {d : List PyData} {v : List V}, DqAll K H v d → v.length = d.length
  | _, _, .nil => rfl
  | _, _, .cons _ r => by simp [r.length]
section
variable {X : Cx} {pins : List (Addr × Obj)} {σ : St} {H : Hp} {s : Shared}
theorem keys_read {h : Heap} {P : Program} {w : World} : ∀ {es : List DictEntry} {vs : List (Key × Value)}, Pairs (mixKind P w) es vs → ReadsAll h (es.map (·.key)) ((vs.map (·.1)).map keyP) [] ∧ es.map (·.val) = vs.map (·.2)
  | [], _, .nil => ⟨.nil, rfl⟩
  | e :: es, _, .cons q q2 r => by
    obtain ⟨h1, h2⟩ := keys_read (h := h) r
    refine ⟨?_, by simp only [List.map_cons, h2, q2]⟩
    simp only [List.map_cons]
    rcases keyIs_shape q with ⟨i, t, e1, e2⟩ | ⟨x, t, e1, e2⟩
    · rw [e1, e2]; exact .cons (as := []) (.int i t) h1
    · rw [e1, e2]; exact .cons (as := []) (.str x t) h1
theorem kv_zip : ∀ {ks : List Key} {xs : List V} {vs : List (Key × Value)}, ks.length = xs.length → KV (ks.zip xs) vs → vs.map (·.1) = ks ∧ Vals xs (vs.map (·.2))
  | [], [], _, _, .nil => ⟨rfl, .nil⟩
  | k :: ks, x :: xs, _, l, .cons q r => by
    obtain ⟨h1, h2⟩ := kv_zip (ks := ks) (xs := xs) (by simpa using l) r
    exact ⟨by simp only [List.map_cons, h1, ← q.1], .cons q.2 h2⟩
  | [], _ :: _, _, l, _ => by simp at l
  | _ :: _, [], _, l, _ => by simp at l
mutual
theorem Dq.reads (I : Inv X pins σ H s) : ∀ (d : PyData) (v : V) (u : Value), Dq X.K H v d → RelV v u → ∃ as, Reads s.heap u d as
  | _, _, _, .non, r => by cases r; exact ⟨_, Reads.none⟩
  | _, _, _, .bl b, r => by cases r; exact ⟨_, Reads.bool b⟩
  | _, _, _, .int i, r => by obtain ⟨t, rfl⟩ := r; exact ⟨_, Reads.int i t⟩
  | _, _, _, .str x, r => by obtain ⟨t, rfl⟩ := r; exact ⟨_, Reads.str x t⟩
  | _, _, _, .lst hs ha, r => by
    cases r
    obtain ⟨its, rv, ⟨o, n, ho, hc, _, hd⟩, _⟩ := I.list hs
    obtain ⟨as, hr⟩ := DqAll.reads I _ _ its ha rv
    exact ⟨_, Reads.list ho hc hd hr⟩
  | _, _, _, .tup hs ha, r => by
    cases r
    obtain ⟨its, rv, ⟨o, ho, hc, n, hd⟩, _⟩ := I.tuple hs
    obtain ⟨as, hr⟩ := DqAll.reads I _ _ its ha rv
    exact ⟨_, Reads.tuple ho hc hd hr⟩
  | _, _, _, .dct (ks := ks) (xs := xs) (ds := ds) hs hl ha, r => by
    cases r
    obtain ⟨_, hsm, vs, kv, o, es, ep, ho, hc, hd, _, hp, _⟩ := dk_of I.hok hs
    obtain ⟨e1, e2⟩ := kv_zip hl kv
    obtain ⟨k1, k2⟩ := keys_read (h := s.heap) hp
    obtain ⟨as, hr⟩ := DqAll.reads I _ _ _ ha e2
    have hld : ks.length = ds.length := hl.trans ha.length
    refine ⟨_, Reads.dict (as := []) (bs := as) ho hc.1 hd ?_ ?_⟩
    · rw [List.map_fst_zip (by simp [hld]), ← e1]; exact k1
    · rw [List.map_snd_zip (by simp [hld]), k2]; exact hr
theorem DqAll.reads (I : Inv X pins σ H s) : ∀ (d : List PyData) (v : List V) (u : List Value), DqAll X.K H v d → Vals v u → ∃ as, ReadsAll s.heap u d as
  | _, _, _, .nil, .nil => ⟨_, ReadsAll.nil⟩
  | _, _, _, .cons h t, .cons r q => by
    obtain ⟨as, h1⟩ := Dq.reads I _ _ _ h r
    obtain ⟨bs, h2⟩ := DqAll.reads I _ _ _ t q
    exact ⟨_, ReadsAll.cons h1 h2⟩
end
theorem no_rd {h : Heap} {n : Nat} : ReadAtMost h n [] := fun b hb => absurd hb (by simp)
theorem keys_show {P : Program} {w : World} {h : Heap} {k : Nat} : ∀ {es : List DictEntry} {vs : List (Key × Value)}, Pairs (mixKind P w) es vs → PyData.showableAll ((vs.map (·.1)).map keyP) = true → (∀ t ∈ PyData.shownAll ((vs.map (·.1)).map keyP), t.length ≤ sizeLine) →
    ReprAllK P w [] h k (es.map (·.key)) (PyData.shownAll ((vs.map (·.1)).map keyP))
  | [], _, .nil, _, _ => by simp only [List.map_nil, PyData.shownAll]; exact .nil
  | e :: es, _, .cons q q2 r, hs, hz => by
    simp only [List.map_cons, PyData.showableAll, Bool.and_eq_true] at hs
    simp only [List.map_cons, PyData.shownAll, List.mem_cons, forall_eq_or_imp] at hz ⊢
    have t := keys_show (h := h) (k := k) r hs.2 hz.2
    rcases keyIs_shape q with ⟨i, tk, e1, e2⟩ | ⟨x, tk, e1, e2⟩
    · rw [e1] at hs hz ⊢
      rw [e2]
      refine .cons ?_ t
      have := hs.1
      simp only [keyP, PyData.showable] at this
      simp only [keyP, PyData.shown]
      exact ReprK.of_is (ReprIs.int tk (of_decide_eq_true this)) _ _ _
    · rw [e1] at hs hz ⊢
      rw [e2]
      refine .cons ?_ t
      have := hz.1
      simp only [keyP, PyData.shown] at this ⊢
      exact ReprK.of_is (ReprIs.str x tk this) _ _ _
/-- a sequence's text, once the texts of its items are there -/
theorem lst_show {P : Program} {w : World} {h : Heap} {a : Addr} {its : List Value} {n : Nat} {o : Obj} {ds : List PyData} {as bs : List Addr} (ho : h.get? a = some o) (hc : o.cls = .type "list") (hd : o.data = .seq its.toArray n) (rr : ReadsAll h its ds as)
    (hb : ReadAtMost h (PyData.depthAll ds) bs) (k : ReprAllK P w bs h (PyData.depthAll ds) its (PyData.shownAll ds)) : ReprK P w (a :: bs) h (PyData.depthAll ds + 1) (.ref a) (listText (PyData.shownAll ds)) := by
  cases its with
  | nil =>
    cases rr
    simp only [PyData.shownAll, listText_nil]
    exact ReprK.listEmpty ho hc hd
  | cons x l =>
    have na : a ∉ bs := not_mem_of_deeper (Reads.list ho hc hd (by simpa using rr)) (by simp only [PyData.depth]; omega) hb
    exact ReprK.list ho hc hd na (by simpa using k.length_eq) (fun i y e => k.item i y (by simpa using e))
mutual
theorem Dq.shows (I : Inv X pins σ H s) : ∀ (d : PyData) (v : V) (u : Value), Dq X.K H v d → RelV v u → d.showable = true → d.shown.length ≤ sizeLine → ∃ bs, ReadAtMost s.heap d.depth bs ∧ ReprK X.prog X.w bs s.heap d.depth u d.shown
  | _, _, _, .non, r, _, _ => by cases r; exact ⟨[], no_rd, by simp only [PyData.shown]; exact ReprK.of_is ReprIs.none _ _ _⟩
  | _, _, _, .bl b, r, _, _ => by cases r; exact ⟨[], no_rd, by simp only [PyData.shown]; exact ReprK.of_is (ReprIs.bool b) _ _ _⟩
  | _, _, _, .int i, r, hs, _ => by obtain ⟨t, rfl⟩ := r; exact ⟨[], no_rd, by simp only [PyData.shown]; exact ReprK.of_is (ReprIs.int t (by simpa [PyData.showable] using hs)) _ _ _⟩
  | _, _, _, .str x, r, _, hz => by obtain ⟨t, rfl⟩ := r; exact ⟨[], no_rd, by simp only [PyData.shown]; exact ReprK.of_is (ReprIs.str x t (by simpa only [PyData.shown] using hz)) _ _ _⟩
  | _, _, _, .lst (ds := ds) hs ha, r, sh, hz => by
    cases r
    obtain ⟨its, rv, ⟨o, n, ho, hc, _, hd⟩, _⟩ := I.list hs
    obtain ⟨as, rr⟩ := DqAll.reads I _ _ its ha rv
    have hz' : (listText (PyData.shownAll ds)).length ≤ sizeLine := by simpa only [PyData.shown] using hz
    obtain ⟨bs, b1, k1⟩ := DqAll.shows I _ _ its ha rv (by simpa [PyData.showable] using sh) (fun t ht => Nat.le_trans (listText_mem_le ht) hz')
    refine ⟨_ :: bs, ReadAtMost.cons (Reads.list ho hc hd (by simpa using rr)) (by simp only [PyData.depth]; omega) b1, ?_⟩
    simp only [PyData.depth, PyData.shown]
    exact lst_show ho hc hd rr b1 k1
  | _, _, _, .tup (ds := ds) hs ha, r, sh, hz => by
    cases r
    obtain ⟨its, rv, ⟨o, ho, hc, n, hd⟩, _⟩ := I.tuple hs
    obtain ⟨as, rr⟩ := DqAll.reads I _ _ its ha rv
    have hz' : (tupleText (PyData.shownAll ds)).length ≤ sizeLine := by simpa only [PyData.shown] using hz
    obtain ⟨bs, b1, k1⟩ := DqAll.shows I _ _ its ha rv (by simpa [PyData.showable] using sh) (fun t ht => Nat.le_trans (tupleText_mem_le ht) hz')
    have rd := Reads.tuple ho hc hd (by simpa using rr)
    refine ⟨_ :: bs, ReadAtMost.cons rd (by simp only [PyData.depth]; omega) b1, ?_⟩
    simp only [PyData.depth, PyData.shown]
    exact ReprK.tuple ho hc hd (not_mem_of_deeper rd (by simp only [PyData.depth]; omega) b1) (by simpa using k1)
  | _, _, _, .dct (ks := ks) (xs := xs) (ds := ds) hs hl ha, r, sh, hz => by
    cases r
    obtain ⟨_, hsm, vs, kv, o, es, ep, ho, hc, hd, _, hp, _⟩ := dk_of I.hok hs
    obtain ⟨e1, e2⟩ := kv_zip hl kv
    obtain ⟨k1, k2⟩ := keys_read (h := s.heap) hp
    obtain ⟨as, hr⟩ := DqAll.reads I _ _ _ ha e2
    have hld : ks.length = ds.length := hl.trans ha.length
    have m1 : ((ks.map keyP).zip ds).map (·.1) = (vs.map (·.1)).map keyP := by rw [List.map_fst_zip (by simp [hld]), e1]
    have m2 : ((ks.map keyP).zip ds).map (·.2) = ds := List.map_snd_zip (by simp [hld])
    generalize hkv : (ks.map keyP).zip ds = kvs at m1 m2 sh hz ⊢
    have hz' : (dictText (PyData.shownKv kvs)).length ≤ sizeLine := by simpa only [PyData.shown] using hz
    obtain ⟨s1, s2⟩ := PyData.showableKv_split kvs (by simpa [PyData.showable] using sh)
    have dk := PyData.depthAll_keys_le kvs
    have dv := PyData.depthAll_vals_le kvs
    have tk := fun t ht => let ⟨p, hp, hl⟩ := PyData.shownKv_key_le kvs t ht; Nat.le_trans hl (Nat.le_trans (dictText_mem_le hp) hz')
    have tv := fun t ht => let ⟨p, hp, hl⟩ := PyData.shownKv_val_le kvs t ht; Nat.le_trans hl (Nat.le_trans (dictText_mem_le hp) hz')
    rw [m1] at s1 tk dk
    rw [m2] at s2 tv dv
    have q1 := keys_show (P := X.prog) (w := X.w) (h := s.heap) (k := PyData.depthKv kvs) hp s1 tk
    obtain ⟨bs, b1, q2⟩ := DqAll.shows I _ _ _ ha e2 s2 tv
    have rd : Reads s.heap (.ref _) (.dict kvs) _ := Reads.dict (as := []) (bs := as) ho hc.1 hd (by rw [m1]; exact k1) (by rw [m2, k2]; exact hr)
    have b2 := b1.mono dv
    refine ⟨_ :: bs, ReadAtMost.cons rd (by simp only [PyData.depth]; omega) b2, ?_⟩
    simp only [PyData.depth, PyData.shown, PyData.shownKv_eq]
    rw [m1, m2]
    refine ReprK.dict ho hc.1 hd hsm (not_mem_of_deeper rd (by simp only [PyData.depth]; omega) b2) (ReprEntriesK.of_two es.toList _ _ (q1.more_le (as' := bs) (fun b h => absurd h (by simp)) (Nat.le_refl _)) ?_)
    rw [k2]
    exact q2.more_le (fun _ h => h) dv
theorem DqAll.shows (I : Inv X pins σ H s) : ∀ (d : List PyData) (v : List V) (u : List Value), DqAll X.K H v d → Vals v u → PyData.showableAll d = true → (∀ t ∈ PyData.shownAll d, t.length ≤ sizeLine) →
    ∃ bs, ReadAtMost s.heap (PyData.depthAll d) bs ∧ ReprAllK X.prog X.w bs s.heap (PyData.depthAll d) u (PyData.shownAll d)
  | _, _, _, .nil, .nil, _, _ => ⟨[], no_rd, by simp only [PyData.shownAll]; exact .nil⟩
  | _, _, _, .cons h t, .cons r q, sh, hz => by
    simp only [PyData.showableAll, Bool.and_eq_true] at sh
    simp only [PyData.shownAll, List.mem_cons, forall_eq_or_imp] at hz
    obtain ⟨as, a1, k1⟩ := Dq.shows I _ _ _ h r sh.1 hz.1
    obtain ⟨bs, a2, k2⟩ := DqAll.shows I _ _ _ t q sh.2 hz.2
    simp only [PyData.depthAll, PyData.shownAll]
    exact ⟨as ++ bs, (a1.mono (Nat.le_max_left _ _)).append (a2.mono (Nat.le_max_right _ _)), .cons ((k1.more fun b hb => List.mem_append_left _ hb).level_le (Nat.le_max_left _ _)) (k2.more_le (fun b hb => List.mem_append_right _ hb) (Nat.le_max_right _ _))⟩
end
end
mutual
theorem pyW_ok {K : Kx} {ρ : Pl} {st : Sto} {H : Hp} {rd : Nat → Option PyData} (hr : ∀ n p, rd n = some p → Dq K.K H (.ref (ρ n)) p) : ∀ {d : D} {v : V} {p : PyData}, pyW rd d = some p → RV K ρ st H d v → Dq K.K H v p
  | .non, _, _, e, .non => by cases e; exact .non
  | .bl b, _, _, e, .bl _ => by cases e; exact .bl b
  | .int i, _, _, e, .int _ => by cases e; exact .int i
  | .str x, _, _, e, .str _ => by cases e; exact .str x
  | .tup xs, _, p, e, .tup h r => by
    simp only [pyW] at e
    cases q : pysW rd xs with
    | none => rw [q] at e; cases e
    | some ps => rw [q] at e; cases e; exact .tup h (pysW_ok hr q r)
  | .lst xs, _, p, e, .lst h _ r => by
    simp only [pyW] at e
    cases q : pysW rd xs with
    | none => rw [q] at e; cases e
    | some ps => rw [q] at e; cases e; exact .lst (SqL.of h) (pysW_ok hr q r)
  | .dct ks xs, _, p, e, .dct h l _ r => by
    simp only [pyW] at e
    cases q : pysW rd xs with
    | none => rw [q] at e; cases e
    | some ps => rw [q] at e; cases e; exact .dct h l (pysW_ok hr q r)
  | .ref n, _, p, e, .ref _ => hr n p e
theorem pysW_ok {K : Kx} {ρ : Pl} {st : Sto} {H : Hp} {rd : Nat → Option PyData} (hr : ∀ n p, rd n = some p → Dq K.K H (.ref (ρ n)) p) : ∀ {d : List D} {v : List V} {p : List PyData}, pysW rd d = some p → RVs K ρ st H d v → DqAll K.K H v p
  | [], _, _, e, .nil => by cases e; exact .nil
  | x :: xs, _, p, e, .cons h r => by
    simp only [pysW] at e
    cases q1 : pyW rd x with
    | none => rw [q1] at e; cases e
    | some a =>
      rw [q1] at e
      cases q2 : pysW rd xs with
      | none => rw [q2] at e; cases e
      | some as => rw [q2] at e; cases e; exact .cons (pyW_ok hr q1 h) (pysW_ok hr q2 r)
end
theorem rdN_ok {K : Kx} {ρ : Pl} {H : Hp} {st : Sto} (rp : Rep K ρ H st) : ∀ (f n : Nat) (p : PyData), rdN st f n = some p → Dq K.K H (.ref (ρ n)) p
  | 0, n, p, e => by cases e
  | f + 1, n, p, e => by
    simp only [rdN] at e
    cases q : st[n]? with
    | none => rw [q] at e; cases e
    | some o =>
      rw [q] at e
      obtain ⟨vs, h1, h2⟩ := rp.seq q
      cases q2 : pysW (rdN st f) o.items with
      | none => simp only [q2] at e; cases e
      | some ps => simp only [q2] at e; cases e; exact .lst h1 (pysW_ok (rdN_ok rp f) q2 h2)
theorem toPy_ok {K : Kx} {ρ : Pl} {H : Hp} {st : Sto} (rp : Rep K ρ H st) {d : D} {v : V} {p : PyData} (e : toPy st d = some p) (r : RV K ρ st H d v) : Dq K.K H v p := pyW_ok (rdN_ok rp 4) e r

def rEqM (K : PySem.W.Frag) (neg : Bool) : V → V → Hp → VK → Prop := fun x y H Q => ∃ d e, Dp K H x d ∧ Dp K H y e ∧ d.canLay0 = true ∧ e.canLay0 = true ∧ min d.depth e.depth ≤ 64 ∧ Q (.bl (if neg then !PyData.eqv d e else PyData.eqv d e)) H
theorem op_eqM {X : Cx} (hu : X.A.units + 64 < cLine) : OpR X (compareOp .Eq) (rEqM X.K false) := by
  intro pins s σ H x y v u Q I rx ry h
  obtain ⟨d, e, hd, he, ld, le, hm, q⟩ := h
  obtain ⟨as, r1⟩ := Dp.reads I d x v hd rx
  obtain ⟨bs, r2⟩ := Dp.reads I e y u he ry
  exact SeqAt.compareEq_reads r1 r2 ld le (by omega) ⟨.bl _, H, I, rfl, q⟩
theorem op_neM {X : Cx} (hu : X.A.units + 64 < cLine) : OpR X (compareOp .NotEq) (rEqM X.K true) := by
  intro pins s σ H x y v u Q I rx ry h
  obtain ⟨d, e, hd, he, ld, le, hm, q⟩ := h
  obtain ⟨as, r1⟩ := Dp.reads I d x v hd rx
  obtain ⟨bs, r2⟩ := Dp.reads I e y u he ry
  exact SeqAt.compareNe_reads r1 r2 ld le (by omega) ⟨.bl _, H, I, rfl, q⟩

def rNilT (K : PySem.W.Frag) (neg : Bool) : V → V → Hp → VK → Prop := fun x y H Q => ∃ a b xs, x = .ref a ∧ y = .ref b ∧ SqT K H a xs ∧ SqT K H b [] ∧ Q (.bl (if neg then !xs.isEmpty else xs.isEmpty)) H
def rNilL (K : PySem.W.Frag) (neg : Bool) : V → V → Hp → VK → Prop := fun x y H Q => ∃ a b xs, x = .ref a ∧ y = .ref b ∧ SqL K H a xs ∧ SqL K H b [] ∧ Q (.bl (if neg then !xs.isEmpty else xs.isEmpty)) H
theorem vals_nil {its : List Value} (h : Vals [] its) : its = [] := by cases h; rfl
theorem vals_emp {xs : List V} {its : List Value} (h : Vals xs its) : its.isEmpty = xs.isEmpty := by cases h <;> rfl
theorem op_eqT0 {X : Cx} (hu : X.A.units < cLine) : OpR X (compareOp .Eq) (rNilT X.K false) := by
  intro pins s σ H x y v u Q I rx ry h
  obtain ⟨a, b, xs, rfl, rfl, h1, h2, q⟩ := h
  cases rx; cases ry
  obtain ⟨its, r1, p1, _⟩ := I.tuple h1
  obtain ⟨its2, r2, p2, _⟩ := I.tuple h2
  obtain rfl := vals_nil r2
  refine SeqAt.eq_tupleAt (e := fun _ => true) (show s.heap.IsTuple a its.toArray from p1) (show s.heap.IsTuple b #[] from p2) hu (fun j _ h2 => absurd h2 (by simp)) ⟨.bl _, H, I, ?_, q⟩
  show Value.bool _ = Value.bool _
  rw [← vals_emp r1]
  cases its <;> simp
theorem op_neT0 {X : Cx} (hu : X.A.units < cLine) : OpR X (compareOp .NotEq) (rNilT X.K true) := by
  intro pins s σ H x y v u Q I rx ry h
  obtain ⟨a, b, xs, rfl, rfl, h1, h2, q⟩ := h
  cases rx; cases ry
  obtain ⟨its, r1, p1, _⟩ := I.tuple h1
  obtain ⟨its2, r2, p2, _⟩ := I.tuple h2
  obtain rfl := vals_nil r2
  refine (SeqAt.RcNeAt.tuples (e := fun _ => true) (show s.heap.IsTuple a its.toArray from p1) (show s.heap.IsTuple b #[] from p2) hu (fun j _ h2 => absurd h2 (by simp))) X.prog X.w X.xe _ ⟨.bl _, H, I, ?_, q⟩
  show Value.bool _ = Value.bool _
  simp only [if_true]
  rw [← vals_emp r1]
  cases its <;> simp
theorem plainL {h : Heap} {a : Addr} {its : Array Value} (p : PlainL h a its) : h.IsList a its := p.isList
theorem op_eqL0 {X : Cx} (hu : X.A.units < cLine) : OpR X (compareOp .Eq) (rNilL X.K false) := by
  intro pins s σ H x y v u Q I rx ry h
  obtain ⟨a, b, xs, rfl, rfl, h1, h2, q⟩ := h
  cases rx; cases ry
  obtain ⟨its, r1, p1, _⟩ := I.list h1
  obtain ⟨its2, r2, p2, _⟩ := I.list h2
  obtain rfl := vals_nil r2
  have em := vals_emp r1
  cases its with
  | nil =>
    refine SeqAt.eq_listAt (e := fun _ => true) p1.isList p2.isList rfl hu (fun j _ h2 => absurd h2 (by simp)) ⟨.bl _, H, I, ?_, q⟩
    show Value.bool _ = Value.bool _
    simp only [← em]; rfl
  | cons i r =>
    refine SeqAt.eq_list_lengthsAt p1.isList p2.isList (by simp) hu ⟨.bl _, H, I, ?_, q⟩
    show Value.bool _ = Value.bool _
    simp only [← em]; rfl
theorem op_neL0 {X : Cx} (hu : X.A.units < cLine) : OpR X (compareOp .NotEq) (rNilL X.K true) := by
  intro pins s σ H x y v u Q I rx ry h
  obtain ⟨a, b, xs, rfl, rfl, h1, h2, q⟩ := h
  cases rx; cases ry
  obtain ⟨its, r1, p1, _⟩ := I.list h1
  obtain ⟨its2, r2, p2, _⟩ := I.list h2
  obtain rfl := vals_nil r2
  have em := vals_emp r1
  cases its with
  | nil =>
    refine (SeqAt.RcNeAt.lists (e := fun _ => true) p1.isList p2.isList rfl hu (fun j _ h2 => absurd h2 (by simp))) X.prog X.w X.xe _ ⟨.bl _, H, I, ?_, q⟩
    show Value.bool _ = Value.bool _
    simp only [← em]; rfl
  | cons i r =>
    refine (SeqAt.RcNeAt.lists_lengths p1.isList p2.isList (by simp) hu) X.prog X.w X.xe _ ⟨.bl _, H, I, ?_, q⟩
    show Value.bool _ = Value.bool _
    simp only [← em]; rfl
theorem RVs.emp {K : Kx} {ρ : Pl} {st : Sto} {H : Hp} {ds : List D} {vs : List V} (r : RVs K ρ st H ds vs) : vs.isEmpty = ds.isEmpty := by cases r <;> rfl
theorem flat_ok {K : Kx} {ρ : Pl} {st : Sto} {H : Hp} {d : D} {v : V} (f : flat d = true) (r : RV K ρ st H d v) : flatV v = true := by
  cases r <;> first | rfl | cases f
theorem eqF_ok {K : Kx} {ρ : Pl} {st : Sto} {H : Hp} {d e : D} {v u : V} (f : flat d = true) (f' : flat e = true) (r : RV K ρ st H d v) (r' : RV K ρ st H e u) : eqF d e = eqV v u := by
  cases r <;> first | (cases f; done) | (cases r' <;> first | rfl | (cases f'; done))
theorem flats_ok {K : Kx} {ρ : Pl} {st : Sto} {H : Hp} {x : D} {v : V} (fx : flat x = true) (rx : RV K ρ st H x v) : ∀ {ds : List D} {vs : List V}, ds.all flat = true → RVs K ρ st H ds vs → vs.all flatV = true ∧ (ds.any fun y => eqF y x) = inV v vs
  | _, _, _, .nil => ⟨rfl, rfl⟩
  | _, _, f, .cons h r => by
    simp only [List.all_cons, Bool.and_eq_true] at f
    obtain ⟨h1, h2⟩ := flats_ok fx rx f.2 r
    refine ⟨by simp only [List.all_cons, Bool.and_eq_true]; exact ⟨flat_ok f.1 h, h1⟩, ?_⟩
    unfold inV at h2 ⊢
    rw [List.any_cons, List.any_cons, h2, eqF_ok f.1 fx h rx]
theorem seqOf_ok {K : Kx} {ρ : Pl} {H : Hp} {st : Sto} (rp : Rep K ρ H st) {d : D} {v : V} {xs : List D} (e : seqOf d st = some xs) (r : RV K ρ st H d v) : ∃ p vs, v = .ref p ∧ (SqL K.K H p vs ∨ SqT K.K H p vs) ∧ RVs K ρ st H xs vs := by
  cases r with
  | tup h rs => cases e; exact ⟨_, _, rfl, .inr h, rs⟩
  | lst h m rs => cases e; exact ⟨_, _, rfl, .inl (SqL.of h), rs⟩
  | ref hn =>
    rename_i n
    simp only [seqOf] at e
    cases q : st[n]? with
    | none => rw [q] at e; cases e
    | some o =>
      rw [q] at e; cases e
      obtain ⟨vs, h1, h2⟩ := rp.seq q
      exact ⟨_, vs, rfl, .inl h1, h2⟩
  | _ => cases e

theorem lstOf_ok {K : Kx} {ρ : Pl} {H : Hp} {st : Sto} (rp : Rep K ρ H st) {d : D} {v : V} {xs : List D} (e : lstOf d st = some xs) (r : RV K ρ st H d v) : ∃ p vs, v = .ref p ∧ SqL K.K H p vs ∧ RVs K ρ st H xs vs := by
  cases r with
  | lst h m rs => cases e; exact ⟨_, _, rfl, SqL.of h, rs⟩
  | ref hn =>
    rename_i n
    simp only [lstOf] at e
    cases q : st[n]? with
    | none => rw [q] at e; cases e
    | some o =>
      rw [q] at e; cases e
      obtain ⟨vs, h1, h2⟩ := rp.seq q
      exact ⟨_, vs, rfl, h1, h2⟩
  | _ => cases e
theorem ofB_ok {r : Option Bool} {st st' : Sto} {d : D} (h : ofB r st = .ok d st') : ∃ b, r = some b ∧ d = .bl b ∧ st' = st := by
  cases r with
  | none => cases h
  | some b => cases h; exact ⟨b, rfl, rfl, rfl⟩
theorem map_some {α β : Type} {r : Option α} {f : α → β} {b : β} (h : r.map f = some b) : ∃ a, r = some a ∧ f a = b := by
  cases r with
  | none => cases h
  | some a => cases h; exact ⟨a, rfl, rfl⟩

variable {Γ : Ctx}
theorem eqP_ok {X : Cx} {ρ : Pl} {H : Hp} {st : Sto} {x y : D} {v u : V} {b : Bool} (e : eqP x y st = some b) (rp : Rep (kx X z) ρ H st) (rx : RV (kx X z) ρ st H x v) (ry : RV (kx X z) ρ st H y u) :
    ∃ d e, Dp X.K H v d ∧ Dp X.K H u e ∧ d.canLay0 = true ∧ e.canLay0 = true ∧ min d.depth e.depth ≤ 64 ∧ PyData.eqv d e = b := by
  unfold eqP at e
  split at e
  · rename_i p q hp hq
    split at e
    · rename_i c
      cases e
      exact ⟨p, q, (toPy_ok rp hp rx).dp c.1, (toPy_ok rp hq ry).dp c.2.1, c.1, c.2.1, c.2.2, rfl⟩
    · cases e
  · cases e
theorem eqS_dec {a b : Str} : decide (V.str a = V.str b) = decide (a = b) := by
  rw [Bool.eq_iff_iff]; simp
theorem eqD_ok {X : Cx} (hu : X.A.units + 64 < cLine) {ρ : Pl} {H : Hp} {st : Sto} {x y : D} {v u : V} {b : Bool} {Q : VK} (e : eqD x y st = some b) (rp : Rep (kx X z) ρ H st) (rx : RV (kx X z) ρ st H x v) (ry : RV (kx X z) ρ st H y u) (q : Q (.bl b) H) : rAll X (compareOp .Eq) v u H Q := by
  unfold eqD at e
  split at e
  · cases rx; cases ry; cases e
    exact ⟨_, op_eq, rfl, by rw [eqS_dec]; exact q⟩
  · cases e
    cases rx with
    | tup h1 r1 => cases ry with | tup h2 r2 => cases r2; exact ⟨_, op_eqT0 (by omega), _, _, _, rfl, rfl, h1, h2, by simpa [r1.emp] using q⟩
  · cases e
    cases rx with
    | lst h1 _ r1 => cases ry with | lst h2 _ r2 => cases r2; exact ⟨_, op_eqL0 (by omega), _, _, _, rfl, rfl, SqL.of h1, SqL.of h2, by simpa [r1.emp] using q⟩
  · obtain ⟨p, r, h1, h2, h3, h4, h5, h6⟩ := eqP_ok e rp rx ry
    exact ⟨_, op_eqM hu, p, r, h1, h2, h3, h4, h5, by simpa [h6] using q⟩
theorem neD_ok {X : Cx} (hu : X.A.units + 64 < cLine) {ρ : Pl} {H : Hp} {st : Sto} {x y : D} {v u : V} {b : Bool} {Q : VK} (e : eqD x y st = some b) (rp : Rep (kx X z) ρ H st) (rx : RV (kx X z) ρ st H x v) (ry : RV (kx X z) ρ st H y u) (q : Q (.bl (!b)) H) : rAll X (compareOp .NotEq) v u H Q := by
  unfold eqD at e
  split at e
  · cases rx; cases ry; cases e
    exact ⟨_, op_ne, rfl, by rw [eqS_dec]; exact q⟩
  · cases e
    cases rx with
    | tup h1 r1 => cases ry with | tup h2 r2 => cases r2; exact ⟨_, op_neT0 (by omega), _, _, _, rfl, rfl, h1, h2, by simpa [r1.emp] using q⟩
  · cases e
    cases rx with
    | lst h1 _ r1 => cases ry with | lst h2 _ r2 => cases r2; exact ⟨_, op_neL0 (by omega), _, _, _, rfl, rfl, SqL.of h1, SqL.of h2, by simpa [r1.emp] using q⟩
  · obtain ⟨p, r, h1, h2, h3, h4, h5, h6⟩ := eqP_ok e rp rx ry
    exact ⟨_, op_neM hu, p, r, h1, h2, h3, h4, h5, by simpa [h6] using q⟩
theorem cmp_ok {X : Cx} {n : Nat} {z : Hz} (G : Good Γ n X z) {o : Cmp} {x y d : D} {st st' : Sto} {ρ : Pl} {H : Hp} {v u : V} {Q : VK} (h : cmp o x y st = .ok d st') (rx : RV (kx X z) ρ st H x v) (ry : RV (kx X z) ρ st H y u) (rp : Rep (kx X z) ρ H st)
    (q : ∀ b, d = .bl b → st' = st → Q (.bl b) H) : rAll X (compareOp o.op) v u H Q := by
  have hu : X.A.units + 64 < cLine := (by have := G.room.un; omega)
  have hu5 : X.A.units + 65 < cLine := by have := G.room.un; omega
  unfold cmp at h
  split at h
  · cases h; cases rx; cases ry; exact ⟨_, op_lt, _, _, rfl, rfl, q _ rfl rfl⟩
  · cases h; cases rx; cases ry; exact ⟨_, op_le, _, _, rfl, rfl, q _ rfl rfl⟩
  · cases h; cases rx; cases ry; exact ⟨_, op_gt, _, _, rfl, rfl, q _ rfl rfl⟩
  · cases h; cases rx; cases ry; exact ⟨_, op_ge, _, _, rfl, rfl, q _ rfl rfl⟩
  · obtain ⟨b, e, rfl, rfl⟩ := ofB_ok h
    exact eqD_ok hu e rp rx ry (q _ rfl rfl)
  · obtain ⟨b, e, rfl, rfl⟩ := ofB_ok h
    obtain ⟨a, e2, rfl⟩ := map_some e
    exact neD_ok hu e2 rp rx ry (q _ rfl rfl)
  · cases h; cases rx; cases ry; exact ⟨_, op_isBl, _, _, rfl, rfl, q _ rfl rfl⟩
  · cases h; cases rx; cases ry; exact ⟨_, op_notBl, _, _, rfl, rfl, q _ rfl rfl⟩
  · cases h; cases ry
    refine ⟨_, op_isN, rfl, ?_⟩
    cases rx <;> exact q _ rfl rfl
  · cases h; cases ry
    refine ⟨_, op_notN, rfl, ?_⟩
    cases rx <;> exact q _ rfl rfl
  · obtain ⟨b, e, rfl, rfl⟩ := ofB_ok h
    unfold inD at e
    split at e
    · rename_i xs hs
      split at e
      · rename_i c
        cases e
        simp only [Bool.and_eq_true] at c
        obtain ⟨p, vs, rfl, h1, h2⟩ := seqOf_ok rp hs ry
        obtain ⟨f1, f2⟩ := flats_ok c.1 rx c.2 h2
        exact ⟨_, op_in_seq, p, vs, rfl, h1, flat_ok c.1 rx, f1, q _ (by rw [f2]; rfl) rfl⟩
      · unfold inP at e
        split at e
        · rename_i d ds e1 e2
          split at e
          · rename_i c
            cases e
            exact ⟨_, op_inD hu5, d, ds, (toPy_ok rp e1 rx).dp (SeqAt.canLay_of_shaped c.1), (toPy_ok rp e2 ry).dp (SeqAt.canLay_of_shaped c.2), c.1, c.2, q _ rfl rfl⟩
          · cases e
        · cases e
    · cases e
  · obtain ⟨b, e, rfl, rfl⟩ := ofB_ok h
    obtain ⟨a, e2, rfl⟩ := map_some e
    clear h e
    unfold inD at e2
    split at e2
    · rename_i xs hs
      split at e2
      · rename_i c
        cases e2
        simp only [Bool.and_eq_true] at c
        obtain ⟨p, vs, rfl, h1, h2⟩ := seqOf_ok rp hs ry
        obtain ⟨f1, f2⟩ := flats_ok c.1 rx c.2 h2
        exact ⟨_, op_notIn_seq, p, vs, rfl, h1, flat_ok c.1 rx, f1, q _ (by rw [f2]; rfl) rfl⟩
      · unfold inP at e2
        split at e2
        · rename_i d ds e3 e4
          split at e2
          · rename_i c
            cases e2
            exact ⟨_, op_notInD hu5, d, ds, (toPy_ok rp e3 rx).dp (SeqAt.canLay_of_shaped c.1), (toPy_ok rp e4 ry).dp (SeqAt.canLay_of_shaped c.2), c.1, c.2, q _ rfl rfl⟩
          · cases e2
        · cases e2
    · cases e2
  · cases h
/-- a right side that is no set display -/
def nset : Expr → Bool
  | .Set _ _ _ => false
  | _ => true
theorem marks {op : CmpOp} {b : Expr} (h : nset b = true) : behindInMarks op b = false := by
  cases b <;> first | rfl | cases h
theorem sim_cmp {a b : Expr} {i j : E} {o : Cmp} {pos : Pos} (hb : nset b = true) (h1 : SimE Γ a i) (h2 : SimE Γ b j) : SimE Γ (.Compare a [o.op] [b] pos) (.cmp o i j) := by
  intro n X z G env st d st' ρ σ H Q h re rp q
  simp only [ev] at h
  obtain ⟨x, s1, e1, h⟩ := Res.bind_eq_ok h
  obtain ⟨y, s2, e2, h⟩ := Res.bind_eq_ok h
  refine TW.of (pe_cmpR opAll pe_w pe_w (marks hb)) (h1 G e1 re rp fun v ρ1 H1 g1 r1 => h2 G e2 (re.move g1) g1.rep fun u ρ2 H2 g2 r2 => ?_)
  refine cmp_ok G h (g2.rv r1) r2 g2.rep fun b e es => ?_
  subst e; subst es
  exact q _ ρ2 H2 (g1.trans g2) (.bl _)
theorem test_cmp {a b : Expr} {i j : E} {o : Cmp} {pos : Pos} (hb : nset b = true) (h1 : SimE Γ a i) (h2 : SimE Γ b j) : SimT Γ (.Compare a [o.op] [b] pos) (.cmp o i j) := by
  intro n X z G env st d k st' ρ σ H Q h ht re rp q
  simp only [ev] at h
  obtain ⟨x, s1, e1, h⟩ := Res.bind_eq_ok h
  obtain ⟨y, s2, e2, h⟩ := Res.bind_eq_ok h
  refine TWT.of (pt_cmpR opAll pe_w pe_w (marks hb)) (h1 G e1 re rp fun v ρ1 H1 g1 r1 => h2 G e2 (re.move g1) g1.rep fun u ρ2 H2 g2 r2 => ?_)
  refine cmp_ok G h (g2.rv r1) r2 g2.rep fun b e es => ?_
  subst e; subst es
  cases ht
  exact ⟨_, rfl, q ρ2 H2 (g1.trans g2)⟩
theorem marks2 {o p : CmpOp} {b c : Expr} (h : nset c = true) : lastMarks [o, p] [b, c] = false := marks h
theorem sim_chain {a b c : Expr} {i j k : E} {o p : Cmp} {pos : Pos} (hb : nset c = true) (h1 : SimE Γ a i) (h2 : SimE Γ b j) (h3 : SimE Γ c k) : SimE Γ (.Compare a [o.op, p.op] [b, c] pos) (.chain o p i j k) := by
  intro n X z G env st d st' ρ σ H Q h re rp q
  simp only [ev] at h
  obtain ⟨x, s1, e1, h⟩ := Res.bind_eq_ok h
  obtain ⟨y, s2, e2, h⟩ := Res.bind_eq_ok h
  obtain ⟨z, s3, e3, h⟩ := Res.bind_eq_ok h
  refine TW.of (pe_chain opAll opAll pe_w pe_w pe_w (marks2 hb)) (h1 G e1 re rp fun v ρ1 H1 g1 r1 => h2 G e2 (re.move g1) g1.rep fun u ρ2 H2 g2 r2 => ?_)
  refine cmp_ok G e3 (g2.rv r1) r2 g2.rep fun b e es => ?_
  subst e; subst es
  refine ⟨b, rfl, ?_⟩
  unfold br isB at h
  cases b with
  | true =>
    simp only [if_true]
    obtain ⟨w, s4, e4, h⟩ := Res.bind_eq_ok h
    refine h3 G e4 (re.move (g1.trans g2)) g2.rep fun t ρ4 H4 g4 r4 => ?_
    refine cmp_ok G h (g4.rv r2) r4 g4.rep fun b e es => ?_
    subst e; subst es
    exact q _ ρ4 H4 ((g1.trans g2).trans g4) (.bl _)
  | false =>
    cases h
    exact q _ ρ2 H2 (g1.trans g2) (.bl _)
theorem test_chain {a b c : Expr} {i j k : E} {o p : Cmp} {pos : Pos} (hb : nset c = true) (h1 : SimE Γ a i) (h2 : SimE Γ b j) (h3 : SimE Γ c k) : SimT Γ (.Compare a [o.op, p.op] [b, c] pos) (.chain o p i j k) := by
  intro n X z G env st d kk st' ρ σ H Q h ht re rp q
  simp only [ev] at h
  obtain ⟨x, s1, e1, h⟩ := Res.bind_eq_ok h
  obtain ⟨y, s2, e2, h⟩ := Res.bind_eq_ok h
  obtain ⟨z, s3, e3, h⟩ := Res.bind_eq_ok h
  refine TWT.of (pt_chain opAll opAll pe_w pe_w pe_w (marks2 hb)) (h1 G e1 re rp fun v ρ1 H1 g1 r1 => h2 G e2 (re.move g1) g1.rep fun u ρ2 H2 g2 r2 => ?_)
  refine cmp_ok G e3 (g2.rv r1) r2 g2.rep fun b e es => ?_
  subst e; subst es
  refine ⟨b, rfl, ?_⟩
  unfold br isB at h
  cases b with
  | true =>
    simp only [if_true]
    obtain ⟨w, s4, e4, h⟩ := Res.bind_eq_ok h
    refine h3 G e4 (re.move (g1.trans g2)) g2.rep fun t ρ4 H4 g4 r4 => ?_
    refine cmp_ok G h (g4.rv r2) r4 g4.rep fun b e es => ?_
    subst e; subst es
    cases ht
    exact ⟨_, rfl, q ρ4 H4 ((g1.trans g2).trans g4)⟩
  | false =>
    cases h
    cases ht
    exact ⟨_, rfl, q ρ2 H2 (g1.trans g2)⟩

/-! ### truth, not, and, or, if -/
/-- a test that is asked as its value is -/
def plainT : Expr → Bool
  | .UnaryOp .Not _ _ => false
  | .BoolOp _ _ _ => false
  | .IfExp _ _ _ _ => false
  | .Compare _ _ _ _ => false
  | _ => true
theorem isTrue_of {e : Expr} (h : plainT e = true) (env : PySem.Env) (whole : Sem Value) : isTrue e env whole = (do let v ← whole; standAt e.pos; holding [v] (truthy v)) := by
  cases e with
  | UnaryOp op a p => cases op <;> first | rfl | cases h
  | _ => first | rfl | cases h
theorem test_plain {e : Expr} {i : E} (hp : plainT e = true) (h1 : SimE Γ e i) : SimT Γ e i := by
  intro n X z G env st d k st' ρ σ H Q h ht re rp q
  exact TWT.of (pt_truth pe_w (isTrue_of hp _)) (h1 G h re rp fun v ρ1 H1 g1 r1 => ⟨k, tru_ok g1.rep r1 ht, q ρ1 H1 g1⟩)
theorem sim_neg {a : Expr} {i : E} {pos : Pos} (h1 : SimE Γ a i) : SimE Γ (.UnaryOp .USub a pos) (.neg i) := by
  intro n X z G env st d st' ρ σ H Q h re rp q
  simp only [ev] at h
  obtain ⟨x, s1, e1, h⟩ := Res.bind_eq_ok h
  unfold negD at h
  split at h
  · cases h
    refine TW.of (pe_un un_neg pe_w) (h1 G e1 re rp fun v ρ1 H1 g1 r1 => ?_)
    cases r1
    exact ⟨_, rfl, q _ ρ1 H1 g1 (.int _)⟩
  · cases h
theorem sim_not {a : Expr} {i : E} {pos : Pos} (h1 : SimE Γ a i) : SimE Γ (.UnaryOp .Not a pos) (.not i) := by
  intro n X z G env st d st' ρ σ H Q h re rp q
  simp only [ev] at h
  obtain ⟨x, s1, e1, h⟩ := Res.bind_eq_ok h
  unfold br at h
  split at h
  · rename_i hb
    cases h
    exact TW.of (pe_notT pe_w) (h1 G e1 re rp fun v ρ1 H1 g1 r1 => ⟨true, tru_ok g1.rep r1 hb, q _ ρ1 H1 g1 (.bl _)⟩)
  · rename_i hb
    cases h
    exact TW.of (pe_notT pe_w) (h1 G e1 re rp fun v ρ1 H1 g1 r1 => ⟨false, tru_ok g1.rep r1 hb, q _ ρ1 H1 g1 (.bl _)⟩)
  · cases h
theorem test_not {a : Expr} {i : E} {pos : Pos} (h1 : SimT Γ a i) : SimT Γ (.UnaryOp .Not a pos) (.not i) := by
  intro n X z G env st d k st' ρ σ H Q h ht re rp q
  simp only [ev] at h
  obtain ⟨x, s1, e1, h⟩ := Res.bind_eq_ok h
  unfold br at h
  split at h
  · rename_i hb
    cases h
    cases ht
    exact TWT.of (pt_not pt_w) (h1 G e1 hb re rp fun ρ1 H1 g1 => q ρ1 H1 g1)
  · rename_i hb
    cases h
    cases ht
    exact TWT.of (pt_not pt_w) (h1 G e1 hb re rp fun ρ1 H1 g1 => q ρ1 H1 g1)
  · cases h
theorem sim_one {op : BoolOp} {a : Expr} {i : E} {pos : Pos} (h1 : SimE Γ a i) : SimE Γ (.BoolOp op [a] pos) i := by
  intro n X z G env st d st' ρ σ H Q h re rp q
  exact TW.of (pe_one pe_w) (h1 G h re rp q)
theorem sim_and {a b : Expr} {r : List Expr} {i j : E} {pos : Pos} (h1 : SimE Γ a i) (h2 : SimE Γ (.BoolOp .And (b :: r) pos) j) : SimE Γ (.BoolOp .And (a :: b :: r) pos) (.and i j) := by
  intro n X z G env st d st' ρ σ H Q h re rp q
  simp only [ev] at h
  obtain ⟨x, s1, e1, h⟩ := Res.bind_eq_ok h
  refine TW.of (pe_andT pe_w pe_w) (h1 G e1 re rp fun v ρ1 H1 g1 r1 => ?_)
  unfold br at h
  split at h
  · rename_i hb
    refine ⟨true, tru_ok g1.rep r1 hb, ?_⟩
    simp only [if_true]
    exact h2 G h (re.move g1) g1.rep fun u ρ2 H2 g2 r2 => q u ρ2 H2 (g1.trans g2) r2
  · rename_i hb
    cases h
    refine ⟨false, tru_ok g1.rep r1 hb, ?_⟩
    exact q v ρ1 H1 g1 r1
  · cases h
theorem sim_or {a b : Expr} {r : List Expr} {i j : E} {pos : Pos} (h1 : SimE Γ a i) (h2 : SimE Γ (.BoolOp .Or (b :: r) pos) j) : SimE Γ (.BoolOp .Or (a :: b :: r) pos) (.or i j) := by
  intro n X z G env st d st' ρ σ H Q h re rp q
  simp only [ev] at h
  obtain ⟨x, s1, e1, h⟩ := Res.bind_eq_ok h
  refine TW.of (pe_orT pe_w pe_w) (h1 G e1 re rp fun v ρ1 H1 g1 r1 => ?_)
  unfold br at h
  split at h
  · rename_i hb
    cases h
    refine ⟨true, tru_ok g1.rep r1 hb, ?_⟩
    simp only [if_true]
    exact q v ρ1 H1 g1 r1
  · rename_i hb
    refine ⟨false, tru_ok g1.rep r1 hb, ?_⟩
    exact h2 G h (re.move g1) g1.rep fun u ρ2 H2 g2 r2 => q u ρ2 H2 (g1.trans g2) r2
  · cases h
theorem pw_w {X : Cx} {op : BoolOp} {es : List Expr} {pos : Pos} : PW X (.BoolOp op es pos) (TWT X (.BoolOp op es pos)) := ⟨fun whole pins s σ H Q I h => h pins s I⟩
theorem test_one {op : BoolOp} {a : Expr} {i : E} {pos : Pos} (h1 : SimT Γ a i) : SimT Γ (.BoolOp op [a] pos) i := by
  intro n X z G env st d k st' ρ σ H Q h ht re rp q
  cases op with
  | And => exact TWT.of (pw_and1 pt_w).pt (h1 G h ht re rp q)
  | Or => exact TWT.of (pw_or1 pt_w).pt (h1 G h ht re rp q)
theorem test_and {a b : Expr} {r : List Expr} {i j : E} {pos : Pos} (h1 : SimT Γ a i) (h2 : SimT Γ (.BoolOp .And (b :: r) pos) j) : SimT Γ (.BoolOp .And (a :: b :: r) pos) (.and i j) := by
  intro n X z G env st d k st' ρ σ H Q h ht re rp q
  simp only [ev] at h
  obtain ⟨x, s1, e1, h⟩ := Res.bind_eq_ok h
  unfold br at h
  split at h
  · rename_i hb
    refine TWT.of (pw_and pt_w pw_w).pt (h1 G e1 hb re rp fun ρ1 H1 g1 => ?_)
    rw [if_pos rfl]
    exact h2 G h ht (re.move g1) g1.rep fun ρ2 H2 g2 => q ρ2 H2 (g1.trans g2)
  · rename_i hb
    cases h
    have e : k = false := Option.some.inj (ht.symm.trans hb)
    subst e
    refine TWT.of (pw_and pt_w pw_w).pt (h1 G e1 hb re rp fun ρ1 H1 g1 => ?_)
    rw [if_neg Bool.false_ne_true]
    exact q ρ1 H1 g1
  · cases h
theorem test_or {a b : Expr} {r : List Expr} {i j : E} {pos : Pos} (h1 : SimT Γ a i) (h2 : SimT Γ (.BoolOp .Or (b :: r) pos) j) : SimT Γ (.BoolOp .Or (a :: b :: r) pos) (.or i j) := by
  intro n X z G env st d k st' ρ σ H Q h ht re rp q
  simp only [ev] at h
  obtain ⟨x, s1, e1, h⟩ := Res.bind_eq_ok h
  unfold br at h
  split at h
  · rename_i hb
    cases h
    have e : k = true := Option.some.inj (ht.symm.trans hb)
    subst e
    refine TWT.of (pw_or pt_w pw_w).pt (h1 G e1 hb re rp fun ρ1 H1 g1 => ?_)
    rw [if_pos rfl]
    exact q ρ1 H1 g1
  · rename_i hb
    refine TWT.of (pw_or pt_w pw_w).pt (h1 G e1 hb re rp fun ρ1 H1 g1 => ?_)
    rw [if_neg Bool.false_ne_true]
    exact h2 G h ht (re.move g1) g1.rep fun ρ2 H2 g2 => q ρ2 H2 (g1.trans g2)
  · cases h
theorem sim_ife {c a b : Expr} {k i j : E} {pos : Pos} (h0 : SimT Γ c k) (h1 : SimE Γ a i) (h2 : SimE Γ b j) : SimE Γ (.IfExp c a b pos) (.ife k i j) := by
  intro n X z G env st d st' ρ σ H Q h re rp q
  simp only [ev] at h
  obtain ⟨x, s1, e1, h⟩ := Res.bind_eq_ok h
  unfold br at h
  split at h
  · rename_i hb
    refine TW.of (pe_ifExp pt_w pe_w pe_w) (h0 G e1 hb re rp fun ρ1 H1 g1 => ?_)
    rw [if_pos rfl]
    exact h1 G h (re.move g1) g1.rep fun u ρ2 H2 g2 r2 => q u ρ2 H2 (g1.trans g2) r2
  · rename_i hb
    refine TW.of (pe_ifExp pt_w pe_w pe_w) (h0 G e1 hb re rp fun ρ1 H1 g1 => ?_)
    rw [if_neg Bool.false_ne_true]
    exact h2 G h (re.move g1) g1.rep fun u ρ2 H2 g2 r2 => q u ρ2 H2 (g1.trans g2) r2
  · cases h

/-! ### subscripts -/
def nslice : Expr → Bool
  | .Slice _ _ _ _ => false
  | _ => true
theorem plain_ix {b : Expr} (h : nslice b = true) : PlainIx b := by
  intro o i
  cases b <;> first | rfl | cases h
theorem RVs.at {K : Kx} {ρ : Pl} {st : Sto} {H : Hp} {ds : List D} {vs : List V} {i : Int} {d : D} (r : RVs K ρ st H ds vs) (h : atI ds i = some d) : ∃ v, atI vs i = some v ∧ RV K ρ st H d v := by
  unfold atI at h ⊢
  rw [← r.length]
  cases q : ixN ds.length i with
  | none => rw [q] at h; cases h
  | some j => rw [q] at h; exact r.get h
theorem sim_ix {a b : Expr} {i j : E} {pos : Pos} (hb : nslice b = true) (h1 : SimE Γ a i) (h2 : SimE Γ b j) : SimE Γ (.Subscript a b pos) (.ix i j) := by
  intro n X z G env st d st' ρ σ H Q h re rp q
  simp only [ev] at h
  obtain ⟨x, s1, e1, h⟩ := Res.bind_eq_ok h
  obtain ⟨y, s2, e2, h⟩ := Res.bind_eq_ok h
  refine TW.of (pe_ix ix_seq pe_w pe_w (plain_ix hb)) (h1 G e1 re rp fun v ρ1 H1 g1 r1 => h2 G e2 (re.move g1) g1.rep fun u ρ2 H2 g2 r2 => ?_)
  unfold ixD at h
  split at h
  · split at h
    · rename_i xs hs
      split at h
      · rename_i dd hd
        cases h
        cases r2
        obtain ⟨p, vs, rfl, h3, h4⟩ := seqOf_ok g2.rep hs (g2.rv r1)
        obtain ⟨w, h5, h6⟩ := h4.at hd
        have qq := q w ρ2 H2 (g1.trans g2) h6
        rcases h3 with h3 | h3
        · exact .inl ⟨p, vs, _, w, rfl, rfl, h3, h5, qq⟩
        · exact .inr (.inl ⟨p, vs, _, w, rfl, rfl, h3, h5, qq⟩)
      · cases h
    · cases h
  · cases h
end RP

namespace RP
open PySem L2 PySem.Spec PySem.Calls PyProof.Rows
/-! ### the greatest of several -/
section
variable {prog : Program} {w : World} {A : Around} {E : Value → Shared → Prop} {s : Shared}
theorem args_max3 (a b c : Value) : argsOk "max" ⟨[a, b, c], []⟩ := by
  unfold argsOk; kernel_rfl
theorem args_max4 (a b c d : Value) : argsOk "max" ⟨[a, b, c, d], []⟩ := by
  unfold argsOk; kernel_rfl
theorem call_max_more {a b c : Value} {r : List Value} {Q : Value → Shared → Prop} (ao : argsOk "max" ⟨a :: b :: c :: r, []⟩) (sz : (a :: b :: c :: r).length ≤ 4)
    (h : wpAny (model prog w) A.in1 (pyIter (.ref s.heap.objs.size)) (fun it t => ∃ I fp wr n P St bt, it = .ref I ∧ Walks prog w A.in1 I fp wr n P St ∧ St 0 t.heap ∧ (∀ b ∈ fp, b < t.heap.objs.size) ∧ 0 < n ∧
        CmpOf prog w A.in1 .Gt P bt ∧ ∀ v h' tk, P (argBest bt (n - 1)) v → (∀ b o, b ∉ wr → t.heap.get? b = some o → h'.get? b = some o) → Q v { t with heap := h', toks := tk }) E
      { s with heap := s.heap.push { cls := .type "tuple", data := .seq (a :: b :: c :: r).toArray } }) : wpAny (model prog w) A (call (.builtin "max") (a :: b :: c :: r)) Q E s := by
  have nm : (toString "max" ++ toString ".loop" : String) = "max.loop" := by decide
  have bp : Builtin.Builtins.bindParams "max" ["key", "default"] 0 ⟨[], []⟩ = pure [none, none] := rfl
  have zs : (a :: b :: c :: r).toArray.size ≤ sizeLine := by
    rw [List.size_toArray]
    exact Nat.le_trans sz (by decide)
  refine call_function_tree F.kind_max F.plain_max F.entry_max ao (wpAny_bind (wpAny_of_eq bp ?_))
  show wpAny _ A.in1 (newTuple (a :: b :: c :: r) >>= _) _ _ s
  refine wpAny_bind (wpAny_newObj_type (wpAny_bind (wpAny_mono h (fun it t ht => ?_) fun _ _ e => e)) ?_)
  · rcases ht with ⟨I, fp, wr, n, P, St, bt, ei, W, h1, h2, h3, h4, h5⟩
    subst ei
    have nf : t.heap.objs.size ∉ fp := fun m => absurd (h2 _ m) (Nat.lt_irrefl _)
    refine wpAny_bind (wpAny_newObj_type ?_)
    rw [nm]
    have fr := W.frame _ _ _ h1 fun b _ o e => Heap.get?_push_of_some (h := t.heap) { cls := .type "best_so_far", data := .fields #[] } e
    refine wpAny_pure ⟨plainId_quiet F.plain_max_loop _, codeAny_max_loop_first W bt h4 t.heap.objs.size nf h3 ?_ (Heap.get?_push_size _ rfl) fun v h' tk hP hk => ?_⟩
    · exact W.frame _ _ _ h1 fun b _ o e => Heap.get?_push_of_some _ e
    · exact h5 v h' tk hP fun b o hb e => hk b o hb (Nat.ne_of_lt (Heap.lt_size e)) (Heap.get?_push_of_some _ e)
  · exact zs
end

/-- max(a, b, c, ..) of whole numbers -/
theorem max_ints {X : Cx} {xs : Array (Int × Tok)} {pins : List (Addr × Obj)} {σ : L2.St} {H : Hp} {Q : VK} (hc : X.calm = true) {s : Shared} (I : Inv X pins σ H s) (ha : argsOk "max" ⟨(intItems xs).toList, []⟩) (hn : xs.size = 3 ∨ xs.size = 4)
    (q : ∀ m, m ∈ xs.toList.map (·.1) → (∀ i ∈ xs.toList.map (·.1), i ≤ m) → Q (.int m) H) : wpAny (model X.prog X.w) X.A (call (.builtin "max") (intItems xs).toList) (EP X pins σ Q) X.xe s := by
  have e3 : ∃ a b c r, (intItems xs).toList = a :: b :: c :: r ∧ (a :: b :: c :: r).length ≤ 4 := by
    have hl : (intItems xs).toList.length = xs.size := by simp [intItems]
    match h : (intItems xs).toList with
    | [] => rw [h] at hl; simp at hl; omega
    | [_] => rw [h] at hl; simp at hl; omega
    | [_, _] => rw [h] at hl; simp at hl; omega
    | a :: b :: c :: r => exact ⟨a, b, c, r, rfl, by rw [← h, hl]; omega⟩
  obtain ⟨a, b, c, r, e, hz⟩ := e3
  have ar : (a :: b :: c :: r).toArray = intItems xs := by rw [← e]
  rw [e] at ha ⊢
  refine call_max_more ha hz ?_
  rw [ar]
  have tp : (s.heap.push { cls := .type "tuple", data := .seq (intItems xs) }).IsTuple s.heap.objs.size (intItems xs) := ⟨_, Heap.get?_push_size _ rfl, rfl, 0, rfl⟩
  have z1 : (s.heap.push { cls := .type "tuple", data := .seq (intItems xs) }).objs.size = s.heap.objs.size + 1 := Heap.size_push ..
  have z0 : 0 < xs.size := by omega
  refine wpAny_pyIter_tuple tp ?_
  refine ⟨_, [_, s.heap.objs.size], [_], _, _, _, _, rfl, Walks.tuple (A := X.A.in1) (I.ok.hd hc) _ s.heap.objs.size (fun z => absurd (z.trans z1) (Nat.ne_of_lt (Nat.lt_succ_self _))) (intItems xs), ⟨⟨_, Heap.get?_push_size _ rfl, rfl, rfl⟩, tp.push _⟩, fun k hk => ?_, by simpa [intItems] using z0,
    CmpOf.ints_gt (numAt xs) (fun _ _ => intItems_at), fun v h' tk hP hk => ?_⟩
  · show k < ((s.heap.push _).push _).objs.size
    rw [Heap.size_push, z1]
    rcases List.mem_cons.mp hk with e | hk
    · rw [e, z1]; exact Nat.lt_succ_self _
    · obtain rfl : k = s.heap.objs.size := by simpa using hk
      exact Nat.lt_succ_of_lt (Nat.lt_succ_self _)
  · have old : ∀ k o, s.heap.get? k = some o → h'.get? k = some o := fun k o e => by
      refine hk k o (fun hm => ?_) (Heap.get?_push_of_some _ (Heap.get?_push_of_some _ e))
      have lt := Heap.lt_size e
      obtain rfl : k = _ := List.mem_singleton.mp hm
      rw [z1] at lt
      exact Nat.lt_irrefl _ (Nat.lt_of_succ_lt lt)
    have hP' : (intItems xs)[argBest (fun i j => decide (numAt xs i > numAt xs j)) (xs.size - 1)]? = some v := by simpa [intItems] using hP
    obtain ⟨t, rfl⟩ := intItems_at hP'
    obtain ⟨a1, a2⟩ := argBest_gt (numAt xs) (xs.size - 1)
    refine ⟨.int _, H, I.kept (t' := tk) old, ⟨t, rfl⟩, q _ ?_ fun i hi => ?_⟩
    · rw [numAt_eq]; exact PySem.getD_mem (Nat.lt_of_le_of_lt a1 (by rw [List.length_map, Array.length_toList]; exact Nat.pred_lt (Nat.ne_of_gt z0)))
    · obtain ⟨j, hj, rfl⟩ := mem_getD hi
      rw [List.length_map, Array.length_toList] at hj
      rw [← numAt_eq]; exact a2 j (Nat.le_pred_of_lt hj)
/-- .. as a rule -/
theorem call_maxN {X : Cx} (hc : X.calm = true) : CallR X (.builtin "max") (fun xs H Q => ∃ ns : List Int, xs = ns.map V.int ∧ (ns.length = 3 ∨ ns.length = 4) ∧ ∀ m, m ∈ ns → (∀ i ∈ ns, i ≤ m) → Q (.int m) H) := by
  intro pins s σ H xs us Q I r h
  obtain ⟨ns, rfl, hl, q⟩ := h
  have go : ∀ {ns : List Int} {us : List Value}, Vals (ns.map V.int) us → ∃ ys : List (Int × Tok), ys.map (·.1) = ns ∧ us = ys.map fun p => Value.int p.1 p.2 := by
    intro ns
    induction ns with
    | nil => intro us r; cases r; exact ⟨[], rfl, rfl⟩
    | cons n ns ih =>
      intro us r
      cases r with
      | cons r1 r2 =>
        obtain ⟨t, rfl⟩ := r1
        obtain ⟨ys, e1, e2⟩ := ih r2
        exact ⟨(n, t) :: ys, by simp [e1], by simp [e2]⟩
  obtain ⟨ys, rfl, rfl⟩ := go r
  have el : (intItems ys.toArray).toList = ys.map fun p => Value.int p.1 p.2 := by simp [intItems]
  have hl' : ys.toArray.size = 3 ∨ ys.toArray.size = 4 := by simpa using hl
  have ao : argsOk "max" ⟨(intItems ys.toArray).toList, []⟩ := by
    rw [el]
    simp only [List.length_map] at hl
    match ys, hl with
    | [a, b, c], _ => exact args_max3 _ _ _
    | [a, b, c, d], _ => exact args_max4 _ _ _ _
  rw [← el]
  exact max_ints (xs := ys.toArray) hc I ao hl' (by simpa using q)

end RP
namespace RP
open PySem L2

/-! ### sorted pairs -/
/-- sorted of a list whose items are pairs of whole numbers, wherever the pairs lie -/
def rSrt (K : PySem.W.Frag) : List V → Hp → VK → Prop := fun vs H Q => ∃ (a : Addr) (xs : List V) (k : V → Int × Int), vs = [V.ref a] ∧ SqL K H a xs ∧
  (∀ x ∈ xs, ∃ t, x = V.ref t ∧ SqT K H t [.int (k x).1, .int (k x).2]) ∧
  ((∀ t ys zs, SqT K H t ys → SqT K H t zs → ys = zs) → ∀ zs p, SrtO.Srtd (ltP k) zs → zs.Perm xs → H p = none → Q (.ref p) (upd H p (.lst zs)))
theorem cr_srt {X : Cx} : CallR X (.builtin "sorted") (rSrt X.K) := by
  intro pins s σ H vs us Q I hv hr
  rcases hr with ⟨a, xs, k, e0, hs, hx, q⟩
  subst e0
  obtain ⟨its, rv, hl, hz⟩ := I.list hs
  obtain ⟨u, e1, ru⟩ := vals1 hv
  obtain rfl : u = Value.ref a := ru
  subst e1
  have rf : ∀ x ∈ xs, ∃ t, x = V.ref t := fun x m => (hx x m).imp fun _ z => z.1
  obtain ⟨b1, b2⟩ := refs_back rv rf
  have zl : its.length ≤ sizeLine := Nat.le_trans (Nat.le_of_eq rv.length.symm) hz
  refine SrtO.sorted_pairsO (k := k ∘ backV) hl.isList zl (fun v hv => ?_) fun h' d out s1 s2 kp hd hn => ?_
  · obtain ⟨t, rfl⟩ := b2 v hv
    have hm : V.ref t ∈ xs := by
      rw [b1, List.mem_map]
      exact ⟨_, hv, rfl⟩
    obtain ⟨t2, e2, ht⟩ := hx _ hm
    cases e2
    obtain ⟨js, rj, ⟨o, g1, g2, n, g3⟩, _⟩ := I.tuple ht
    obtain ⟨v1, v2, rfl, ⟨t1, rfl⟩, ⟨t3, rfl⟩⟩ := vals2 rj
    exact ⟨t, o, t1, t3, n, rfl, g1, g2, g3⟩
  · have rf2 : ∀ u ∈ out, ∃ a, u = Value.ref a := fun u hu => b2 u (s2.perm.mem_iff.mp hu)
    obtain ⟨n, hn⟩ := hn
    have pm : (out.map backV).Perm xs := by
      rw [b1]
      exact s2.perm.map backV
    have new : ObjOk X.prog X.w (upd H d (.lst (out.map backV))) h' d (.lst (out.map backV)) := ⟨by rw [pm.length_eq]; exact hz, out, n, vals_back rf2, hn⟩
    exact ⟨.ref d, upd H d (.lst (out.map backV)), I.laid (t' := s.toks) kp hd new, rfl, q (fun t ys zs q1 q2 => I.tuple_inj q1 q2) _ d (SrtO.srtd_map s1) pm (I.hok.fresh hd)⟩

inductive All2 {α β : Type} (R : α → β → Prop) : List α → List β → Prop
  | nil : All2 R [] []
  | cons {a : α} {b : β} {l : List α} {m : List β} : R a b → All2 R l m → All2 R (a :: l) (b :: m)
theorem prsOf_ok {K : Kx} {ρ : Pl} {st : Sto} {H : Hp} : ∀ {ds : List D} {vs : List V} {ps : PP.Vs}, prsOf ds = some ps → RVs K ρ st H ds vs → ds = ps.map prD ∧ All2 (fun v (p : Int × Int) => ∃ t, v = V.ref t ∧ SqT K.K H t [.int p.1, .int p.2]) vs ps
  | [], _, _, e, .nil => by cases e; exact ⟨rfl, .nil⟩
  | d :: ds, _, ps, e, .cons h r => by
    unfold prsOf at e
    split at e
    · rename_i e0; cases e0
    · rename_i i j r' e0
      cases e0
      obtain ⟨qs, e1, rfl⟩ := map_some e
      obtain ⟨e2, e3⟩ := prsOf_ok e1 r
      cases h with
      | tup ht rs =>
        cases rs with
        | cons a rs =>
          cases rs with
          | cons b rs =>
            cases rs; cases a; cases b
            exact ⟨by rw [e2]; rfl, .cons ⟨_, rfl, ht⟩ e3⟩
    · cases e
open Classical in
/-- the pair that stands at an address -/
noncomputable def pairAt (K : PySem.W.Frag) (H : Hp) (v : V) : Int × Int :=
  if h : ∃ p : Int × Int, ∃ t, v = V.ref t ∧ SqT K H t [.int p.1, .int p.2] then h.choose else (0, 0)
theorem pairAt_at {K : PySem.W.Frag} {H : Hp} {v : V} (h : ∃ p : Int × Int, ∃ t, v = V.ref t ∧ SqT K H t [.int p.1, .int p.2]) : ∃ t, v = V.ref t ∧ SqT K H t [.int (pairAt K H v).1, .int (pairAt K H v).2] := by
  unfold pairAt
  rw [dif_pos h]
  exact h.choose_spec
theorem sor_of {k : V → Int × Int} : ∀ {zs : List V}, SrtO.Srtd (ltP k) zs → PP.Sor (zs.map k) := fun {zs} h => by
  unfold PP.Sor
  rw [List.pairwise_map]
  refine List.Pairwise.imp (fun {x y} q => ?_) h
  have q' := SrtO.lexB_no.mp q
  rw [PP.ltB_false]
  omega
theorem rvs_prs {K : Kx} {ρ : Pl} {st : Sto} {H : Hp} {k : V → Int × Int} : ∀ {zs : List V}, (∀ v ∈ zs, ∃ t, v = V.ref t ∧ SqT K.K H t [.int (k v).1, .int (k v).2]) → RVs K ρ st H ((zs.map k).map prD) zs
  | [], _ => .nil
  | z :: zs, h => by
    obtain ⟨t, rfl, ht⟩ := h z List.mem_cons_self
    exact .cons (.tup ht (.cons (.int _) (.cons (.int _) .nil))) (rvs_prs fun v hv => h v (List.mem_cons_of_mem _ hv))
theorem all2_mem {α β : Type} {R : α → β → Prop} : ∀ {l : List α} {m : List β}, All2 R l m → ∀ x ∈ l, ∃ y ∈ m, R x y
  | _, _, .nil, x, h => nomatch h
  | _, _, .cons a r, x, h => by
    rcases List.mem_cons.mp h with rfl | h
    · exact ⟨_, List.mem_cons_self, a⟩
    · obtain ⟨y, hy, z⟩ := all2_mem r x h
      exact ⟨y, List.mem_cons_of_mem _ hy, z⟩


theorem all2_pairs {K : PySem.W.Frag} {H : Hp} (inj : ∀ t ys zs, SqT K H t ys → SqT K H t zs → ys = zs) : ∀ {vs : List V} {ps : PP.Vs}, All2 (fun v (p : Int × Int) => ∃ t, v = V.ref t ∧ SqT K H t [.int p.1, .int p.2]) vs ps → vs.map (pairAt K H) = ps
  | _, _, .nil => rfl
  | _, _, .cons (a := v) (b := p) ⟨t, e, h⟩ r => by
    obtain ⟨t2, e2, h2⟩ := pairAt_at ⟨p, t, e, h⟩
    have et : t2 = t := by
      rw [e] at e2
      exact (V.ref.inj e2).symm
    subst et
    have := inj _ _ _ h2 h
    have ep : pairAt K H v = p := by
      have a := List.cons.inj this
      have b := List.cons.inj a.2
      exact Prod.ext (V.int.inj a.1) (V.int.inj b.1)
    rw [List.map_cons, ep, all2_pairs inj r]
theorem sorted_is {K : Kx} {ρ : Pl} {st : Sto} {H : Hp} (inj : ∀ t ys zs, SqT K.K H t ys → SqT K.K H t zs → ys = zs) {vs zs : List V} {ps : PP.Vs} (al : All2 (fun v (p : Int × Int) => ∃ t, v = V.ref t ∧ SqT K.K H t [.int p.1, .int p.2]) vs ps)
    (hs : SrtO.Srtd (ltP (pairAt K.K H)) zs) (hp : zs.Perm vs) : RVs K ρ st H ((PP.sortP ps).map prD) zs := by
  have e : zs.map (pairAt K.K H) = PP.sortP ps := by
    refine PP.sor_uniq (sor_of hs) (PP.sortP_sor ps) ((hp.map _).trans ?_)
    rw [all2_pairs inj al]
    exact (PP.sortP_perm ps).symm
  rw [← e]
  refine rvs_prs fun v hv => pairAt_at ?_
  obtain ⟨p, _, z⟩ := all2_mem al v (hp.mem_iff.mp hv)
  exact ⟨p, z⟩
end RP

/-! sorted of tuples of whole numbers, of any lengths -/
namespace RP
open PySem PySem.Calls PyProof.Rows
section
variable {prog : Program} {w : World} {A : Around} {E : Value → Shared → Prop} {s : Shared}
theorem lex_run {b : Bool} {Q : Bool → Shared → Prop} : ∀ {us vs : List Value} {a c : List Int} {i : Nat} {fin : Bool}, IntsAre us a → IntsAre vs c → fin = decide (a.length < c.length) → Q (PP.lexL a c) s → PySem.W.KatLex prog w A b fin Q (us.zip vs) i s
  | [], [], _, _, _, fin, .nil, .nil, hf, h => by
    subst hf
    exact PySem.W.kat_nil h
  | [], _ :: _, _, _, _, fin, .nil, .cons _ _ _, hf, h => by
    subst hf
    exact PySem.W.kat_nil (by simpa [PP.lexL] using h)
  | _ :: _, [], _, _, _, fin, .cons _ _ _, .nil, hf, h => by
    subst hf
    exact PySem.W.kat_nil (by simpa [PP.lexL] using h)
  | _ :: us, _ :: vs, x :: a, y :: c, i, fin, .cons _ _ r, .cons _ _ k, hf, h => by
    rw [List.zip_cons_cons]
    refine PySem.W.kat_cons (SeqAt.EqAt.int_int x _ y _ prog w _ _ ?_)
    refine PySem.W.kat_go (fun e => ?_) (fun e => ?_)
    · have ex : x = y := by simpa using e
      refine PySem.W.kat_yes (lex_run r k (by rw [hf]; simp) ?_)
      simp only [PP.lexL] at h
      rw [if_pos ex] at h
      exact h
    · have ex : ¬ x = y := by simpa using e
      simp only [PP.lexL] at h
      rw [if_neg ex] at h
      exact PySem.W.kat_no (TS.oneLt_ints _ h)
/-- a tuple of these whole numbers -/
def TupI (h : Heap) (v : Value) (ns : List Int) : Prop := ∃ a o its n, v = .ref a ∧ h.get? a = some o ∧ o.cls = .type "tuple" ∧ o.data = .seq its n ∧ IntsAre its.toList ns
theorem TupI.up {h h' : Heap} {v : Value} {ns : List Int} (p : TupI h v ns) (k : ∀ b o, h.get? b = some o → o.cls = .type "tuple" → h'.get? b = some o) : TupI h' v ns := by
  obtain ⟨a, o, its, n, e, ho, hc, r⟩ := p
  exact ⟨a, o, its, n, e, k a o ho hc, hc, r⟩
theorem ints_len {vs : List Value} {ns : List Int} (h : IntsAre vs ns) : vs.length = ns.length := by
  induction h with
  | nil => rfl
  | cons n t r ih => simp [ih]
theorem tups_cmp {vs : List Value} {k : Value → List Int} (hp : ∀ v ∈ vs, TupI s.heap v (k v)) : SrtO.Cmp prog w A s (tuples' true) (fun p => p.1 ∈ vs) (SrtO.lt2 fun v u => PP.lexL (k v) (k u)) := by
  intro p q hm hm'
  obtain ⟨a, o, its, n, e, ho, hc, hd, hi⟩ := hp _ hm
  obtain ⟨a', o', its', n', e', ho', hc', hd', hi'⟩ := hp _ hm'
  show wpAny (model prog w) A (keyLt' (tuples' true) p.1 q.1) (fun r s' => s' = s ∧ r = PP.lexL (k p.1) (k q.1)) (fun _ _ => False) s
  rw [e, e'] at *
  refine PySem.W.kat_lt ho hd ho' hd' (lex_run hi hi' ?_ ⟨rfl, rfl⟩)
  have l1 := ints_len hi
  have l2 := ints_len hi'
  rw [Array.length_toList] at l1 l2
  rw [l1, l2]
theorem tup_firsts {h : Heap} {k : Value → List Int} : ∀ {vs : List Value}, (∀ v ∈ vs, TupI h v (k v) ∧ k v ≠ []) → ∃ fs : List Value, PySem.W.KatTups h vs fs ∧ fs.length = vs.length ∧ ∀ f ∈ fs, ∃ x t, f = Value.int x t
  | [], _ => ⟨[], PySem.W.KatTups.nil, rfl, fun _ hm => by simp at hm⟩
  | v :: vs, hp => by
    obtain ⟨fs, h1, h2, h3⟩ := tup_firsts (vs := vs) (k := k) fun v' hm => hp v' (List.mem_cons_of_mem _ hm)
    obtain ⟨⟨a, o, its, n, e, ho, hc, hd, hi⟩, ne⟩ := hp v List.mem_cons_self
    generalize k v = ns at hi ne
    subst e
    obtain ⟨its⟩ := its
    cases hi with
    | nil => exact absurd rfl ne
    | cons x t r =>
      refine ⟨.int x t :: fs, PySem.W.KatTups.cons ho hc hd rfl h1, by rw [List.length_cons, List.length_cons, h2], fun f hm => ?_⟩
      rcases List.mem_cons.mp hm with rfl | hm
      · exact ⟨x, t, rfl⟩
      · exact h3 f hm
theorem swo_tups (k : Value → List Int) : SrtO.Swo fun v u => PP.lexL (k v) (k u) := ⟨fun _ _ h => PP.lexL_asym h, fun _ _ _ h1 h2 => PP.lexL_tr h1 h2⟩
theorem tups_sortable {a : Addr} {vs : List Value} {k : Value → List Int} (h0 : 0 < vs.length) (hp : ∀ v ∈ vs, TupI s.heap v (k v) ∧ k v ≠ []) (ha : ∀ o, s.heap.get? a = some o → o.cls ≠ .type "tuple") : SrtO.SortableO prog w A s a vs fun v u => PP.lexL (k v) (k u) := by
  intro h' keep
  have hp' : ∀ v ∈ vs, TupI h' v (k v) := fun v hm => (hp v hm).1.up fun b o e c => keep b o (fun z => by subst z; exact ha o e c) e
  obtain ⟨fs, h1, h2, h3⟩ := tup_firsts (h := h') (k := k) (vs := vs) fun v hm => ⟨hp' v hm, (hp v hm).2⟩
  have nn : (Value.type "int" != Value.type "tuple") = true := by decide +kernel
  refine ⟨tuples' true, fun Q E hq => ?_, tups_cmp hp'⟩
  refine PySem.W.kat_kind (T := .type "int") h1 (by omega) (fun f hm => ?_) (by rfl) (by rw [nn]; exact hq)
  obtain ⟨x, t, rfl⟩ := h3 f hm
  exact PySem.W.Looks.now
theorem sorted_tupsO {l : Addr} {vs : List Value} {k : Value → List Int} {Q : Value → Shared → Prop} (hl : s.heap.IsList l vs.toArray) (hz : vs.length ≤ sizeLine) (hp : 2 ≤ vs.length → ∀ v ∈ vs, TupI s.heap v (k v) ∧ k v ≠ [])
    (hq : ∀ (h' : Heap) (d : Addr) (out : List Value), SrtO.Srtd (fun v u => PP.lexL (k v) (k u)) out → SrtO.Stb (fun v u => PP.lexL (k v) (k u)) out vs → (∀ b o, s.heap.get? b = some o → h'.get? b = some o) → s.heap.objs.size ≤ d → (∃ n, h'.get? d = some (seqObj "list" out.toArray n)) → Q (.ref d) { s with heap := h' }) :
    wpAny (model prog w) A (call (.builtin "sorted") [.ref l]) Q E s := by
  refine SrtO.sorted_ord (swo_tups k) hl hz (fun h2 h₁ a ha kk => ?_) fun out hs hb => hq _ _ out hs hb (fun b o e => sortedAll_old e) (Nat.le_succ _) (sortedAll_at s.heap vs out.toArray)
  refine tups_sortable (s := { s with heap := h₁ }) (by omega) (fun v hm => ⟨(hp h2 v hm).1.up fun b o e _ => (kk b o e).2, (hp h2 v hm).2⟩) fun o e c => ?_
  have e' : some o = some (seqObj "list" vs.toArray 0) := e.symm.trans ha
  cases e'
  exact absurd (Value.type.inj c) (by decide)
end
end RP
namespace RP
open PySem L2
/-- sorted of a list whose items are tuples of whole numbers -/
def rSrtT (K : PySem.W.Frag) : List V → Hp → VK → Prop := fun vs H Q => ∃ (a : Addr) (xs : List V) (k : V → List Int), vs = [V.ref a] ∧ SqL K H a xs ∧
  (∀ x ∈ xs, ∃ t, x = V.ref t ∧ SqT K H t ((k x).map V.int)) ∧ ((∀ t ys zs, SqT K H t ys → SqT K H t zs → ys = zs) → 2 ≤ xs.length → ∀ x ∈ xs, k x ≠ []) ∧
  ((∀ t ys zs, SqT K H t ys → SqT K H t zs → ys = zs) → ∀ zs p, SrtO.Srtd (fun x y => PP.lexL (k x) (k y)) zs → zs.Perm xs → H p = none → Q (.ref p) (upd H p (.lst zs)))
theorem cr_srtT {X : Cx} : CallR X (.builtin "sorted") (rSrtT X.K) := by
  intro pins s σ H vs us Q I hv hr
  rcases hr with ⟨a, xs, k, e0, hs, hx, hne, q⟩
  subst e0
  obtain ⟨its, rv, hl, hz⟩ := I.list hs
  obtain ⟨u, e1, ru⟩ := vals1 hv
  obtain rfl : u = Value.ref a := ru
  subst e1
  have rf : ∀ x ∈ xs, ∃ t, x = V.ref t := fun x m => (hx x m).imp fun _ z => z.1
  obtain ⟨b1, b2⟩ := refs_back rv rf
  have zl : its.length ≤ sizeLine := Nat.le_trans (Nat.le_of_eq rv.length.symm) hz
  refine sorted_tupsO (k := k ∘ backV) hl.isList zl (fun h2 v hv => ?_) fun h' d out s1 s2 kp hd hn => ?_
  · obtain ⟨t, rfl⟩ := b2 v hv
    have hm : V.ref t ∈ xs := by
      rw [b1, List.mem_map]
      exact ⟨_, hv, rfl⟩
    obtain ⟨t2, e2, ht⟩ := hx _ hm
    cases e2
    obtain ⟨js, rj, ⟨o, g1, g2, n, g3⟩, _⟩ := I.tuple ht
    exact ⟨⟨t, o, js.toArray, n, rfl, g1, g2, g3, (show PyProof.Rows.IntsAre js (k (V.ref t)) from rj.ints)⟩, hne (fun t ys zs q1 q2 => I.tuple_inj q1 q2) (by rw [rv.length]; exact h2) _ hm⟩
  · have rf2 : ∀ u ∈ out, ∃ a, u = Value.ref a := fun u hu => b2 u (s2.perm.mem_iff.mp hu)
    obtain ⟨n, hn⟩ := hn
    have pm : (out.map backV).Perm xs := by
      rw [b1]
      exact s2.perm.map backV
    have new : ObjOk X.prog X.w (upd H d (.lst (out.map backV))) h' d (.lst (out.map backV)) := ⟨by rw [pm.length_eq]; exact hz, out, n, vals_back rf2, hn⟩
    exact ⟨.ref d, upd H d (.lst (out.map backV)), I.laid (t' := s.toks) kp hd new, rfl, q (fun t ys zs q1 q2 => I.tuple_inj q1 q2) _ d (SrtO.srtd_map s1) pm (I.hok.fresh hd)⟩
theorem intsOf_okD {K : Kx} {ρ : Pl} {st : Sto} {H : Hp} : ∀ {ds : List D} {vs : List V} {ns : List Int}, intsOf ds = some ns → RVs K ρ st H ds vs → vs = ns.map V.int ∧ ds = ns.map D.int
  | [], _, _, e, .nil => by cases e; exact ⟨rfl, rfl⟩
  | d :: ds, _, ns, e, .cons h r => by
    unfold intsOf at e
    split at e
    · rename_i e0; cases e0
    · rename_i i r' e0
      cases e0
      obtain ⟨qs, e1, rfl⟩ := map_some e
      obtain ⟨a, b⟩ := intsOf_okD e1 r
      cases h
      exact ⟨by rw [a]; rfl, by rw [b]; rfl⟩
    · cases e
theorem tsOf_ok {K : Kx} {ρ : Pl} {st : Sto} {H : Hp} : ∀ {ds : List D} {vs : List V} {ts : List (List Int)}, tsOf ds = some ts → RVs K ρ st H ds vs → ds = ts.map tD ∧ All2 (fun v (p : List Int) => ∃ t, v = V.ref t ∧ SqT K.K H t (p.map V.int)) vs ts
  | [], _, _, e, .nil => by cases e; exact ⟨rfl, .nil⟩
  | d :: ds, _, ts, e, .cons h r => by
    cases h with
    | tup ht rs =>
      rename_i a us dd
      have e' : (match intsOf dd, tsOf ds with
        | some a, some t => some (a :: t)
        | _, _ => none) = some ts := e
      cases h1 : intsOf dd with
      | none => rw [h1] at e'; cases e'
      | some ns =>
        cases h2 : tsOf ds with
        | none => rw [h1, h2] at e'; cases e'
        | some es =>
          rw [h1, h2] at e'
          cases e'
          obtain ⟨a, b⟩ := intsOf_okD h1 rs
          obtain ⟨c, d⟩ := tsOf_ok h2 r
          refine ⟨by rw [c, b]; rfl, .cons ⟨_, rfl, ?_⟩ d⟩
          rw [← a]; exact ht
    | _ => cases e
open Classical in
noncomputable def tupAt (K : PySem.W.Frag) (H : Hp) (v : V) : List Int :=
  if h : ∃ p : List Int, ∃ t, v = V.ref t ∧ SqT K H t (p.map V.int) then h.choose else []
theorem tupAt_at {K : PySem.W.Frag} {H : Hp} {v : V} (h : ∃ p : List Int, ∃ t, v = V.ref t ∧ SqT K H t (p.map V.int)) : ∃ t, v = V.ref t ∧ SqT K H t ((tupAt K H v).map V.int) := by
  unfold tupAt
  rw [dif_pos h]
  exact h.choose_spec
theorem mapInt_inj : ∀ {a b : List Int}, a.map V.int = b.map V.int → a = b
  | [], [], _ => rfl
  | [], _ :: _, h => by cases h
  | _ :: _, [], h => by cases h
  | x :: a, y :: b, h => by
    have e := List.cons.inj h
    rw [V.int.inj e.1, mapInt_inj e.2]
theorem all2_tups {K : PySem.W.Frag} {H : Hp} (inj : ∀ t ys zs, SqT K H t ys → SqT K H t zs → ys = zs) : ∀ {vs : List V} {ps : List (List Int)}, All2 (fun v (p : List Int) => ∃ t, v = V.ref t ∧ SqT K H t (p.map V.int)) vs ps → vs.map (tupAt K H) = ps
  | _, _, .nil => rfl
  | _, _, .cons (a := v) (b := p) ⟨t, e, h⟩ r => by
    obtain ⟨t2, e2, h2⟩ := tupAt_at ⟨p, t, e, h⟩
    have et : t2 = t := by
      rw [e] at e2
      exact (V.ref.inj e2).symm
    subst et
    rw [List.map_cons, mapInt_inj (inj _ _ _ h2 h), all2_tups inj r]
theorem rvs_intsD {K : Kx} {ρ : Pl} {st : Sto} {H : Hp} : ∀ ns : List Int, RVs K ρ st H (ns.map D.int) (ns.map V.int)
  | [] => .nil
  | n :: r => .cons (.int n) (rvs_intsD r)
theorem rvs_tups {K : Kx} {ρ : Pl} {st : Sto} {H : Hp} {k : V → List Int} : ∀ {zs : List V}, (∀ v ∈ zs, ∃ t, v = V.ref t ∧ SqT K.K H t ((k v).map V.int)) → RVs K ρ st H ((zs.map k).map tD) zs
  | [], _ => .nil
  | z :: zs, h => by
    obtain ⟨t, rfl, ht⟩ := h z List.mem_cons_self
    exact .cons (.tup ht (rvs_intsD _)) (rvs_tups fun v hv => h v (List.mem_cons_of_mem _ hv))
theorem sorted_tups_is {K : Kx} {ρ : Pl} {st : Sto} {H : Hp} (inj : ∀ t ys zs, SqT K.K H t ys → SqT K.K H t zs → ys = zs) {vs zs : List V} {ps : List (List Int)} (al : All2 (fun v (p : List Int) => ∃ t, v = V.ref t ∧ SqT K.K H t (p.map V.int)) vs ps)
    (hs : SrtO.Srtd (fun x y => PP.lexL (tupAt K.K H x) (tupAt K.K H y)) zs) (hp : zs.Perm vs) : RVs K ρ st H ((PP.sortT ps).map tD) zs := by
  have e : zs.map (tupAt K.K H) = PP.sortT ps := by
    refine PP.sorT_uniq ?_ (PP.sortT_sor ps) ((hp.map _).trans ?_)
    · unfold PP.SorT
      rw [List.pairwise_map]
      exact hs
    · rw [all2_tups inj al]
      exact (PP.sortT_perm ps).symm
  rw [← e]
  refine rvs_tups fun v hv => tupAt_at ?_
  obtain ⟨p, _, z⟩ := all2_mem al v (hp.mem_iff.mp hv)
  exact ⟨p, z⟩
theorem all2_len {α β : Type} {R : α → β → Prop} : ∀ {l : List α} {m : List β}, All2 R l m → l.length = m.length
  | _, _, .nil => rfl
  | _, _, .cons _ r => by simp [all2_len r]
end RP

namespace RP
open PySem L2
variable {Γ : Ctx}

/-! ### built-ins -/
def rC (X : Cx) (f : Value) : List V → Hp → VK → Prop := fun xs H Q => ∃ r, CallR X f r ∧ r xs H Q
theorem callC {X : Cx} {f : Value} : CallR X f (rC X f) := fun pins s σ H xs us Q I rv ⟨r, h, q⟩ => h pins s σ H xs us Q I rv q

theorem stars_no {es : List Expr} (h : es.all (fun e => !star e) = true) (pos : Pos) (env : PySem.Env) : (backTo pos (starEach es env)).any (·.1) = false := by
  induction es with
  | nil => rfl
  | cons e r ih =>
    simp only [List.all_cons, Bool.and_eq_true, Bool.not_eq_true'] at h
    rw [starEach_cons h.1]
    have q := ih h.2
    simp only [backTo] at q ⊢
    simpa using q

/-- repr -/
theorem call_reprD {X : Cx} (hg : X.A.guards = some []) (hu : X.A.units + 66 < cLine) : CallR X (.builtin "repr") (fun xs H Q => ∃ x p, xs = [x] ∧ Dq X.K H x p ∧ reprOk p = true ∧ Q (.str p.shown) H) := by
  intro pins s σ H xs us Q I r h
  obtain ⟨x, p, rfl, hd, ok, q⟩ := h
  unfold reprOk at ok
  simp only [Bool.and_eq_true, decide_eq_true_eq] at ok
  obtain ⟨⟨sh, dp⟩, sz⟩ := ok
  have hg1 : X.A.in1.guards = some [] := hg
  have fin : ∀ (z : Str), z = p.shown → ∀ (h' : Heap) (t : Tok) (tk : Nat), (∀ b o, s.heap.get? b = some o → h'.get? b = some o) → ∃ x' t', Value.str z t = .str x' t' ∧ EP X pins σ Q (.str z t) { s with heap := h', toks := tk } :=
    fun z ez h' t tk hk => ⟨_, _, rfl, by subst ez; exact ⟨.str _, H, I.kept hk, ⟨_, rfl⟩, q⟩⟩
  cases r with
  | cons r1 r2 =>
    cases r2
    cases hd with
    | non => cases r1; exact PySem.P.repr_of_none ⟨.str _, H, I.tok _, ⟨_, rfl⟩, q⟩
    | bl b => cases r1; exact PySem.P.repr_of_bool ⟨.str _, H, I.tok _, ⟨_, rfl⟩, q⟩
    | int i =>
      obtain ⟨t, rfl⟩ := r1
      exact PySem.P.repr_of_int (of_decide_eq_true sh) ⟨.str _, H, I.tok _, ⟨_, rfl⟩, q⟩
    | str z =>
      obtain ⟨t, rfl⟩ := r1
      exact PySem.P.repr_of_str ⟨.str _, H, I.tok _, ⟨_, rfl⟩, q⟩ sz
    | lst hs ha =>
      rename_i a vs ds
      cases r1
      obtain ⟨its, rv, ⟨o, n, ho, hc, _, hd⟩, _⟩ := I.list hs
      obtain ⟨as, rr⟩ := DqAll.reads I _ _ its ha rv
      have hz' : (listText (PyData.shownAll ds)).length ≤ sizeLine := by simpa only [PyData.shown] using sz
      obtain ⟨bs, b1, k1⟩ := DqAll.shows I _ _ its ha rv (by simpa [PyData.showable] using sh) (fun t ht => Nat.le_trans (listText_mem_le ht) hz')
      have dp' : PyData.depthAll ds + 1 ≤ 64 := by simp only [PyData.depth] at dp; omega
      refine call_repr_slot (by omega) ⟨o, ho, hc⟩ F.slot_list_repr.toG ?_
      cases its with
      | nil =>
        cases rr
        exact call_list_repr_empty ⟨o, ho, hc⟩ ho hd (fin _ (by simp only [PyData.shown, PyData.shownAll, listText_nil]) s.heap _ _ fun _ _ e => e)
      | cons x l =>
        have na : a ∉ bs := not_mem_of_deeper (Reads.list ho hc hd (by simpa using rr)) (by simp only [PyData.depth]; omega) b1
        exact call_list_reprK ho hc hd na (by simpa using k1.length_eq) (fun i y e => k1.item i y (by simpa using e)) hg1 (fun b _ => Clear.nil b) (by show X.A.units + 1 + _ < cLine; omega) (fun _ _ e => e) (fun h' t tk hk => fin _ (by simp only [PyData.shown]) h' t tk hk) hz'
    | tup hs ha =>
      rename_i a vs ds
      cases r1
      obtain ⟨its, rv, ⟨o, ho, hc, n, hd⟩, _⟩ := I.tuple hs
      obtain ⟨as, rr⟩ := DqAll.reads I _ _ its ha rv
      have hz' : (tupleText (PyData.shownAll ds)).length ≤ sizeLine := by simpa only [PyData.shown] using sz
      obtain ⟨bs, b1, k1⟩ := DqAll.shows I _ _ its ha rv (by simpa [PyData.showable] using sh) (fun t ht => Nat.le_trans (tupleText_mem_le ht) hz')
      have dp' : PyData.depthAll ds + 1 ≤ 64 := by simp only [PyData.depth] at dp; omega
      have na : a ∉ bs := not_mem_of_deeper (Reads.tuple ho hc hd (by simpa using rr)) (by simp only [PyData.depth]; omega) b1
      refine call_repr_slot (by omega) ⟨o, ho, hc⟩ F.slot_tuple_repr ?_
      exact call_tuple_reprK ho hc hd na (by simpa using k1) hg1 (fun b _ => Clear.nil b) (by show X.A.units + 1 + _ < cLine; omega) (fun _ _ e => e) (fun h' t tk hk => fin _ (by simp only [PyData.shown]) h' t tk hk) hz'
    | dct hs hl ha =>
      rename_i a ks vs ds
      have hd : Dq X.K H (.ref a) (.dict ((ks.map keyP).zip ds)) := .dct hs hl ha
      cases r1
      obtain ⟨_, hsm, kvs, kv, o, es, ep, ho, hc, hdd, _, hp, _⟩ := dk_of I.hok hs
      obtain ⟨e1, e2⟩ := kv_zip hl kv
      obtain ⟨k1, k2⟩ := keys_read (h := s.heap) hp
      obtain ⟨as, hr⟩ := DqAll.reads I _ _ _ ha e2
      have hld : ks.length = ds.length := hl.trans ha.length
      have m1 : ((ks.map keyP).zip ds).map (·.1) = (kvs.map (·.1)).map keyP := by rw [List.map_fst_zip (by simp [hld]), e1]
      have m2 : ((ks.map keyP).zip ds).map (·.2) = ds := List.map_snd_zip (by simp [hld])
      generalize hkv : (ks.map keyP).zip ds = kd at m1 m2 sh sz dp fin hd ⊢
      have hz' : (dictText (PyData.shownKv kd)).length ≤ sizeLine := by simpa only [PyData.shown] using sz
      obtain ⟨s1, s2⟩ := PyData.showableKv_split kd (by simpa [PyData.showable] using sh)
      have dk := PyData.depthAll_keys_le kd
      have dv := PyData.depthAll_vals_le kd
      have tk := fun t ht => let ⟨p, hp, hl⟩ := PyData.shownKv_key_le kd t ht; Nat.le_trans hl (Nat.le_trans (dictText_mem_le hp) hz')
      have tv := fun t ht => let ⟨p, hp, hl⟩ := PyData.shownKv_val_le kd t ht; Nat.le_trans hl (Nat.le_trans (dictText_mem_le hp) hz')
      rw [m1] at s1 tk dk
      rw [m2] at s2 tv dv
      have q1 := keys_show (P := X.prog) (w := X.w) (h := s.heap) (k := PyData.depthKv kd) hp s1 tk
      obtain ⟨bs, b1, q2⟩ := DqAll.shows I _ _ _ ha e2 s2 tv
      have rd : Reads s.heap (.ref a) (.dict kd) _ := Reads.dict (as := []) (bs := as) ho hc.1 hdd (by rw [m1]; exact k1) (by rw [m2, k2]; exact hr)
      have na : a ∉ bs := not_mem_of_deeper rd (by simp only [PyData.depth]; omega) (b1.mono dv)
      have dp' : PyData.depthKv kd + 1 ≤ 64 := by simp only [PyData.depth] at dp; omega
      refine call_repr_slot (by omega) ⟨o, ho, hc.1⟩ F.slot_dict_repr ?_
      have en := ReprEntriesK.of_two es.toList _ _ (q1.more_le (as' := bs) (fun b h => absurd h (by simp)) (Nat.le_refl _)) (by rw [k2]; exact q2.more_le (fun _ h => h) dv)
      have et : PyData.shownKv kd = List.zipWith (fun k v : Str => k ++ ": " ++ v) (PyData.shownAll ((kvs.map (·.1)).map keyP)) (PyData.shownAll ds) := by rw [PyData.shownKv_eq, m1, m2]
      rw [← et] at en
      exact call_dict_reprK ho hc.1 hdd hsm na en hg1 (fun b _ => Clear.nil b) (by show X.A.units + 1 + _ < cLine; omega) (fun _ _ e => e) (fun h' t tk hk => fin _ (by simp only [PyData.shown]) h' t tk hk) hz'

def Bi.nm : Bi → Str
  | .len => "len" | .sum => "sum" | .abs => "abs" | .max => "max" | .min => "min" | .int => "int" | .tuple => "tuple" | .list => "list" | .repr => "repr" | .all => "all" | .any => "any" | .sorted => "sorted" | .str => "str" | .bool => "bool" | .listM => "list"
def Bi.val : Bi → Value
  | .len => .builtin "len" | .sum => .builtin "sum" | .abs => .builtin "abs" | .max => .builtin "max" | .min => .builtin "min" | .int => .type "int" | .tuple => .type "tuple" | .list => .type "list"
  | .repr => .builtin "repr" | .all => .builtin "all" | .any => .builtin "any" | .sorted => .builtin "sorted" | .str => .type "str" | .bool => .type "bool" | .listM => .type "list"
theorem Bi.boot : ∀ b : Bi, bootBuiltins b.nm = some b.val
  | .len => by decide +kernel
  | .sum => by decide +kernel
  | .abs => by decide +kernel
  | .max => by decide +kernel
  | .min => by decide +kernel
  | .int => by decide +kernel
  | .tuple => by decide +kernel
  | .list => by decide +kernel
  | .repr => by decide +kernel
  | .all => by decide +kernel
  | .any => by decide +kernel
  | .sorted => by decide +kernel
  | .str => by decide +kernel
  | .bool => by decide +kernel
  | .listM => by decide +kernel
theorem Bi.plain : ∀ b : Bi, (b.nm ≠ "__name__") ∧ (b.nm == ("__debug__" : Str)) = false := by
  intro b; cases b <;> decide +kernel

theorem intsOf_ok {K : Kx} {ρ : Pl} {st : Sto} {H : Hp} : ∀ {ds : List D} {vs : List V} {ns : List Int}, intsOf ds = some ns → RVs K ρ st H ds vs → vs = ns.map V.int
  | [], _, _, e, .nil => by cases e; rfl
  | d :: ds, _, ns, e, .cons h r => by
    cases h with
    | int i =>
      simp only [intsOf] at e
      obtain ⟨ms, e1, rfl⟩ := map_some e
      rw [intsOf_ok e1 r]; rfl
    | _ => simp [intsOf] at e

theorem boolsOf_ok {K : Kx} {ρ : Pl} {st : Sto} {H : Hp} : ∀ {ds : List D} {vs : List V} {ns : List Bool}, boolsOf ds = some ns → RVs K ρ st H ds vs → vs = ns.map V.bl
  | [], _, _, e, .nil => by cases e; rfl
  | d :: ds, _, ns, e, .cons h r => by
    cases h with
    | bl i =>
      simp only [boolsOf] at e
      obtain ⟨ms, e1, rfl⟩ := map_some e
      rw [boolsOf_ok e1 r]; rfl
    | _ => simp [boolsOf] at e

theorem minL_spec : ∀ (ns : List Int) (i : Int), minL i ns ∈ i :: ns ∧ ∀ y ∈ i :: ns, minL i ns ≤ y
  | [], i => ⟨by simp [minL], fun y hy => by simp at hy; simp [minL, hy]⟩
  | n :: ns, i => by
    obtain ⟨h1, h2⟩ := minL_spec ns (if n < i then n else i)
    have e : minL i (n :: ns) = minL (if n < i then n else i) ns := rfl
    have h3 := h2 _ List.mem_cons_self
    rw [e]
    generalize minL (if n < i then n else i) ns = w at h1 h2 h3 ⊢
    refine ⟨?_, fun y hy => ?_⟩
    · rcases List.mem_cons.mp h1 with h | h
      · rw [h]; split <;> simp
      · simp [h]
    · rcases List.mem_cons.mp hy with rfl | hy
      · split at h3 <;> omega
      · rcases List.mem_cons.mp hy with rfl | hy
        · split at h3 <;> omega
        · exact h2 y (List.mem_cons_of_mem _ hy)
theorem maxL_spec : ∀ (ns : List Int) (i : Int), maxL i ns ∈ i :: ns ∧ ∀ y ∈ i :: ns, y ≤ maxL i ns
  | [], i => ⟨by simp [maxL], fun y hy => by simp at hy; simp [maxL, hy]⟩
  | n :: ns, i => by
    obtain ⟨h1, h2⟩ := maxL_spec ns (if n > i then n else i)
    have e : maxL i (n :: ns) = maxL (if n > i then n else i) ns := rfl
    have h3 := h2 _ List.mem_cons_self
    rw [e]
    generalize maxL (if n > i then n else i) ns = w at h1 h2 h3 ⊢
    refine ⟨?_, fun y hy => ?_⟩
    · rcases List.mem_cons.mp h1 with h | h
      · rw [h]; split <;> simp
      · simp [h]
    · rcases List.mem_cons.mp hy with rfl | hy
      · split at h3 <;> omega
      · rcases List.mem_cons.mp hy with rfl | hy
        · split at h3 <;> omega
        · exact h2 y (List.mem_cons_of_mem _ hy)
theorem max_fin {X : Cx} {n : Nat} {z : Hz} (G : Good Γ n X z) {i : Int} {ns : List Int} {st st' : Sto} {ρ : Pl} {H : Hp} {Q : VK} (q : ∀ v ρ' H', Go (kx X z) ρ st H ρ' st' H' → RV (kx X z) ρ' st' H' (.int (maxL i ns)) v → Q v H') (g0 : Go (kx X z) ρ st H ρ st' H)
    (hl : (i :: ns).length = 3 ∨ (i :: ns).length = 4) (hc : X.calm = true) : rC X (.builtin "max") ((i :: ns).map V.int) H Q := by
  refine ⟨_, call_maxN hc, i :: ns, rfl, hl, fun m hm hle => ?_⟩
  obtain ⟨s1, s2⟩ := maxL_spec ns i
  have : m = maxL i ns := Int.le_antisymm (s2 _ hm) (hle _ s1)
  rw [this]
  exact q _ _ _ g0 (.int _)
/-- built-ins that are served where an exception is handled, too -/
def Bi.cool : Bi → Bool
  | .len | .repr | .int | .tuple | .list | .str | .bool | .abs => true
  | _ => false
theorem bi_ok {X : Cx} {n : Nat} {z : Hz} (G : Good Γ n X z) {b : Bi} {ds : List D} {d : D} {st st' : Sto} {ρ : Pl} {H : Hp} {vs : List V} {Q : VK} (h : bi b ds st = .ok d st') (cold : b.cool = false → Γ.hot = false) (r : RVs (kx X z) ρ st H ds vs) (rp : Rep (kx X z) ρ H st)
    (q : ∀ v ρ' H', Go (kx X z) ρ st H ρ' st' H' → RV (kx X z) ρ' st' H' d v → Q v H') : rC X b.val vs H Q := by
  have hu : X.A.units + 66 < cLine := by have := G.room.un; omega
  have g0 := Go.refl rp
  unfold bi at h
  split at h
  · split at h
    · rename_i hz
      cases h
      cases r with | cons r1 r2 => cases r2; cases r1; exact ⟨_, call_len_str, _, rfl, hz, q _ _ _ g0 (.int _)⟩
    · cases h
  · cases h
    cases r with
    | cons r1 r2 =>
      cases r2
      cases r1 with
      | dct h1 h2 m h3 =>
        refine ⟨_, call_lenD, _, _, rfl, h1, ?_⟩
        rw [List.length_zip, ← h2, Nat.min_self]
        exact q _ _ _ g0 (.int _)
  · split at h
    · rename_i xs hs
      cases h
      cases r with
      | cons r1 r2 =>
        cases r2
        obtain ⟨p, ws, rfl, h1, h2⟩ := seqOf_ok rp hs r1
        exact ⟨_, call_len_seq, _, _, rfl, h1, by rw [← h2.length]; exact q _ _ _ g0 (.int _)⟩
    · cases h
  · split at h
    · rename_i xs hs
      split at h
      · rename_i ns hn
        cases h
        cases r with
        | cons r1 r2 =>
          cases r2
          obtain ⟨p, ws, rfl, h1, h2⟩ := lstOf_ok rp hs r1
          have e := intsOf_ok hn h2
          subst e
          exact ⟨_, cr_sum (G.calm (cold rfl)).1, _, ns, rfl, h1, q _ _ _ g0 (.int _)⟩
      · cases h
    · cases h
  · cases h
    cases r with | cons r1 r2 => cases r2; cases r1; exact ⟨_, call_abs, _, rfl, q _ _ _ g0 (.int _)⟩
  · cases h
    cases r with | cons r1 r2 => cases r2 with | cons r3 r4 => cases r4; cases r1; cases r3; exact ⟨_, call_max2 (G.calm (cold rfl)).1, _, _, rfl, q _ _ _ g0 (.int _)⟩
  · cases h
    cases r with | cons r1 r2 => cases r2 with | cons r3 r4 => cases r4; cases r1; cases r3; exact ⟨_, call_min2 (G.calm (cold rfl)).1, _, _, rfl, q _ _ _ g0 (.int _)⟩
  · cases h
    cases r with | cons r1 r2 => cases r2; cases r1; exact ⟨_, call_int1, .inl ⟨_, rfl, q _ _ _ g0 (.int _)⟩⟩
  · cases h
    cases r with | cons r1 r2 => cases r2; cases r1; exact ⟨_, call_int1, .inr ⟨_, rfl, q _ _ _ g0 (.int _)⟩⟩
  · split at h
    · rename_i xs hs
      cases h
      cases r with
      | cons r1 r2 =>
        cases r2
        cases r1 with
        | tup h1 h2 => cases hs; exact ⟨_, call_tuple_of, _, _, rfl, .inr ⟨h1, q _ _ _ g0 (.tup h1 h2)⟩⟩
        | lst h1 m h2 =>
          cases hs
          refine ⟨_, call_tuple_of, _, _, rfl, .inl ⟨SqL.of h1, fun p hp => ?_⟩⟩
          exact q _ _ _ (Go.fresh rp hp) (.tup (SqT.of upd_same) ((Go.fresh rp hp).rvs h2))
        | ref hn =>
          obtain ⟨p, ws, e, h1, h2⟩ := lstOf_ok rp (d := .ref _) hs (.ref hn)
          cases e
          refine ⟨_, call_tuple_of, _, _, rfl, .inl ⟨h1, fun p hp => ?_⟩⟩
          exact q _ _ _ (Go.fresh rp hp) (.tup (SqT.of upd_same) ((Go.fresh rp hp).rvs h2))
        | _ => cases hs
    · cases h
  · split at h
    · rename_i xs hs
      cases h
      cases r with
      | cons r1 r2 =>
        cases r2
        obtain ⟨p, ws, rfl, h1, h2⟩ := seqOf_ok rp hs r1
        exact ⟨_, call_list_of, _, _, rfl, h1, fun l hl => q _ _ _ (Go.fresh rp hl) (RV.newV rp hl h2)⟩
    · cases h
  · split at h
    · rename_i xs hs
      cases h
      cases r with
      | cons r1 r2 =>
        cases r2
        obtain ⟨p, ws, rfl, h1, h2⟩ := seqOf_ok rp hs r1
        exact ⟨_, call_list_of, _, _, rfl, h1, fun l hl => q _ _ _ (Go.newL rp hl h2) RV.last⟩
    · cases h
  · unfold reprD at h
    split at h
    · rename_i p hp
      split at h
      · rename_i c
        cases h
        cases r with
        | cons r1 r2 =>
          cases r2
          exact ⟨_, call_reprD G.guards hu, _, p, rfl, toPy_ok rp hp r1, c, q _ _ _ g0 (.str _)⟩
      · cases h
    · cases h
  · split at h
    · rename_i xs hs
      split at h
      · rename_i i ns hn
        cases h
        cases r with
        | cons r1 r2 =>
          cases r2
          obtain ⟨p, ws, rfl, h1, h2⟩ := lstOf_ok rp hs r1
          have e := intsOf_ok hn h2
          subst e
          refine ⟨_, cr_min (G.calm (cold rfl)).1, _, i :: ns, rfl, h1, by simp, fun m hm hle => ?_⟩
          obtain ⟨s1, s2⟩ := minL_spec ns i
          have : m = minL i ns := Int.le_antisymm (hle _ s1) (s2 _ hm)
          rw [this]
          exact q _ _ _ g0 (.int _)
      · cases h
    · cases h
  · split at h
    · rename_i xs hs
      split at h
      · rename_i i ns hn
        cases h
        cases r with
        | cons r1 r2 =>
          cases r2
          obtain ⟨p, ws, rfl, h1, h2⟩ := lstOf_ok rp hs r1
          have e := intsOf_ok hn h2
          subst e
          refine ⟨_, cr_max (G.calm (cold rfl)).1, _, i :: ns, rfl, h1, by simp, fun m hm hle => ?_⟩
          obtain ⟨s1, s2⟩ := maxL_spec ns i
          have : m = maxL i ns := Int.le_antisymm (s2 _ hm) (hle _ s1)
          rw [this]
          exact q _ _ _ g0 (.int _)
      · cases h
    · cases h
  · split at h
    · rename_i xs hs
      split at h
      · rename_i bs hn
        cases h
        cases r with
        | cons r1 r2 =>
          cases r2
          obtain ⟨p, ws, rfl, h1, h2⟩ := lstOf_ok rp hs r1
          have e := boolsOf_ok hn h2
          subst e
          exact ⟨_, cr_all (G.calm (cold rfl)).1, _, bs, rfl, h1, q _ _ _ g0 (.bl _)⟩
      · cases h
    · cases h
  · split at h
    · rename_i xs hs
      split at h
      · rename_i bs hn
        cases h
        cases r with
        | cons r1 r2 =>
          cases r2
          obtain ⟨p, ws, rfl, h1, h2⟩ := lstOf_ok rp hs r1
          have e := boolsOf_ok hn h2
          subst e
          exact ⟨_, cr_any (G.calm (cold rfl)).1, _, bs, rfl, h1, q _ _ _ g0 (.bl _)⟩
      · cases h
    · cases h
  · split at h
    · rename_i hz
      cases h
      cases r with | cons r1 r2 => cases r2; cases r1; exact ⟨_, call_str_int, _, rfl, hz, q _ _ _ g0 (.str _)⟩
    · cases h
  · rename_i i j k
    cases h
    cases r with | cons r1 r2 => cases r2 with | cons r3 r4 => cases r4 with | cons r5 r6 => cases r6; cases r1; cases r3; cases r5; exact max_fin G q g0 (.inl rfl) (G.calm (cold rfl)).1
  · rename_i i j k l
    cases h
    cases r with | cons r1 r2 => cases r2 with | cons r3 r4 => cases r4 with | cons r5 r6 => cases r6 with | cons r7 r8 => cases r8; cases r1; cases r3; cases r5; cases r7; exact max_fin G q g0 (.inr rfl) (G.calm (cold rfl)).1
  · split at h
    · rename_i xs hs
      split at h
      · rename_i ps hp
        cases h
        cases r with
        | cons r1 r2 =>
          cases r2
          obtain ⟨p, ws, rfl, h1, h2⟩ := lstOf_ok rp hs r1
          obtain ⟨e1, al⟩ := prsOf_ok hp h2
          refine ⟨_, cr_srt, _, ws, pairAt X.K H, rfl, h1, fun x hx => pairAt_at (let ⟨p, _, z⟩ := all2_mem al x hx; ⟨p, z⟩), fun inj zs p hs' hp' hn => ?_⟩
          exact q _ _ _ (Go.fresh rp hn) (RV.newV rp hn (sorted_is inj al hs' hp'))
      · split at h
        · rename_i ts hts
          split at h
          · rename_i hok
            cases h
            cases r with
            | cons r1 r2 =>
              cases r2
              obtain ⟨p, ws, rfl, h1, h2⟩ := lstOf_ok rp hs r1
              obtain ⟨e1, al⟩ := tsOf_ok hts h2
              refine ⟨_, cr_srtT, _, ws, tupAt X.K H, rfl, h1, fun x hx => tupAt_at (let ⟨p, _, z⟩ := all2_mem al x hx; ⟨p, z⟩), fun inj h2' x hx => ?_, fun inj zs p hs' hp' hn => ?_⟩
              · have l := all2_len al
                rcases hok with hok | hok
                · omega
                · have e := all2_tups inj al
                  have m : tupAt X.K H x ∈ ts := by rw [← e]; exact List.mem_map.mpr ⟨x, hx, rfl⟩
                  have ne := List.all_eq_true.mp hok _ m
                  intro z
                  rw [z] at ne
                  cases ne
              · exact q _ _ _ (Go.fresh rp hn) (RV.newV rp hn (sorted_tups_is inj al hs' hp'))
          · cases h
        · cases h
    · cases h
  · cases h
theorem glob_of {X : Cx} {n : Nat} {z : Hz} (G : Good Γ n X z) {x : Str} (hs : Γ.sc.names.lookup x = some .globalImplicit) : Gl X x := by
  show X.env.scope.names.lookup x = _
  rw [G.sc]; exact hs
theorem sim_bi {e : Expr} {es : List Expr} {b : Bi} {is : Es} {p pos : Pos} (hs : Γ.sc.names.lookup b.nm = some .globalImplicit) (hb : b.nm ∈ Γ.bs) (hn : (e :: es).all (fun e => !star e) = true) (cold : b.cool = false → Γ.hot = false) (h1 : SimA Γ (e :: es) is) :
    SimE Γ (.Call (.Name b.nm p) (e :: es) [] pos) (.bi b is) := by
  intro n X z G env st d st' ρ σ H Q h re rp q
  simp only [ev] at h
  obtain ⟨xs, s1, e1, h⟩ := Res.bind_eq_ok h
  have hn' := hn
  simp only [List.all_cons, Bool.and_eq_true, Bool.not_eq_true'] at hn
  have key : ∀ t : TE, PE X (.Call (.Name b.nm p) (e :: es) [] pos) (tCB (rC X b.val) (TWA X (e :: es))) := fun _ => by
    cases hv : b.val with
    | builtin id => exact pe_callB callC (glob_of G hs) (G.blt _ hb) (by rw [b.boot, hv]) pa_w b.plain.1 b.plain.2 (starEach_cons hn.1 _ _) (stars_no hn.2 _ _)
    | type T => exact pe_callTy callC (glob_of G hs) (G.blt _ hb) (by rw [b.boot, hv]) pa_w b.plain.1 b.plain.2 (starEach_cons hn.1 _ _) (stars_no hn.2 _ _)
    | _ => cases b <;> cases hv
  refine TW.of (key (tC .non)) (h1 G e1 re rp fun vs ρ1 H1 g1 r1 => ?_)
  exact bi_ok G h cold r1 g1.rep fun v ρ2 H2 g2 r2 => q v ρ2 H2 (g1.trans g2) r2

/-! ### isinstance -/
def Ty.nm : Ty → Str
  | .int => "int" | .bool => "bool" | .tuple => "tuple" | .str => "str" | .list => "list" | .dict => "dict"
def Ty.tn : Ty → String
  | .int => "int" | .bool => "bool" | .tuple => "tuple" | .str => "str" | .list => "list" | .dict => "dict"
theorem Ty.boot : ∀ b : Ty, bootBuiltins b.nm = some (.type b.tn)
  | .int => by decide +kernel
  | .bool => by decide +kernel
  | .tuple => by decide +kernel
  | .str => by decide +kernel
  | .list => by decide +kernel
  | .dict => by decide +kernel
theorem Ty.plain : ∀ b : Ty, (b.nm ≠ "__name__") ∧ (b.nm == ("__debug__" : Str)) = false := by
  intro b; cases b <;> decide +kernel
theorem ty_tuple {K : PySem.W.Frag} {H : Hp} {a : Addr} {vs : List V} (h : SqT K H a vs) : TyX K H (.ref a) (.type "tuple") := by
  rcases h with (h | ⟨o, h⟩) | ⟨o, _, _, h, c, _⟩
  · exact .base (.tup h)
  · exact .fTuple h
  · exact .kTuple h c
theorem ty_list {K : PySem.W.Frag} {H : Hp} {a : Addr} {vs : List V} (h : SqL K H a vs) : TyX K H (.ref a) (.type "list") := by
  rcases h with (h | ⟨o, h⟩) | ⟨o, _, _, h, c, _⟩
  · exact .base (.lst h)
  · exact .base (.frz h)
  · exact .kList h c
theorem kit_non (t : Ty) : kitB "NoneType" t.tn = some false := by cases t <;> decide +kernel
theorem kit_bool (t : Ty) : kitB "bool" t.tn = some (decide (t = .bool) || decide (t = .int)) := by cases t <;> decide +kernel
theorem kit_int (t : Ty) : kitB "int" t.tn = some (decide (t = .int)) := by cases t <;> decide +kernel
theorem kit_str (t : Ty) : kitB "str" t.tn = some (decide (t = .str)) := by cases t <;> decide +kernel
theorem kit_tuple (t : Ty) : kitB "tuple" t.tn = some (decide (t = .tuple)) := by cases t <;> decide +kernel
theorem kit_dict (t : Ty) : kitB "dict" t.tn = some (decide (t = .dict)) := by cases t <;> decide +kernel
theorem kit_list (t : Ty) : kitB "list" t.tn = some (decide (t = .list)) := by cases t <;> decide +kernel
theorem isi_ok {K : Kx} {ρ : Pl} {H : Hp} {st st' : Sto} {t : Ty} {x d : D} {v : V} (rp : Rep K ρ H st) (h : isiD t x st = .ok d st') (r : RV K ρ st H x v) :
    ∃ (ty : String) (b : Bool), TyX K.K H v (.type ty) ∧ kitB ty t.tn = some b ∧ d = .bl b ∧ st' = st := by
  cases r with
  | non =>
    obtain ⟨b, e, rfl, rfl⟩ := ofB_ok (show ofB (tyIs t .non st) st = _ from h)
    refine ⟨_, _, .base .non, kit_non t, ?_, rfl⟩
    cases t <;> cases e <;> rfl
  | bl k =>
    obtain ⟨b, e, rfl, rfl⟩ := ofB_ok (show ofB (tyIs t (.bl k) st) st = _ from h)
    refine ⟨_, _, .base (.bl k), kit_bool t, ?_, rfl⟩
    cases t <;> cases e <;> rfl
  | int k =>
    obtain ⟨b, e, rfl, rfl⟩ := ofB_ok (show ofB (tyIs t (.int k) st) st = _ from h)
    refine ⟨_, _, .base (.int k), kit_int t, ?_, rfl⟩
    cases t <;> cases e <;> rfl
  | str k =>
    obtain ⟨b, e, rfl, rfl⟩ := ofB_ok (show ofB (tyIs t (.str k) st) st = _ from h)
    refine ⟨_, _, .base (.str k), kit_str t, ?_, rfl⟩
    cases t <;> cases e <;> rfl
  | tup h1 h2 =>
    obtain ⟨b, e, rfl, rfl⟩ := ofB_ok (show ofB (tyIs t (.tup _) st) st = _ from h)
    refine ⟨_, _, ty_tuple h1, kit_tuple t, ?_, rfl⟩
    cases t <;> cases e <;> rfl
  | lst h1 m h2 =>
    obtain ⟨b, e, rfl, rfl⟩ := ofB_ok (show ofB (tyIs t (.lst _) st) st = _ from h)
    refine ⟨_, _, ty_list (SqL.of h1), kit_list t, ?_, rfl⟩
    cases t <;> cases e <;> rfl
  | dct h1 hl m h2 =>
    obtain ⟨b, e, rfl, rfl⟩ := ofB_ok (show ofB (tyIs t (.dct _ _) st) st = _ from h)
    refine ⟨_, _, .base (.dK h1), kit_dict t, ?_, rfl⟩
    cases t <;> cases e <;> rfl
  | ref hn =>
    rename_i m
    have h' : (if m < st.length then ofB (tyIs t (.ref m) st) st else .bad) = Res.ok d st' := h
    rw [if_pos hn] at h'
    obtain ⟨b, e, rfl, rfl⟩ := ofB_ok h'
    cases q : st'[m]? with
    | none => rw [List.getElem?_eq_none_iff] at q; omega
    | some o =>
      obtain ⟨vs, h1, h2⟩ := rp.seq q
      refine ⟨_, _, ty_list h1, kit_list t, ?_, rfl⟩
      cases t <;> simp only [tyIs, q] at e <;> cases e <;> rfl
  | exn0 _ => cases h
  | exn1 _ _ _ _ => cases h
theorem sim_isi {a : Expr} {i : E} {t : Ty} {p p2 pos : Pos} (ha : star a = false) (hs : Γ.sc.names.lookup ("isinstance" : Str) = some .globalImplicit) (hb : ("isinstance" : Str) ∈ Γ.bs)
    (hs2 : Γ.sc.names.lookup t.nm = some .globalImplicit) (hb2 : t.nm ∈ Γ.bs) (h1 : SimE Γ a i) : SimE Γ (.Call (.Name "isinstance" p) [a, .Name t.nm p2] [] pos) (.isi i t) := by
  intro n X z G env st d st' ρ σ H Q h re rp q
  simp only [ev] at h
  obtain ⟨x, s1, e1, h⟩ := Res.bind_eq_ok h
  have pt : PE X (.Name t.nm p2) (tC (.ty t.tn)) := pe_bltn (glob_of G hs2) (G.blt _ hb2) t.boot rfl t.plain.1 t.plain.2
  refine TW.of (pe_callB call_isi (glob_of G hs) (G.blt _ hb) (by decide +kernel) (pa_cons pe_w (pa_cons pt pa_nil rfl) (starEach_cons ha _ _)) (by decide) (by decide) (starEach_cons ha _ _) rfl) (h1 G e1 re rp fun v ρ1 H1 g1 r1 => ?_)
  obtain ⟨ty, b, t1, t2, rfl, rfl⟩ := isi_ok g1.rep h r1
  exact ⟨v, .ty t.tn, .type ty, .type t.tn, b, rfl, .ty _, t1, kit_ty t2, q _ ρ1 H1 g1 (.bl b)⟩

/-! ### calls of defs -/
theorem wx_none {X : Cx} : L2N.Takes X (fun _ _ _ _ => False) := fun _ _ ⟨_, _, _, _, _, _, _, _, _, _, _, _, _, _, _, _, w⟩ => w.elim
/-- a call where nothing is handled -/
theorem run_FG {X : Cx} {n : Nat} {z : Hz} (G : Good Γ n X z) (cold : Γ.hot = false) {a : Addr} {fd : FuncData} {ps : List Str} {run : List D → Sto → Res D} (F : FG X.prog X.w X.K X.mg X.base Γ.xs n a fd ps run) (hb : Binds X.K fd ps []) {W : WX} (tk : L2N.Takes X W)
    {pins : List (Addr × Obj)} {σ : St} {H : Hp} {s : Shared} {us : List Value} {vs : List V} {ds : List D} {st : Sto} {ρ : Pl} {Q : VK}
    (hl : vs.length = ps.length) (I : Inv X pins σ H s) (r : Vals vs us) (rv : RVs (kx X z) ρ st H ds vs) (rp : Rep (kx X z) ρ H st)
    (h : Post (run ds st) (fun d st' => ∀ v ρ' H', Go (kx X z) ρ st H ρ' st' H' → RV (kx X z) ρ' st' H' d v → Q v H') (fun x st' => ∀ cls dd ρ' H', Go (kx X z) ρ st H ρ' st' H' → RX X.mg Γ.xs.exs (kx X z) ρ' st' H' x cls dd → W cls dd σ H')) :
    wpAny (model X.prog X.w) X.A (PySem.call (.ref a) us) (EP X pins σ Q) X.xe s := by
  obtain ⟨hc, rfl⟩ := G.calm cold
  have hlu : (us ++ ([] : List Value)).length = ps.length := by rw [List.append_nil, ← r.length]; exact hl
  have bb := hb s us I.kIn hlu
  rw [List.append_nil] at bb
  refine wpAny_call (codeAny_mono (F X.A X.stack s H ⟨us, []⟩ us vs ds st ρ Q (fun cls dd H' => W cls dd σ H') (G.room0 cold I.ok) G.guards I.env0 bb r hl rv rp h) fun r s' hq => ?_)
  cases r with
  | error e => exact tk e s' (L2N.XE.of_call I (fun _ _ _ q => q) hq)
  | ok fl =>
    cases fl with
    | ret u => exact I.after hq
    | next => exact False.elim hq
    | brk => exact False.elim hq
    | cont => exact False.elim hq
/-- .. and where an exception is handled -/
theorem run_FGH {X : Cx} {n : Nat} {z : Hz} (G : Good Γ n X z) (warm : Γ.hot = true) {a : Addr} {fd : FuncData} {ps : List Str} {run : List D → Sto → Res D} (F : FGH X.prog X.w X.K X.mg X.base Γ.xs n a fd ps run) (hb : Binds X.K fd ps [])
    {pins : List (Addr × Obj)} {σ : St} {H : Hp} {s : Shared} {us : List Value} {vs : List V} {ds : List D} {st st' : Sto} {d : D} {ρ : Pl} {Q : VK}
    (hl : vs.length = ps.length) (I : Inv X pins σ H s) (r : Vals vs us) (rv : RVs (kx X z) ρ st H ds vs) (rp : Rep (kx X z) ρ H st) (h : run ds st = .ok d st') (q : ∀ v ρ' H', Go (kx X z) ρ st H ρ' st' H' → RV (kx X z) ρ' st' H' d v → Q v H') :
    wpAny (model X.prog X.w) X.A (PySem.call (.ref a) us) (EP X pins σ Q) X.xe s := by
  obtain ⟨p, h1, h2, h3⟩ := G.hot warm
  have hlu : (us ++ ([] : List Value)).length = ps.length := by rw [List.append_nil, ← r.length]; exact hl
  have bb := hb s us I.kIn hlu
  rw [List.append_nil] at bb
  have y := I.pin p (List.mem_append_left _ h2)
  have pk : L2H.PinOk X.stack H s p := ⟨y.1, y.2.1, fun m => (List.mem_cons.mp (I.stkSub p.1 m)).elim (fun e => y.2.2.1 e) (fun e => y.2.2.2.1 e), y.2.2.2.2⟩
  refine wpAny_call (codeAny_mono (F X.A X.stack s H ⟨us, []⟩ us vs ds st ρ Q d st' p z G.room G.guards h1 pk h3 I.env0 bb r hl rv rp h q) fun r s' hq => ?_)
  obtain ⟨u, rfl, hc⟩ := hq
  exact I.after hc
theorem callee {n : Nat} {X : Cx} {z : Hz} (G : Good Γ n X z) {x : Str} {ps : List Str} {k : Nat} (hk : Γ.fns[k]? = some (x, ps, Γ.hot)) : ∃ a, X.mg x = some (.ref a) ∧ PySem.W.keepIn X.K (.ref a) = true ∧
    ∀ {pins : List (Addr × Obj)} {σ : St} {H : Hp} {s : Shared} {us : List Value} {vs : List V} {ds : List D} {st : Sto} {ρ : Pl} {Q : VK}, vs.length = ps.length → Inv X pins σ H s → Vals vs us → RVs (kx X z) ρ st H ds vs → Rep (kx X z) ρ H st →
      (∀ {st' : Sto} {d : D}, Γ.run n k ds st = .ok d st' → (∀ v ρ' H', Go (kx X z) ρ st H ρ' st' H' → RV (kx X z) ρ' st' H' d v → Q v H') → wpAny (model X.prog X.w) X.A (PySem.call (.ref a) us) (EP X pins σ Q) X.xe s) ∧
      (∀ {st' : Sto} {y : Exn} {W : WX}, Γ.hot = false → L2N.Takes X W → Γ.run n k ds st = .exc y st' → (∀ cls dd ρ' H', Go (kx X z) ρ st H ρ' st' H' → RX X.mg Γ.xs.exs (kx X z) ρ' st' H' y cls dd → W cls dd σ H') →
        wpAny (model X.prog X.w) X.A (PySem.call (.ref a) us) (EP X pins σ Q) X.xe s) := by
  obtain ⟨a, fd, m1, m2, m3, F1, F2⟩ := G.fns k x ps _ hk
  refine ⟨a, m1, m2, fun {pins σ H s us vs ds st ρ Q} hl I r rv rp => ⟨fun {st' d} h q => ?_, fun {st' y W} cold tk h q => ?_⟩⟩
  · cases hh : Γ.hot with
    | true => exact run_FGH G hh (F2 hh) m3 hl I r rv rp h q
    | false => exact run_FG G hh (F1 hh) m3 wx_none hl I r rv rp (by rw [h]; exact q)
  · exact run_FG G cold (F1 cold) m3 tk hl I r rv rp (by rw [h]; exact q)
theorem sim_call {x : Str} {ps : List Str} {k : Nat} {e : Expr} {es : List Expr} {is : Es} {p pos : Pos} (hk : Γ.fns[k]? = some (x, ps, Γ.hot)) (hs : Γ.sc.names.lookup x = some .globalImplicit) (hd : (x == ("__debug__" : Str)) = false) (hlen : (e :: es).length = ps.length)
    (hn : (e :: es).all (fun e => !star e) = true) (h1 : SimA Γ (e :: es) is) (hsz : ∀ {m cf gl env st ds st'}, evs gl cf is env st = .ok ds st' → m = (e :: es).length → ds.length = m) : SimE Γ (.Call (.Name x p) (e :: es) [] pos) (.call k is) := by
  intro n X z G env st d st' ρ σ H Q h re rp q
  simp only [ev] at h
  obtain ⟨xs, s1, e1, h⟩ := Res.bind_eq_ok h
  simp only [List.all_cons, Bool.and_eq_true, Bool.not_eq_true'] at hn
  obtain ⟨a, m1, m2, F⟩ := callee G hk
  intro pins s I
  refine wpAny_Call_Name_kw (ld_glob I (glob_of G hs) m1 ?_ hd)
  refine PySem.W.callWith_K (h₀ := X.base) I.ok.mod.kin m2 (thn (h1 (Q := fun vs H1 => ∃ ρ1, Go (kx X z) ρ st H ρ1 s1 H1 ∧ RVs (kx X z) ρ1 s1 H1 xs vs) G e1 re rp (fun vs ρ1 H1 g1 r1 => ⟨ρ1, g1, r1⟩) pos pins s I) fun us s2 ⟨vs, H1, I1, r, ρ1, g1, r1⟩ => ⟨I1.kIn, ?_⟩) (starEach_cons hn.1 _ _) (stars_no hn.2 _ _)
  refine (F (by rw [← r1.length, hsz e1 rfl]; exact hlen) I1 r r1 g1.rep).1 h fun v ρ2 H2 g2 r2 => q v ρ2 H2 (g1.trans g2) r2
theorem simX_call {x : Str} {ps : List Str} {k : Nat} {e : Expr} {es : List Expr} {is : Es} {p pos : Pos} (hk : Γ.fns[k]? = some (x, ps, Γ.hot)) (hs : Γ.sc.names.lookup x = some .globalImplicit) (hd : (x == ("__debug__" : Str)) = false) (hlen : (e :: es).length = ps.length)
    (hn : (e :: es).all (fun e => !star e) = true) (h1 : SimA Γ (e :: es) is) (hsz : ∀ {m cf gl env st ds st'}, evs gl cf is env st = .ok ds st' → m = (e :: es).length → ds.length = m) : SimX Γ (.Call (.Name x p) (e :: es) [] pos) (.call k is) := by
  intro cold n X z G W tk env st y st' ρ σ H Q h re rp q
  simp only [ev] at h
  obtain ⟨xs, s1, e1, h⟩ := Res.bind_eq_exc h
  simp only [List.all_cons, Bool.and_eq_true, Bool.not_eq_true'] at hn
  obtain ⟨a, m1, m2, F⟩ := callee G hk
  intro pins s I
  refine wpAny_Call_Name_kw (ld_glob I (glob_of G hs) m1 ?_ hd)
  refine PySem.W.callWith_K (h₀ := X.base) I.ok.mod.kin m2 (thn (h1 (Q := fun vs H1 => ∃ ρ1, Go (kx X z) ρ st H ρ1 s1 H1 ∧ RVs (kx X z) ρ1 s1 H1 xs vs) G e1 re rp (fun vs ρ1 H1 g1 r1 => ⟨ρ1, g1, r1⟩) pos pins s I) fun us s2 ⟨vs, H1, I1, r, ρ1, g1, r1⟩ => ⟨I1.kIn, ?_⟩) (starEach_cons hn.1 _ _) (stars_no hn.2 _ _)
  exact (F (by rw [← r1.length, hsz e1 rfl]; exact hlen) I1 r r1 g1.rep).2 cold tk h fun cls dd ρ2 H2 g2 r2 => q cls dd ρ2 H2 (g1.trans g2) r2
theorem sim_call0 {x : Str} {ps : List Str} {k : Nat} {p pos : Pos} (hk : Γ.fns[k]? = some (x, ps, Γ.hot)) (hs : Γ.sc.names.lookup x = some .globalImplicit) (hd : (x == ("__debug__" : Str)) = false) (hlen : ps.length = 0) : SimE Γ (.Call (.Name x p) [] [] pos) (.call k .nil) := by
  intro n X z G env st d st' ρ σ H Q h re rp q
  simp only [ev, evs, Res.bind_ok] at h
  obtain ⟨a, m1, m2, F⟩ := callee G hk
  intro pins s I
  refine wpAny_Call_Name_kw (ld_glob I (glob_of G hs) m1 ?_ hd)
  exact PySem.W.callWith_K0 I.kIn m2 ((F (by rw [hlen]; rfl) I .nil .nil rp).1 h q)
theorem simX_call0 {x : Str} {ps : List Str} {k : Nat} {p pos : Pos} (hk : Γ.fns[k]? = some (x, ps, Γ.hot)) (hs : Γ.sc.names.lookup x = some .globalImplicit) (hd : (x == ("__debug__" : Str)) = false) (hlen : ps.length = 0) : SimX Γ (.Call (.Name x p) [] [] pos) (.call k .nil) := by
  intro cold n X z G W tk env st y st' ρ σ H Q h re rp q
  simp only [ev, evs, Res.bind_ok] at h
  obtain ⟨a, m1, m2, F⟩ := callee G hk
  intro pins s I
  refine wpAny_Call_Name_kw (ld_glob I (glob_of G hs) m1 ?_ hd)
  exact PySem.W.callWith_K0 I.kIn m2 ((F (by rw [hlen]; rfl) I .nil .nil rp).2 cold tk h q)
/-- a part that never raises -/
theorem simX_no {e : Expr} {i : E} (h : ∀ {gl cf env st y st'}, ev gl cf i env st ≠ .exc y st') : SimX Γ e i := by
  intro cold n X z G W tk env st y st' ρ σ H Q h1
  exact absurd h1 h

/-! ### methods of lists -/
def attrB : Expr → Bool
  | .Call (.Name _ _) [] [] _ => false
  | _ => true
theorem base_of {o : Expr} (h : attrB o = true) (attr : Str) (env : PySem.Env) (whole : Sem Value) : attributeBase o attr env whole = whole := by
  unfold attributeBase
  cases o with
  | Call f as ks pos =>
    cases f with
    | Name x p =>
      cases as with
      | nil =>
        cases ks with
        | nil => cases h
        | cons _ _ => rfl
      | cons _ _ => rfl
    | _ => rfl
  | _ => rfl
theorem setL_ok {n : Nat} {f : List D → Option (List D)} {st st' : Sto} (h : setL n f st = some st') : ∃ xs ys, st[n]? = some (.lst xs) ∧ f xs = some ys ∧ ys.length ≤ sizeLine ∧ st' = st.set n (.lst ys) := by
  unfold setL at h
  split at h
  · rename_i xs e
    split at h
    · rename_i ys e2
      split at h
      · rename_i c
        cases h
        exact ⟨xs, ys, e, e2, c, rfl⟩
      · cases h
    · cases h
  · cases h
theorem few1 {e : Expr} (h : star e = false) (cpos : Pos) (env : PySem.Env) : ((backTo cpos (starEach [e] env)).all (fun x => !x.1) && (backToKw cpos (keywordEach [] env)).all (fun x => x.1.isSome)
      && decide (([e] : List Expr).length + ([] : List Keyword).length + (if ([] : List Keyword).isEmpty then 0 else 1) < 30)) = true := by
  rw [starEach_cons h]; rfl
theorem mt_append_inv {x : D} {ys : List D} {st st' : Sto} {d : D} (h : mt .append x ys st = .ok d st') : ∃ n y, x = .ref n ∧ ys = [y] ∧ setL n (fun xs => some (xs ++ [y])) st = some st' ∧ d = .non := by
  cases x with
  | ref n =>
    cases ys with
    | nil => simp [mt] at h
    | cons y r =>
      cases r with
      | nil =>
        simp only [mt] at h
        split at h
        · rename_i s2 e
          cases h
          exact ⟨n, y, rfl, rfl, e, rfl⟩
        · cases h
      | cons _ _ => simp [mt] at h
  | _ => simp [mt] at h
theorem mt_extend_inv {x : D} {ys : List D} {st st' : Sto} {d : D} (h : mt .extend x ys st = .ok d st') : ∃ n y zs, x = .ref n ∧ ys = [y] ∧ extOf y st = some zs ∧ setL n (fun xs => some (xs ++ zs)) st = some st' ∧ d = .non := by
  cases x with
  | ref n =>
    cases ys with
    | nil => simp [mt] at h
    | cons y r =>
      cases r with
      | nil =>
        simp only [mt] at h
        split at h
        · rename_i zs e0
          split at h
          · rename_i s2 e
            cases h
            exact ⟨n, y, zs, rfl, rfl, e0, e, rfl⟩
          · cases h
        · cases h
      | cons _ _ => simp [mt] at h
  | _ => simp [mt] at h
theorem Rep.some_of {K : Kx} {ρ : Pl} {H : Hp} {st : Sto} (rp : Rep K ρ H st) {m : Nat} (h : m < st.length) : ∃ vs, SqL K.K H (ρ m) vs := by
  cases qo : st[m]? with
  | none => rw [List.getElem?_eq_none_iff] at qo; omega
  | some oo =>
    obtain ⟨vv, sq, _⟩ := rp.seq qo
    exact ⟨vv, sq⟩
theorem sim_append {o e : Expr} {i j : E} {apos cpos : Pos} (ho : attrB o = true) (hl : (apos.endLine == cpos.line) = true) (he : star e = false) (h1 : SimE Γ o i) (h2 : SimE Γ e j) :
    SimE Γ (.Call (.Attribute o "append" apos) [e] [] cpos) (.mt .append i (.cons j .nil)) := by
  intro n X z G env st d st' ρ σ H Q h re rp q
  simp only [ev, evs] at h
  obtain ⟨x, s1, e1, h⟩ := Res.bind_eq_ok h
  obtain ⟨ys, s2, e2, h⟩ := Res.bind_eq_ok h
  obtain ⟨y, s3, e3, e2⟩ := Res.bind_eq_ok e2
  cases e2
  obtain ⟨m, y', rfl, ey, e5, rfl⟩ := mt_append_inv h
  cases ey
  obtain ⟨xs, zs, f1, f2, f3, rfl⟩ := setL_ok e5
  cases f2
  refine TW.of (pe_bm PySem.F.plainAttrs_list PySem.F.slot_list_append PySem.F.type_list_append mt_append pe_w (pa_cons pe_w pa_nil (starEach_cons he _ _)) (base_of ho _ _ _) (few1 he _ _) hl (starEach_cons he _ _) rfl) (h1 G e1 re rp fun v ρ1 H1 g1 r1 => ?_)
  cases r1 with
  | ref hn =>
    refine ⟨.inl ⟨rfl, g1.rep.some_of hn⟩, h2 G e3 (re.move g1) g1.rep fun u ρ2 H2 g2 r2 => ?_⟩
    obtain ⟨vs, k1, k2⟩ := g2.rep.lst m xs f1
    have gs := Go.setL g2.rep f1 k1 (k2.app (.cons r2 .nil))
    rw [g2.rho m hn] at k1 gs
    refine ⟨_, vs, u, rfl, rfl, k1, by rw [← k2.length]; simp at f3; omega, ?_⟩
    exact q _ ρ2 _ ((g1.trans g2).trans gs) .non
/-- a list, or a tuple, put behind a list -/
def rExtT (K : PySem.W.Frag) : V → List V → Hp → VK → Prop := fun x vs H Q => ∃ l b xs zs, x = .ref l ∧ vs = [.ref b] ∧ H l = some (.lst xs) ∧ SqT K H b zs ∧ xs.length + zs.length ≤ sizeLine ∧ Q .non (upd H l (.lst (xs ++ zs)))
theorem mt_extT {X : Cx} : MtM X "list.extend" (rExtT X.K) := by
  intro pins s σ H x vs v us Q I rx rv hh
  obtain ⟨l, b, xs, zs, rfl, rfl, atl, sq, fits, q⟩ := hh
  cases rx
  obtain ⟨u, rfl, ru⟩ := rv.one
  cases ru
  obtain ⟨z, its, n, r, hl, e⟩ := I.lstM atl
  obtain ⟨ts, r2, ⟨o, ho, hc, m, hd⟩, hz⟩ := I.tuple sq
  obtain ⟨oc, od, odt, osl⟩ := o
  simp only at hc hd
  subst hc hd
  have l1 := r.length
  have l2 := r2.length
  have room : its.toArray.size + ts.toArray.size ≤ sizeLine := by rw [List.size_toArray, List.size_toArray]; omega
  have short : ¬ (!its.toArray.isEmpty && Builtin.List.listTooLong (its.toArray.size + ts.toArray.size)) = true := by
    rw [notLongL room, Bool.and_false]
    decide
  refine call_meets PySem.F.slot_list_extend ⟨_, e, rfl⟩ PySem.F.entry_list_extend (PySem.F.args_list_extend_2 _ _) (PySem.RPX.ext_tuple l its.toArray n b ts.toArray m od osl short (by rw [List.size_toArray]; omega) (by omega)) ⟨e, ho, ?_⟩
  refine ⟨.non, _, I.lset (its' := its ++ ts) atl e (by simp) (r.append r2) ?_, rfl, q⟩
  rw [List.length_append]; omega
theorem sim_extend {o e : Expr} {i j : E} {apos cpos : Pos} (ho : attrB o = true) (hl : (apos.endLine == cpos.line) = true) (he : star e = false) (h1 : SimE Γ o i) (h2 : SimE Γ e j) :
    SimE Γ (.Call (.Attribute o "extend" apos) [e] [] cpos) (.mt .extend i (.cons j .nil)) := by
  intro n X z G env st d st' ρ σ H Q h re rp q
  simp only [ev, evs] at h
  obtain ⟨x, s1, e1, h⟩ := Res.bind_eq_ok h
  obtain ⟨ys, s2, e2, h⟩ := Res.bind_eq_ok h
  obtain ⟨y, s3, e3, e2⟩ := Res.bind_eq_ok e2
  cases e2
  obtain ⟨m, yy, zs, rfl, ey, e4, e5, rfl⟩ := mt_extend_inv h
  cases ey
  obtain ⟨xs, ws, f1, f2, f3, rfl⟩ := setL_ok e5
  cases f2
  by_cases tu : ∃ ds, y = .tup ds
  · obtain ⟨ds, rfl⟩ := tu
    have ez : ds = zs := Option.some.inj e4
    subst ez
    refine TW.of (pe_bm PySem.F.plainAttrs_list PySem.F.slot_list_extend PySem.F.type_list_extend mt_extT pe_w (pa_cons pe_w pa_nil (starEach_cons he _ _)) (base_of ho _ _ _) (few1 he _ _) hl (starEach_cons he _ _) rfl) (h1 G e1 re rp fun v ρ1 H1 g1 r1 => ?_)
    cases r1 with
    | ref hn =>
      refine ⟨.inl ⟨rfl, g1.rep.some_of hn⟩, h2 G e3 (re.move g1) g1.rep fun u ρ2 H2 g2 r2 => ?_⟩
      obtain ⟨vs, k1, k2⟩ := g2.rep.lst m xs f1
      cases r2 with
      | tup j1 j2 =>
        have gs := Go.setL g2.rep f1 k1 (k2.app j2)
        rw [g2.rho m hn] at k1 gs
        refine ⟨_, _, vs, _, rfl, rfl, k1, j1, by rw [← k2.length, ← j2.length]; simpa using f3, ?_⟩
        exact q _ ρ2 _ ((g1.trans g2).trans gs) .non
  have e4 : ownOf y s2 = some zs := by
    cases y with
    | tup ds => exact absurd ⟨ds, rfl⟩ tu
    | _ => exact e4
  refine TW.of (pe_bm PySem.F.plainAttrs_list PySem.F.slot_list_extend PySem.F.type_list_extend mt_extend pe_w (pa_cons pe_w pa_nil (starEach_cons he _ _)) (base_of ho _ _ _) (few1 he _ _) hl (starEach_cons he _ _) rfl) (h1 G e1 re rp fun v ρ1 H1 g1 r1 => ?_)
  cases r1 with
  | ref hn =>
    refine ⟨.inl ⟨rfl, g1.rep.some_of hn⟩, h2 G e3 (re.move g1) g1.rep fun u ρ2 H2 g2 r2 => ?_⟩
    obtain ⟨vs, k1, k2⟩ := g2.rep.lst m xs f1
    obtain ⟨pk, us, ek, j1, j2⟩ := ownOf_ok g2.rep e4 r2
    have gs := Go.setL g2.rep f1 k1 (k2.app j2)
    rw [g2.rho m hn] at k1 gs
    subst ek
    refine ⟨_, _, vs, us, rfl, rfl, k1, j1, by rw [← k2.length, ← j2.length]; simpa using f3, ?_⟩
    exact q _ ρ2 _ ((g1.trans g2).trans gs) .non
end RP

namespace RP
open PySem L2
variable {Γ : Ctx}

/-! ### slices -/
theorem RVs.dropN {K : Kx} {ρ : Pl} {st : Sto} {H : Hp} : ∀ {ds : List D} {vs : List V} (n : Nat), RVs K ρ st H ds vs → RVs K ρ st H (ds.drop n) (vs.drop n)
  | _, _, 0, r => r
  | _, _, _ + 1, .nil => .nil
  | _, _, n + 1, .cons _ r => RVs.dropN n r
theorem RVs.takeN {K : Kx} {ρ : Pl} {st : Sto} {H : Hp} : ∀ {ds : List D} {vs : List V} (n : Nat), RVs K ρ st H ds vs → RVs K ρ st H (ds.take n) (vs.take n)
  | _, _, 0, _ => .nil
  | _, _, _ + 1, .nil => .nil
  | _, _, n + 1, .cons h r => .cons h (RVs.takeN n r)
theorem RVs.rev {K : Kx} {ρ : Pl} {st : Sto} {H : Hp} : ∀ {ds : List D} {vs : List V}, RVs K ρ st H ds vs → RVs K ρ st H ds.reverse vs.reverse
  | _, _, .nil => .nil
  | _, _, .cons h r => by rw [List.reverse_cons, List.reverse_cons]; exact (RVs.rev r).app (.cons h .nil)
theorem RVs.cut {K : Kx} {ρ : Pl} {st : Sto} {H : Hp} {ds : List D} {vs : List V} (r : RVs K ρ st H ds vs) (lo hi : Option Int) : RVs K ρ st H (cutD ds lo hi) (cutV vs lo hi) := by
  unfold cutD cutV
  rw [r.length]
  exact (r.dropN _).takeN _
theorem cut_whole {xs : List D} {lo hi : Option Int} (h1 : HT.sIx xs.length 0 lo = 0) (h2 : HT.sIx xs.length xs.length hi = xs.length) : cutD xs lo hi = xs := by
  unfold cutD
  rw [h1, h2]
  simp
/-- a slice's part -/
def SimO (Γ : Ctx) (o : Option Expr) (i : E) : Prop := (o = none ∧ i = .k .non) ∨ ∃ e, o = some e ∧ SimE Γ e i
def TWO (X : Cx) (o : Option Expr) : TO := fun σ H Q => ∀ pins s, Inv X pins σ H s → wpAny (model X.prog X.w) X.A (evalPart o X.env) (fun u s' => ∃ o H', Inv X pins σ H' s' ∧ IsPart u o ∧ Q o H') X.xe s
theorem po_w {X : Cx} {o : Option Expr} : PO X o (TWO X o) := ⟨fun pins s σ H Q I h => h pins s I⟩
theorem sim_part {o : Option Expr} {i : E} (h1 : SimO Γ o i) {n : Nat} {X : Cx} {z : Hz} (G : Good Γ n X z) {env : Env} {st : Sto} {d : D} {st' : Sto} {ρ : Pl} {σ : St} {H : Hp} {Q : Option Int → Hp → Prop} {p : Option Int}
    (h : ev Γ.gl (Γ.run n) i env st = .ok d st') (hp : partD d = some p) (hn : o ≠ none → d ≠ .non) (re : REnv (kx X z) ρ st H env σ) (rp : Rep (kx X z) ρ H st) (q : ∀ ρ' H', Go (kx X z) ρ st H ρ' st' H' → Q p H') : TWO X o σ H Q := by
  rcases h1 with ⟨rfl, rfl⟩ | ⟨e, rfl, h1⟩
  · have h' : Res.ok D.non st = Res.ok d st' := by simpa [ev] using h
    cases h'
    cases hp
    exact fun pins s I => po_none.run pins s σ H _ I (q ρ H (Go.refl rp))
  · refine fun pins s I => (po_some pe_w).run pins s σ H _ I (h1 G h re rp fun v ρ1 H1 g1 r1 => ?_)
    cases r1 with
    | int i => cases hp; exact ⟨i, rfl, q ρ1 H1 g1⟩
    | non => exact absurd rfl (hn (by simp))
    | _ => cases hp
theorem sim_slice {a : Expr} {lo hi : Option Expr} {i j k : E} {p2 pos : Pos} (h1 : SimE Γ a i) (h2 : SimO Γ lo j) (h3 : SimO Γ hi k) (hl : ∀ {gl cf env st d st'}, ev gl cf j env st = .ok d st' → lo ≠ none → d ≠ .non)
    (hh : ∀ {gl cf env st d st'}, ev gl cf k env st = .ok d st' → hi ≠ none → d ≠ .non) : SimE Γ (.Subscript a (.Slice lo hi none p2) pos) (.sl i j k) := by
  intro n X z G env st d st' ρ σ H Q h re rp q
  simp only [ev] at h
  obtain ⟨x, s1, e1, h⟩ := Res.bind_eq_ok h
  obtain ⟨l, s2, e2, h⟩ := Res.bind_eq_ok h
  obtain ⟨u, s3, e3, h⟩ := Res.bind_eq_ok h
  unfold slD at h
  split at h
  · rename_i plo phi q1 q2
    refine TW.of (pe_slice (sl_tupA.or sl_list) pe_w po_w po_w) (h1 G e1 re rp fun v ρ1 H1 g1 r1 => sim_part h2 G e2 q1 (hl e2) (re.move g1) g1.rep fun ρ2 H2 g2 => sim_part h3 G e3 q2 (hh e3) (re.move (g1.trans g2)) g2.rep fun ρ3 H3 g3 => ?_)
    have gg := (g1.trans g2).trans g3
    have r3 := g3.rv (g2.rv r1)
    split at h
    · cases h
      cases r3 with
      | tup t1 t2 =>
        rename_i xs aa vs
        refine .inl ⟨_, _, rfl, t1, fun z => ?_, fun z p hp => ?_⟩
        · refine q _ ρ3 H3 gg ?_
          rw [← t2.length] at z
          rw [cut_whole z.1 z.2]
          exact .tup t1 t2
        · have gf := Go.fresh (o := .tup (cutV vs plo phi)) g3.rep hp
          exact q _ ρ3 _ (gg.trans gf) (.tup (SqT.of upd_same) (gf.rvs (t2.cut plo phi)))
    · split at h
      · rename_i ys ho
        cases h
        obtain ⟨pp, vs, rfl, k1, k2⟩ := lstOf_ok g3.rep ho r3
        exact .inr ⟨_, vs, rfl, k1, fun p hp => q _ _ _ (gg.trans (Go.fresh g3.rep hp)) (RV.newV g3.rep hp (k2.cut plo phi))⟩
      · cases h
  · cases h
end RP
namespace HT
open PySem PyProof.Rows
section
variable {prog : Program} {w : World} {A : Around} {E : Value → Shared → Prop} {s : Shared}
theorem sliceApplied_rev {sl : Addr} {u : Tok} {n : Nat} {Q : Int × Int × Nat → Shared → Prop} (hs : s.heap.IsSliceOf sl .none .none (.int (-1) u))
    (h : Q ((n : Int) - 1, -1, n) s) : wpAny (model prog w) A (Builtin.Slice.sliceApplied (.ref sl) (pure (n : Int))) Q E s := by
  obtain ⟨os, hos, hcs, hds⟩ := id hs
  unfold Builtin.Slice.sliceApplied Builtin.Slice.sliceFields
  refine wpAny_bind (wpAny_bind (wpAny_field hos hds (x := .none) rfl (wpAny_bind (wpAny_field hos hds (x := .none) rfl (wpAny_bind (wpAny_field hos hds (x := .int (-1) u) rfl (wpAny_pure ?_)))))))
  refine wpAny_bind (slicePart_int ?_)
  show wpAny _ _ (if ((-1 : Int) == 0) = true then _ else _) _ _ s
  rw [if_neg (by decide)]
  refine wpAny_bind (slicePart_none (wpAny_bind (slicePart_none (wpAny_bind (wpAny_pure ?_)))))
  show wpAny _ _ (match Builtin.Slice.sliceAdjust none none (-1) (n : Int) with | (lo, hi) => pure (lo, (-1 : Int), Builtin.Slice.slicePlaces lo hi (-1))) _ _ s
  have e : Builtin.Slice.sliceAdjust none none (-1) (n : Int) = ((n : Int) - 1, -1) := by
    unfold Builtin.Slice.sliceAdjust
    simp
  rw [e]
  show wpAny _ _ (pure ((n : Int) - 1, (-1 : Int), Builtin.Slice.slicePlaces ((n : Int) - 1) (-1) (-1))) _ _ s
  have e2 : Builtin.Slice.slicePlaces ((n : Int) - 1) (-1) (-1) = n := by
    unfold Builtin.Slice.slicePlaces
    simp
    omega
  rw [e2]
  exact wpAny_pure h
theorem pick_rev (xs : Array Value) : ((List.range xs.size).filterMap fun (m : Nat) => xs[((xs.size : Int) - 1 + (m : Int) * (-1)).toNat]?).toArray = xs.toList.reverse.toArray := by
  have e : (List.range xs.size).filterMap (fun (m : Nat) => xs[((xs.size : Int) - 1 + (m : Int) * (-1)).toNat]?) = ((List.range xs.size).map (fun k => xs.size - 1 - k)).filterMap (xs[·]?) := by
    rw [List.filterMap_map]
    congr 1
    funext m
    have : ((xs.size : Int) - 1 + (m : Int) * (-1)).toNat = xs.size - 1 - m := by omega
    show xs[((xs.size : Int) - 1 + (m : Int) * (-1)).toNat]? = xs[xs.size - 1 - m]?
    rw [this]
  rw [e, PySem.W.krv_range, List.filterMap_reverse, PySem.W.krv_all]
theorem getItem_tuple_rev {t sl : Addr} {items : Array Value} {u : Tok} {Q : Value → Shared → Prop} (ht : IsTup s.heap t items) (hs : s.heap.IsSliceOf sl .none .none (.int (-1) u))
    (h : Q (.ref s.heap.objs.size) { s with heap := s.heap.push { cls := .type "tuple", data := .seq items.toList.reverse.toArray } })
    (hsz : items.size ≤ sizeLine) : wpAny (model prog w) A (getItem (.ref t) (.ref sl)) Q E s := by
  have htake : sizeOk (.seq items.toList.reverse.toArray) := by
    show items.toList.reverse.toArray.size ≤ sizeLine
    rw [List.size_toArray, List.length_reverse, Array.length_toList]
    omega
  obtain ⟨os, hos, hcs, hds⟩ := id hs
  have hTs : s.TypeIs (.ref sl) "slice" := ⟨os, hos, hcs⟩
  unfold getItem
  try with_reducible refine wpAny_holding ?_
  first | refine wpAny_bind (wpAny_pure ?_) | skip
  refine wpAny_bind (wpAny_sequenceKey ht.typeIs (by decide) ?_)
  refine wpAny_bind (wpAny_callSpecial?_slot (name := Str.ofString "__getitem__") ht.typeIs PyProof.Rows.slot_tuple_getitem
    (wpAny_call_entry PyProof.Rows.slot_tuple_getitem ht.typeIs entry_tuple_getitem ?_ (args_tuple_getitem _ _)))
  show wpAny _ _ (Builtin.Tuple.tupleItemsOf (.ref t) >>= _) _ _ s
  refine wpAny_bind (tupleItemsOf_ ht ?_)
  refine wpAny_bind (wpAny_typeOf hTs ?_)
  rw [if_pos (by decide)]
  refine wpAny_bind (sliceApplied_rev hs ?_)
  have hno : ¬ ((((items.size : Int) - 1) == 0 && (-1 : Int) == 1 && items.size == items.size) = true) := by
    intro q
    rw [Bool.and_eq_true, Bool.and_eq_true] at q
    exact absurd q.1.2 (by decide)
  show wpAny _ _ (if (((items.size : Int) - 1) == 0 && (-1 : Int) == 1 && items.size == items.size) = true then _ else _) _ _ s
  rw [if_neg hno, pick_rev]
  first
    | exact wpAny_bind (m := Builtin.Tuple.tupleExact _) (wpAny_newObj_type (wpAny_pure ⟨_, rfl, wpAny_pure h⟩) htake)
    | exact wpAny_bind (m := Builtin.Tuple.tupleExact _) (wpAny_newObj_type (wpAny_bind (wpAny_pure (wpAny_pure ⟨_, rfl, wpAny_pure h⟩))) htake)
    | exact wpAny_bind (wpAny_bind (m := Builtin.Tuple.tupleExact _) (wpAny_newObj_type (wpAny_pure (wpAny_pure ⟨_, rfl, wpAny_pure h⟩)) htake))
    | exact wpAny_bind (wpAny_bind (m := Builtin.Tuple.tupleExact _) (wpAny_newObj_type (wpAny_pure ⟨_, rfl, wpAny_pure h⟩) htake))
end
end HT
namespace RP
open PySem L2 PyProof.Rows
variable {Γ : Ctx}
def tRevT (K : PySem.W.Frag) (te : TE) : TE := fun σ H Q => te σ H fun x H1 => ∃ a xs, x = .ref a ∧ SqT K H1 a xs ∧ ∀ p, H1 p = none → Q (.ref p) (upd H1 p (.tup xs.reverse))
theorem pe_revT {X : Cx} {e : Expr} {te : TE} {k : Nat} {p1 p2 p3 pos : Pos} (he : PE X e te) : PE X (.Subscript e (.Slice none none (some (.UnaryOp .USub (.Constant (.int 1) k p1) p2)) p3) pos) (tRevT X.K te) := by
  refine ⟨fun pins s σ H Q I h => ?_⟩
  refine Subscript_ (thn (he.run pins s σ H _ I h) fun v s1 ⟨x, H1, I1, r1, q1⟩ => ?_)
  obtain ⟨a, xs, ex, hx, q⟩ := q1
  subst ex
  cases r1
  have hst : PO X (some (.UnaryOp .USub (.Constant (.int 1) k p1) p2)) (tPart (tUn (rU fun i => .int (-i)) (tC (.int 1)))) := po_some (pe_un un_neg pe_int)
  refine wpAny_Slice (thn (po_none.run pins s1 σ H1 (fun o H2 => o = none ∧ H2 = H1) I1 ⟨rfl, rfl⟩) fun vl s2 ⟨l, H2, I2, pl, el, e2⟩ => ?_)
  subst el e2
  refine thn (po_none.run pins s2 σ H2 (fun o H3 => o = none ∧ H3 = H2) I2 ⟨rfl, rfl⟩) fun vu s3 ⟨u, H3, I3, pu, eu, e3⟩ => ?_
  subst eu e3
  refine thn (hst.run pins s3 σ H3 (fun o H4 => o = some (-1) ∧ H4 = H3) I3 ⟨1, rfl, -1, rfl, rfl, rfl⟩) fun vs s4 ⟨o, H4, I4, ps, eo, e4⟩ => ?_
  subst eo e4
  have I5 : Inv X pins σ H4 { s4 with heap := s4.heap.push { cls := .type "slice", data := .fields #[vl, vu, vs] } } := I4.kept (t' := s4.toks) fun b ob q => Heap.get?_push_of_some _ q
  obtain ⟨its, r, ht, hz⟩ := I5.tuple hx
  have hlen := r.length
  cases pl
  cases pu
  obtain ⟨tt, rfl⟩ : ∃ tt, vs = .int (-1) tt := by cases ps with | int _ tt => exact ⟨tt, rfl⟩
  show wpAny (model X.prog X.w) X.A (subscriptTail e (.Slice none none (some (.UnaryOp .USub (.Constant (.int 1) k p1) p2)) p3) (.ref a) (.ref s4.heap.objs.size)) (EP X pins σ Q) X.xe { s4 with heap := s4.heap.push { cls := .type "slice", data := .fields #[.none, .none, .int (-1) tt] } }
  refine tail_any (ops := [.ref a, .ref s4.heap.objs.size]) ht.typeIs PyProof.Rows.slot_tuple_getitem.lookup ?_ (by with_unfolding_all rfl)
  refine HT.getItem_tuple_rev ht (Heap.IsSliceOf.new _ _ _ _) ?_ (by rw [List.size_toArray]; omega)
  refine ⟨.ref _, _, I5.laid (t' := s4.toks) (o := .tup xs.reverse) (fun b ob q => Heap.get?_push_of_some _ q) (Nat.le_refl _) ?_, rfl, q _ (I5.hok.fresh (Nat.le_refl _))⟩
  exact ⟨by rw [List.length_reverse]; exact hz, _, r.reverse, IsTup.new _ _⟩
theorem sim_rev {a : Expr} {i : E} {k : Nat} {p1 p2 p3 pos : Pos} (h1 : SimE Γ a i) : SimE Γ (.Subscript a (.Slice none none (some (.UnaryOp .USub (.Constant (.int 1) k p1) p2)) p3) pos) (.rev i) := by
  intro n X z G env st d st' ρ σ H Q h re rp q
  simp only [ev] at h
  obtain ⟨x, s1, e1, h⟩ := Res.bind_eq_ok h
  unfold revD at h
  split at h
  · cases h
    refine TW.of (pe_revT pe_w) (h1 G e1 re rp fun v ρ1 H1 g1 r1 => ?_)
    cases r1 with
    | tup t1 t2 =>
      rename_i xs aa vs
      refine ⟨_, vs, rfl, t1, fun p hp => ?_⟩
      have gf := Go.fresh (o := .tup vs.reverse) g1.rep hp
      exact q _ ρ1 _ (g1.trans gf) (.tup (SqT.of upd_same) (gf.rvs t2.rev))
  · split at h
    · rename_i xs ho
      cases h
      refine TW.of (pe_revL pe_w) (h1 G e1 re rp fun v ρ1 H1 g1 r1 => ?_)
      obtain ⟨pp, vs, rfl, k1, k2⟩ := lstOf_ok g1.rep ho r1
      exact ⟨_, vs, rfl, k1, fun p hp => q _ _ _ (g1.trans (Go.fresh g1.rep hp)) (RV.newV g1.rep hp k2.rev)⟩
    · cases h
/-- an int as it is -/
theorem sim_nn {e : Expr} {i : E} (h1 : SimE Γ e i) : SimE Γ e (.neg (.neg i)) := by
  intro n X z G env st d st' ρ σ H Q h re rp q
  simp only [ev] at h
  obtain ⟨y, s1, h0, h⟩ := Res.bind_eq_ok h
  obtain ⟨x, s2, e1, h0⟩ := Res.bind_eq_ok h0
  cases x with
  | int z =>
    cases h0
    simp only [negD] at h
    cases h
    refine h1 G e1 re rp fun v ρ1 H1 g1 r1 => q v ρ1 H1 g1 ?_
    rw [Int.neg_neg]
    exact r1
  | _ => cases h0
end RP

namespace RP
open PySem L2
variable {Γ : Ctx}

/-! ### what is walked -/
def TWI (X : Cx) (tg iter : Expr) : TI := fun σ H R => ∀ pins s, Inv X pins σ H s → wpAny (model X.prog X.w) X.A (eval iter X.env) (fun v s1 => wpAny (model X.prog X.w) X.A (pyIter v) (PIE X pins σ tg R) X.xe s1) X.xe s
theorem pi_w {X : Cx} {tg iter : Expr} : PI X tg iter (TWI X tg iter) := ⟨fun pins s σ H R I h => h pins s I⟩
theorem TWI.of {X : Cx} {tg iter : Expr} {t : TI} {σ : St} {H : Hp} {R : L2.It → Hp → Prop} (h : PI X tg iter t) (q : t σ H R) : TWI X tg iter σ H R := fun pins s I => h.run pins s σ H R I q

structure Walk (K : Kx) (J : L2.It) (src : Src) (items : List D) (ρ : Pl) (st : Sto) (H : Hp) : Prop where
  item : ∀ (i : Nat) (ρ2 : Pl) (st2 : Sto) (H2 : Hp) (d : D), Go K ρ st H ρ2 st2 H2 → still src st2 = true → items[i]? = some d →
    J.go i H2 ∧ ∀ x H3, J.yld i H2 x H3 → Go K ρ2 st2 H2 ρ2 st2 H3 ∧ RV K ρ2 st2 H3 d x ∧ ∀ a o, H2 a = some o → H3 a = some o
  stop : ∀ (i : Nat) (ρ2 : Pl) (st2 : Sto) (H2 : Hp), Go K ρ st H ρ2 st2 H2 → still src st2 = true → items.length ≤ i → J.stop i H2

theorem still_one {K : Kx} {n : Nat} {xs : List D} {ρ : Pl} {st : Sto} {H : Hp} (hn : n < st.length) (ρ2 : Pl) (st2 : Sto) (H2 : Hp) (g : Go K ρ st H ρ2 st2 H2) (e : still [(n, xs)] st2 = true) :
    ∃ vs, SqL K.K H2 (ρ n) vs ∧ RVs K ρ2 st2 H2 xs vs := by
  simp only [still, Bool.and_true] at e
  cases q : st2[n]? with
  | none => rw [q] at e; cases e
  | some o =>
    rw [q] at e
    have e' : o.items = xs := (sames_iff _ _).mp e
    obtain ⟨vs, h1, h2⟩ := g.rep.seq q
    rw [g.rho n hn] at h1
    exact ⟨vs, h1, e' ▸ h2⟩
/-- a list that is walked -/
def LS (K : Kx) (p : Addr) (src : Src) (xs : List D) (ρ : Pl) (st : Sto) (H : Hp) : Prop := ∀ (ρ2 : Pl) (st2 : Sto) (H2 : Hp), Go K ρ st H ρ2 st2 H2 → still src st2 = true → ∃ vs, SqL K.K H2 p vs ∧ RVs K ρ2 st2 H2 xs vs
theorem ls_of {K : Kx} {ρ : Pl} {H : Hp} {st : Sto} (rp : Rep K ρ H st) {d : D} {v : V} {xs : List D} (e : lstOf d st = some xs) (r : RV K ρ st H d v) : ∃ p, v = .ref p ∧ (∃ vs, SqL K.K H p vs) ∧ LS K p ((srcOf d).map (·, xs)).toList xs ρ st H := by
  cases r with
  | lst h m rs =>
    cases e
    exact ⟨_, rfl, ⟨_, SqL.of h⟩, fun ρ2 st2 H2 g _ => ⟨_, SqL.of (g.keep _ _ h m).1, g.rvs rs⟩⟩
  | ref hn => exact ⟨_, rfl, rp.some_of hn, fun ρ2 st2 H2 g s => still_one hn ρ2 st2 H2 g s⟩
  | _ => cases e
theorem still_app : ∀ {a b : Src} {st : Sto}, still (a ++ b) st = true → still a st = true ∧ still b st = true
  | [], _, _, h => ⟨rfl, h⟩
  | (n, xs) :: a, b, st, h => by
    simp only [List.cons_append, still, Bool.and_eq_true] at h ⊢
    exact ⟨⟨h.1, (still_app h.2).1⟩, (still_app h.2).2⟩
theorem walk_list {K : Kx} {p : Addr} {src : Src} {xs : List D} {ρ : Pl} {st : Sto} {H : Hp} (key : LS K p src xs ρ st H) : Walk K (Itl K.K p) src xs ρ st H := by
  refine ⟨fun i ρ2 st2 H2 d g e hi => ?_, fun i ρ2 st2 H2 g e hi => ?_⟩
  · obtain ⟨vs, h1, h2⟩ := key ρ2 st2 H2 g e
    obtain ⟨v, h3, h4⟩ := h2.get hi
    refine ⟨⟨vs, v, h1, h3⟩, fun x H3 ⟨eH, y⟩ => ?_⟩
    subst eH
    have ex : x = v := Option.some.inj ((y vs h1).symm.trans h3)
    subst ex
    exact ⟨Go.refl g.rep, h4, fun _ _ q => q⟩
  · obtain ⟨vs, h1, h2⟩ := key ρ2 st2 H2 g e
    exact ⟨vs, h1, by rw [← h2.length]; exact hi⟩
theorem walk_tup {K : Kx} {a : Addr} {xs : List D} {vs : List V} {ρ : Pl} {st : Sto} {H : Hp} (h : SqT K.K H a vs) (r : RVs K ρ st H xs vs) : Walk K (Itt K.K a) [] xs ρ st H := by
  refine ⟨fun i ρ2 st2 H2 d g e hi => ?_, fun i ρ2 st2 H2 g e hi => ?_⟩
  · obtain ⟨v, h3, h4⟩ := (g.rvs r).get hi
    refine ⟨⟨vs, v, g.t _ _ h, h3⟩, fun x H3 ⟨eH, y⟩ => ?_⟩
    subst eH
    have ex : x = v := Option.some.inj ((y vs (g.t _ _ h)).symm.trans h3)
    subst ex
    exact ⟨Go.refl g.rep, h4, fun _ _ q => q⟩
  · exact ⟨vs, g.t _ _ h, by rw [← r.length]; exact hi⟩
theorem numb_get {lo : Int} : ∀ {n i : Nat} {lo : Int} {d : D}, (numb lo n)[i]? = some d → i < n ∧ d = .int (lo + i)
  | 0, _, _, _, h => by simp [numb] at h
  | n + 1, 0, lo, d, h => by simp [numb] at h; subst h; simp
  | n + 1, i + 1, lo, d, h => by
    simp only [numb, List.getElem?_cons_succ] at h
    obtain ⟨h1, h2⟩ := numb_get (lo := lo) h
    refine ⟨by omega, ?_⟩
    rw [h2]; congr 1; push_cast; omega
theorem numb_len : ∀ (n : Nat) (lo : Int), (numb lo n).length = n
  | 0, _ => rfl
  | n + 1, lo => by simp [numb, numb_len n]
theorem walk_rng {K : Kx} {lo : Int} {n : Nat} {ρ : Pl} {st : Sto} {H : Hp} : Walk K (Itr lo n) [] (numb lo n) ρ st H := by
  refine ⟨fun i ρ2 st2 H2 d g e hi => ?_, fun i ρ2 st2 H2 g e hi => ?_⟩
  · obtain ⟨h1, rfl⟩ := numb_get (lo := lo) hi
    refine ⟨h1, fun x H3 ⟨eH, y⟩ => ?_⟩
    subst eH; subst y
    exact ⟨Go.refl g.rep, .int _, fun _ _ q => q⟩
  · rw [numb_len] at hi; exact hi
theorem enumd_get : ∀ {xs : List D} {i : Nat} {k : Int} {d : D}, (enumd k xs)[i]? = some d → ∃ x, xs[i]? = some x ∧ d = .tup [.int (k + i), x]
  | [], _, _, _, h => by simp [enumd] at h
  | x :: xs, 0, k, d, h => by simp [enumd] at h; subst h; exact ⟨x, rfl, by simp⟩
  | x :: xs, i + 1, k, d, h => by
    simp only [enumd, List.getElem?_cons_succ] at h
    obtain ⟨y, h1, h2⟩ := enumd_get h
    refine ⟨y, by simpa using h1, ?_⟩
    rw [h2]; congr 3; push_cast; omega
theorem enumd_len : ∀ (xs : List D) (k : Int), (enumd k xs).length = xs.length
  | [], _ => rfl
  | x :: xs, k => by simp [enumd, enumd_len xs]
theorem walk_enum {K : Kx} {p : Addr} {src : Src} {xs : List D} {ρ : Pl} {st : Sto} {H : Hp} (key : LS K p src xs ρ st H) : Walk K (Ite K.K p) src (enumd 0 xs) ρ st H := by
  refine ⟨fun i ρ2 st2 H2 d g e hi => ?_, fun i ρ2 st2 H2 g e hi => ?_⟩
  · obtain ⟨vs, h1, h2⟩ := key ρ2 st2 H2 g e
    obtain ⟨y, hy, rfl⟩ := enumd_get hi
    obtain ⟨v, h3, h4⟩ := h2.get hy
    refine ⟨⟨vs, v, h1, h3⟩, fun x H3 ⟨T, z, ex, hT, eH, yy⟩ => ?_⟩
    subst eH; subst ex
    have ez : z = v := Option.some.inj ((yy vs h1).symm.trans h3)
    subst ez
    have gg := Go.fresh (o := .tup [.int (i : Nat), z]) g.rep hT
    refine ⟨gg, .tup (SqT.of upd_same) (.cons ?_ (.cons (gg.rv h4) .nil)), fun a o q => by rw [upd_ne (ne_of_none q hT)]; exact q⟩
    have ei : (0 : Int) + (i : Nat) = (i : Nat) := by omega
    rw [ei]; exact .int _
  · obtain ⟨vs, h1, h2⟩ := key ρ2 st2 H2 g e
    exact ⟨vs, h1, by rw [← h2.length]; rw [enumd_len] at hi; exact hi⟩

theorem zipd_get : ∀ {xs ys : List D} {i : Nat} {d : D}, (zipd xs ys)[i]? = some d → ∃ x y, xs[i]? = some x ∧ ys[i]? = some y ∧ d = .tup [x, y]
  | [], _, _, _, h => by simp [zipd] at h
  | _ :: _, [], _, _, h => by simp [zipd] at h
  | x :: xs, y :: ys, 0, d, h => by simp [zipd] at h; subst h; exact ⟨x, y, rfl, rfl, rfl⟩
  | x :: xs, y :: ys, i + 1, d, h => by
    simp only [zipd, List.getElem?_cons_succ] at h ⊢
    exact zipd_get h
theorem zipd_len : ∀ (xs ys : List D), (zipd xs ys).length = min xs.length ys.length
  | [], _ => by simp [zipd]
  | _ :: _, [] => by simp [zipd]
  | x :: xs, y :: ys => by simp only [zipd, List.length_cons, zipd_len xs ys]; omega
theorem walk_zipL {K : Kx} {p p' : Addr} {s1 s2 : Src} {xs ys : List D} {ρ : Pl} {st : Sto} {H : Hp} (hm : LS K p s1 xs ρ st H) (hn : LS K p' s2 ys ρ st H) : Walk K (Itz K.K p p') (s1 ++ s2) (zipd xs ys) ρ st H := by
  refine ⟨fun i ρ2 st2 H2 d g e hi => ?_, fun i ρ2 st2 H2 g e hi => ?_⟩
  · obtain ⟨vs, h1, h2⟩ := hm ρ2 st2 H2 g (still_app e).1
    obtain ⟨us, k1, k2⟩ := hn ρ2 st2 H2 g (still_app e).2
    obtain ⟨a, b, ha, hb, rfl⟩ := zipd_get hi
    obtain ⟨v, h3, h4⟩ := h2.get ha
    obtain ⟨u, k3, k4⟩ := k2.get hb
    refine ⟨⟨vs, us, v, u, h1, k1, h3, k3⟩, fun x H3 ⟨T, z, w, ex, hT, eH, yy, ww⟩ => ?_⟩
    subst eH; subst ex
    have ez : z = v := Option.some.inj ((yy vs h1).symm.trans h3)
    have ew : w = u := Option.some.inj ((ww us k1).symm.trans k3)
    subst ez; subst ew
    have gg := Go.fresh (o := .tup [z, w]) g.rep hT
    exact ⟨gg, .tup (SqT.of upd_same) (.cons (gg.rv h4) (.cons (gg.rv k4) .nil)), fun a o q => by rw [upd_ne (ne_of_none q hT)]; exact q⟩
  · obtain ⟨vs, h1, h2⟩ := hm ρ2 st2 H2 g (still_app e).1
    obtain ⟨us, k1, k2⟩ := hn ρ2 st2 H2 g (still_app e).2
    rw [zipd_len, h2.length, k2.length] at hi
    exact ⟨vs, us, h1, k1, by omega⟩
theorem walk_zipT {K : Kx} {a b : Addr} {xs ys : List D} {vs us : List V} {ρ : Pl} {st : Sto} {H : Hp} (h1 : SqT K.K H a vs) (h2 : RVs K ρ st H xs vs) (k1 : SqT K.K H b us) (k2 : RVs K ρ st H ys us) : Walk K (RZ.ItzT K.K a b) [] (zipd xs ys) ρ st H := by
  refine ⟨fun i ρ2 st2 H2 d g e hi => ?_, fun i ρ2 st2 H2 g e hi => ?_⟩
  · have h1' := g.t _ _ h1
    have k1' := g.t _ _ k1
    obtain ⟨a', b', ha, hb, rfl⟩ := zipd_get hi
    obtain ⟨v, h3, h4⟩ := (g.rvs h2).get ha
    obtain ⟨u, k3, k4⟩ := (g.rvs k2).get hb
    refine ⟨⟨vs, us, v, u, h1', k1', h3, k3⟩, fun x H3 ⟨T, z, w, ex, hT, eH, yy, ww⟩ => ?_⟩
    subst eH; subst ex
    have ez : z = v := Option.some.inj ((yy vs h1').symm.trans h3)
    have ew : w = u := Option.some.inj ((ww us k1').symm.trans k3)
    subst ez; subst ew
    have gg := Go.fresh (o := .tup [z, w]) g.rep hT
    exact ⟨gg, .tup (SqT.of upd_same) (.cons (gg.rv h4) (.cons (gg.rv k4) .nil)), fun a o q => by rw [upd_ne (ne_of_none q hT)]; exact q⟩
  · rw [zipd_len, h2.length, k2.length] at hi
    exact ⟨vs, us, g.t _ _ h1, g.t _ _ k1, by omega⟩

def SimI (Γ : Ctx) (tg iter : Expr) (it : It) : Prop := ∀ {n : Nat} {X : Cx} {z : Hz}, Good Γ n X z → ∀ {env : Env} {st : Sto} {r : Src × List D} {st' : Sto} {ρ : Pl} {σ : St} {H : Hp} {R : L2.It → Hp → Prop},
  evI Γ.gl (Γ.run n) it env st = .ok r st' → REnv (kx X z) ρ st H env σ → Rep (kx X z) ρ H st →
  (∀ J ρ' H', Go (kx X z) ρ st H ρ' st' H' → Walk (kx X z) J r.1 r.2 ρ' st' H' → R J H') → TWI X tg iter σ H R

theorem pi_seq {X : Cx} {tg l : Expr} {tl : TE} (hl : PE X l tl) : PI X tg l (fun σ H R => tl σ H fun x H1 => (∃ a, x = .ref a ∧ (∃ xs, SqL X.K H1 a xs) ∧ R (Itl X.K a) H1) ∨ ∃ a, x = .ref a ∧ (∃ xs, SqT X.K H1 a xs) ∧ R (Itt X.K a) H1) := by
  refine ⟨fun pins s σ H R I h => thn (hl.run pins s σ H _ I h) fun v s1 ⟨x, H1, I1, r1, q1⟩ => ?_⟩
  have own : ∀ b ∈ [s1.heap.objs.size], FpOk X pins H1 b := fun b hb => by
    obtain rfl : b = s1.heap.objs.size := by simpa using hb
    exact I1.fpOk (Nat.le_refl _) (I1.hok.fresh (Nat.le_refl _))
  rcases q1 with ⟨a, rfl, ⟨xs, hq⟩, q⟩ | ⟨a, rfl, ⟨xs, hq⟩, q⟩
  · cases r1
    obtain ⟨its, rv, p, hz⟩ := I1.list hq
    exact wpAny_pyIter_list p.isList ⟨s1.heap.objs.size, [s1.heap.objs.size], _, _, H1, rfl, I1.kept (t' := s1.toks) fun b o e => Heap.get?_push_of_some _ e, turn_list a _, ⟨_, Heap.get?_push_size _ rfl, rfl, rfl⟩, own, q⟩
  · cases r1
    obtain ⟨its, rv, p, hz⟩ := I1.tuple hq
    exact wpAny_pyIter_tuple (show s1.heap.IsTuple a its.toArray from p) ⟨s1.heap.objs.size, [s1.heap.objs.size], _, _, H1, rfl, I1.kept (t' := s1.toks) fun b o e => Heap.get?_push_of_some _ e, turn_tuple a _, ⟨_, Heap.get?_push_size _ rfl, rfl, rfl⟩, own, q⟩
theorem iter_seq {tg l : Expr} {i : E} (h1 : SimE Γ l i) : SimI Γ tg l (.seq i) := by
  intro n X z G env st r st' ρ σ H R h re rp q
  simp only [evI] at h
  obtain ⟨x, s1, e1, h⟩ := Res.bind_eq_ok h
  unfold itOf at h
  refine TWI.of (pi_seq pe_w) (h1 G e1 re rp fun v ρ1 H1 g1 r1 => ?_)
  split at h
  · rename_i xs hs
    cases h
    cases r1 with
    | tup h2 h3 =>
      cases hs
      exact .inr ⟨_, rfl, ⟨_, h2⟩, q _ ρ1 H1 g1 (walk_tup h2 h3)⟩
    | lst h2 m h3 =>
      obtain ⟨p, e, k1, k2⟩ := ls_of g1.rep (d := .lst _) hs (.lst h2 m h3)
      cases e
      exact .inl ⟨_, rfl, k1, q _ ρ1 H1 g1 (walk_list k2)⟩
    | ref hn =>
      obtain ⟨p, e, k1, k2⟩ := ls_of g1.rep (d := .ref _) hs (.ref hn)
      cases e
      exact .inl ⟨_, rfl, k1, q _ ρ1 H1 g1 (walk_list k2)⟩
    | _ => cases hs
  · cases h
theorem iter_rng1 {tg a : Expr} {i : E} {p pos : Pos} (ha : star a = false) (hs : Γ.sc.names.lookup ("range" : Str) = some .globalImplicit) (hb : ("range" : Str) ∈ Γ.bs) (h1 : SimE Γ a i) : SimI Γ tg (.Call (.Name "range" p) [a] [] pos) (.rng (.k (.int 0)) i) := by
  intro n X z G env st r st' ρ σ H R h re rp q
  simp only [evI, ev, Res.bind_ok] at h
  obtain ⟨y, s1, e1, h⟩ := Res.bind_eq_ok h
  unfold rngOf at h
  cases y with
  | int j0 =>
    simp only at h
    split at h
    · rename_i c
      cases h
      refine TWI.of (pi_range1 (glob_of G hs) (G.blt _ hb) (pa_cons pe_w pa_nil (starEach_cons ha _ _)) (by rw [starEach_cons ha]; rfl)) (h1 G e1 re rp fun v ρ1 H1 g1 r1 => ?_)
      cases r1
      refine ⟨_, rfl, c.2.2.1, c.2.2.2, q _ ρ1 H1 g1 ?_⟩
      rw [show (j0 - 0).toNat = j0.toNat by omega]
      exact walk_rng
    · cases h
  | _ => cases h
theorem iter_rng2 {tg a b : Expr} {i j : E} {p pos : Pos} (ha : star a = false) (hb' : star b = false) (hs : Γ.sc.names.lookup ("range" : Str) = some .globalImplicit) (hb : ("range" : Str) ∈ Γ.bs) (h1 : SimE Γ a i) (h2 : SimE Γ b j) : SimI Γ tg (.Call (.Name "range" p) [a, b] [] pos) (.rng i j) := by
  intro n X z G env st r st' ρ σ H R h re rp q
  simp only [evI] at h
  obtain ⟨x, s1, e1, h⟩ := Res.bind_eq_ok h
  obtain ⟨y, s2, e2, h⟩ := Res.bind_eq_ok h
  unfold rngOf at h
  split at h
  · split at h
    · rename_i c
      cases h
      refine TWI.of (pi_range2 (glob_of G hs) (G.blt _ hb) (pa_cons pe_w (pa_cons pe_w pa_nil (starEach_cons hb' _ _)) (starEach_cons ha _ _)) (by rw [starEach_cons ha, starEach_cons hb']; rfl) (by rw [starEach_cons hb']; rfl)) (h1 G e1 re rp fun v ρ1 H1 g1 r1 => h2 G e2 (re.move g1) g1.rep fun u ρ2 H2 g2 r2 => ?_)
      have r1' := g2.rv r1
      cases r1'
      cases r2
      exact ⟨_, _, rfl, c, q _ ρ2 H2 (g1.trans g2) walk_rng⟩
    · cases h
  · cases h
theorem iter_zip {elts : List Expr} {kk : Nat} {tpos : Pos} {a b : Expr} {i j : E} {p pos : Pos} (ha : star a = false) (hb' : star b = false) (hs : Γ.sc.names.lookup ("zip" : Str) = some .globalImplicit) (hb : ("zip" : Str) ∈ Γ.bs) (h1 : SimE Γ a i) (h2 : SimE Γ b j) : SimI Γ (.Tuple elts kk tpos) (.Call (.Name "zip" p) [a, b] [] pos) (.zip i j) := by
  intro n X z G env st r st' ρ σ H R h re rp q
  simp only [evI] at h
  obtain ⟨x, s1, e1, h⟩ := Res.bind_eq_ok h
  obtain ⟨y, s2, e2, h⟩ := Res.bind_eq_ok h
  unfold zipOf at h
  refine TWI.of (RZ.pi_zipA (glob_of G hs) (G.blt _ hb) (pa_cons pe_w (pa_cons pe_w pa_nil (starEach_cons hb' _ _)) (starEach_cons ha _ _)) (by rw [starEach_cons ha]) (by rw [starEach_cons hb']; rfl)) (h1 G e1 re rp fun v ρ1 H1 g1 r1 => h2 G e2 (re.move g1) g1.rep fun u ρ2 H2 g2 r2 => ?_)
  have r1' := g2.rv r1
  split at h
  · cases h
    cases r1' with
    | tup p1 p2 =>
      cases r2 with
      | tup q1 q2 => exact ⟨_, _, _, _, rfl, .inr ⟨p1, q1, q _ ρ2 H2 (g1.trans g2) (walk_zipT p1 p2 q1 q2)⟩⟩
  · split at h
    · rename_i xs ys hx hy
      cases h
      obtain ⟨p1, e1, ⟨vs, sv⟩, k1⟩ := ls_of g2.rep hx r1'
      obtain ⟨p2, e2, ⟨us, su⟩, k2⟩ := ls_of g2.rep hy r2
      subst e1; subst e2
      exact ⟨_, _, vs, us, rfl, .inl ⟨sv, su, q _ ρ2 H2 (g1.trans g2) (walk_zipL k1 k2)⟩⟩
    · cases h
theorem iter_enum {elts : List Expr} {kk : Nat} {tpos : Pos} {a : Expr} {i : E} {p pos : Pos} (ha : star a = false) (hs : Γ.sc.names.lookup ("enumerate" : Str) = some .globalImplicit) (hb : ("enumerate" : Str) ∈ Γ.bs) (h1 : SimE Γ a i) : SimI Γ (.Tuple elts kk tpos) (.Call (.Name "enumerate" p) [a] [] pos) (.enum i) := by
  intro n X z G env st r st' ρ σ H R h re rp q
  simp only [evI] at h
  obtain ⟨x, s1, e1, h⟩ := Res.bind_eq_ok h
  unfold enumOf at h
  split at h
  · rename_i xs hx
    cases h
    refine TWI.of (pi_enum (glob_of G hs) (G.blt _ hb) (pa_cons pe_w pa_nil (starEach_cons ha _ _)) (by rw [starEach_cons ha]; rfl)) (h1 G e1 re rp fun v ρ1 H1 g1 r1 => ?_)
    obtain ⟨p1, e1, ⟨vs, sv⟩, k1⟩ := ls_of g1.rep hx r1
    subst e1
    exact ⟨_, vs, rfl, sv, q _ ρ1 H1 g1 (walk_enum k1)⟩
  · cases h

/-! ### targets -/
def TWG (X : Cx) (tg : Expr) : TG := fun v σ H Q => ∀ pins s u, Inv X pins σ H s → RelV v u → wpAny (model X.prog X.w) X.A (assign tg X.env u) (fun _ s' => ∃ σ' H', Inv X pins σ' H' s' ∧ Q σ' H') X.xe s
theorem pg_w {X : Cx} {tg : Expr} : PG X tg (TWG X tg) := ⟨fun pins s σ H v u Q I r h => h pins s u I r⟩
theorem TWG.of {X : Cx} {tg : Expr} {t : TG} {v : V} {σ : St} {H : Hp} {Q : St → Hp → Prop} (h : PG X tg t) (q : t v σ H Q) : TWG X tg v σ H Q := fun pins s u I r => h.run pins s σ H v u Q I r q
def SimG (Γ : Ctx) (tg : Expr) (t : Tg) : Prop := ∀ {n : Nat} {X : Cx} {z : Hz}, Good Γ n X z → ∀ {env env' : Env} {st st' : Sto} {d : D} {v : V} {ρ : Pl} {σ : St} {H : Hp} {Q : St → Hp → Prop},
  asg Γ.gl (Γ.run n) t d env st = .ok env' st' → REnv (kx X z) ρ st H env σ → Rep (kx X z) ρ H st → RV (kx X z) ρ st H d v →
  (∀ σ' ρ' H', Go (kx X z) ρ st H ρ' st' H' → REnv (kx X z) ρ' st' H' env' σ' → σ'.length = σ.length → (∀ k : Nat, k ∉ t.slots → σ'[k]? = σ[k]?) → Q σ' H') → TWG X tg v σ H Q
def Own (Γ : Ctx) (x : Str) : Prop := Γ.sc.names.lookup x = some .local ∨ (Γ.sc.names.lookup x = some .cell ∧ Γ.cel x = true)
theorem Own.loc {x : Str} (h : Own Γ x) : Loc Γ.sc x := h.elim .inl fun z => .inr z.1
theorem Own.fn {n : Nat} {X : Cx} {z : Hz} (G : Good Γ n X z) {x : Str} (h : Own Γ x) : X.fn x = true ∨ X.env.scope.names.lookup x = some .local := by
  rw [G.sc]; exact h.elim .inr fun z => .inl (G.fn x z.2)
theorem tg_nm {x : Str} {pos : Pos} {i : Nat} (hN : Γ.N[i]? = some x) (hl : Own Γ x) : SimG Γ (.Name x pos) (.nm i) := by
  intro n X z G env env' st st' d v ρ σ H Q h re rp rv q
  have h' : Res.ok (env.set i (some d)) st = Res.ok env' st' := by simpa [asg] using h
  cases h'
  refine TWG.of (pg_name (i := i) (by rw [G.N]; exact G.nd) (by rw [G.N]; exact hN) (by rw [G.sc]; exact hl.loc) (hl.fn G)) ?_
  refine q _ ρ H (Go.refl rp) (re.set i rv) (by simp) fun k hk => ?_
  have hk' : i ≠ k := fun z => hk (by simp [Tg.slots, z])
  rw [List.getElem?_set_ne hk']
def TWGs (X : Cx) (ts : List Expr) : TGs := fun vs σ H Q => ∀ pins s us, Inv X pins σ H s → Vals vs us → wpAny (model X.prog X.w) X.A (assignInOrder ((assignEach ts X.env).map (·.2)) us) (fun _ s' => ∃ σ' H', Inv X pins σ' H' s' ∧ Q σ' H') X.xe s
theorem assignEach_cons {e : Expr} (h : star e = false) (es : List Expr) (env : PySem.Env) : assignEach (e :: es) env = (false, assign e env) :: assignEach es env := by
  cases e <;> first | rfl | (simp [star] at h)
theorem tg_two {a b : Expr} {s t : Tg} {k : Nat} {pos : Pos} (cold : Γ.hot = false) (ha : star a = false) (hb : star b = false) (h1 : SimG Γ a s) (h2 : SimG Γ b t) : SimG Γ (.Tuple [a, b] k pos) (.two s t) := by
  intro n X z G env env' st st' d v ρ σ H Q h re rp rv q
  simp only [asg] at h
  unfold asgTup at h
  split at h
  · rename_i x y
    obtain ⟨env1, st1, e1, e2⟩ := Res.bind_eq_ok h
    cases rv with
    | tup ht rs =>
      cases rs with
      | cons r1 rs =>
        cases rs with
        | cons r2 rs =>
          cases rs
          have pgs : PGs X [a, b] (gCons (TWG X a) (gCons (TWG X b) gNil)) := pgs_cons pg_w (pgs_cons pg_w pgs_nil (by simp [assignEach_cons hb])) (by simp [assignEach_cons ha])
          refine TWG.of (pg_tup (n := 2) (G.calm cold).1 pgs (by rw [assignEach_cons ha, assignEach_cons hb]; rfl) (by rw [assignEach_cons ha, assignEach_cons hb]; rfl)) ?_
          refine ⟨_, _, rfl, ht, rfl, _, _, rfl, h1 G e1 re rp r1 fun σ1 ρ1 H1 g1 re1 l1 s1 => ?_⟩
          refine ⟨_, _, rfl, h2 G e2 re1 g1.rep (g1.rv r2) fun σ2 ρ2 H2 g2 re2 l2 s2 => ?_⟩
          refine ⟨rfl, q σ2 ρ2 H2 (g1.trans g2) re2 (l2.trans l1) fun k hk => ?_⟩
          have hk1 : k ∉ s.slots := fun z => hk (by simp [Tg.slots, z])
          have hk2 : k ∉ t.slots := fun z => hk (by simp [Tg.slots, z])
          rw [s2 k hk2, s1 k hk1]
  · split at h
    · rename_i x y em
      obtain ⟨env1, st1, e1, e2⟩ := Res.bind_eq_ok h
      obtain ⟨pp, vs, rfl, sq, rs⟩ := lstOf_ok rp em rv
      cases rs with
      | cons r1 rs =>
        cases rs with
        | cons r2 rs =>
          cases rs
          have pgs : PGs X [a, b] (gCons (TWG X a) (gCons (TWG X b) gNil)) := pgs_cons pg_w (pgs_cons pg_w pgs_nil (by simp [assignEach_cons hb])) (by simp [assignEach_cons ha])
          refine TWG.of (pg_unl (n := 2) (G.calm cold).1 pgs (by rw [assignEach_cons ha, assignEach_cons hb]; rfl) (by rw [assignEach_cons ha, assignEach_cons hb]; rfl)) ?_
          refine ⟨_, _, rfl, sq, rfl, _, _, rfl, h1 G e1 re rp r1 fun σ1 ρ1 H1 g1 re1 l1 s1 => ?_⟩
          refine ⟨_, _, rfl, h2 G e2 re1 g1.rep (g1.rv r2) fun σ2 ρ2 H2 g2 re2 l2 s2 => ?_⟩
          refine ⟨rfl, q σ2 ρ2 H2 (g1.trans g2) re2 (l2.trans l1) fun k hk => ?_⟩
          have hk1 : k ∉ s.slots := fun z => hk (by simp [Tg.slots, z])
          have hk2 : k ∉ t.slots := fun z => hk (by simp [Tg.slots, z])
          rw [s2 k hk2, s1 k hk1]
    · cases h
theorem putIx_inv {o i v : D} {st st' : Sto} (h : putIx o i v st = some st') : ∃ n k, o = .ref n ∧ i = .int k ∧ setL n (fun xs => (ixN xs.length k).map fun j => xs.set j v) st = some st' := by
  cases o <;> cases i <;> first | exact ⟨_, _, rfl, rfl, h⟩ | cases h
theorem assign_sub {o i : Expr} {pos : Pos} (hi : nslice i = true) (env : PySem.Env) (v : Value) : assign (.Subscript o i pos) env v = (do
      let ov ← holding [v] (eval o env)
      let iv ← holding [v, ov] (eval i env)
      standAt pos
      holding [v, ov, iv] (setItem ov iv v)
      release [v, ov, iv] []) := by
  cases i <;> first | rfl | cases hi
theorem tg_sub {o i : Expr} {a b : E} {pos : Pos} (hi : nslice i = true) (h1 : SimE Γ o a) (h2 : SimE Γ i b) : SimG Γ (.Subscript o i pos) (.sub a b) := by
  intro n X z G env env' st st' d v ρ σ H Q h re rp rv q
  simp only [asg] at h
  obtain ⟨x, s1, e1, h⟩ := Res.bind_eq_ok h
  obtain ⟨y, s2, e2, h⟩ := Res.bind_eq_ok h
  unfold putTo at h
  split at h
  · rename_i st2 e3
    cases h
    obtain ⟨m, k, rfl, rfl, e4⟩ := putIx_inv e3
    obtain ⟨xs, ys, f1, f2, f3, rfl⟩ := setL_ok e4
    obtain ⟨j, f4, rfl⟩ := map_some f2
    refine TWG.of (pg_sub pe_w pe_w set_list (fun v => assign_sub hi _ v)) (h1 G e1 re rp fun w ρ1 H1 g1 r1 => h2 G e2 (re.move g1) g1.rep fun u ρ2 H2 g2 r2 => ?_)
    cases r2
    have r1' := g2.rv r1
    cases r1' with
    | ref hn =>
      obtain ⟨vs, k1, k2⟩ := g2.rep.lst m xs f1
      have gs := Go.setL g2.rep f1 k1 (k2.set (g2.rv (g1.rv rv)) j)
      refine ⟨_, vs, _, j, rfl, rfl, k1, by rw [← k2.length]; exact f4, ?_⟩
      have gg := (g1.trans g2).trans gs
      exact q σ ρ2 _ gg (re.move gg) rfl fun _ _ => rfl
  · cases h
/-! ### several names -/
inductive Nms (Γ : Ctx) : List Expr → List Nat → Prop
  | nil : Nms Γ [] []
  | cons {x : Str} {pos : Pos} {i : Nat} {es : List Expr} {is : List Nat} : Γ.N[i]? = some x → Own Γ x → Nms Γ es is → Nms Γ (.Name x pos :: es) (i :: is)
theorem Nms.each {Γ : Ctx} {env : PySem.Env} : ∀ {es : List Expr} {is : List Nat}, Nms Γ es is → (assignEach es env).length = is.length ∧ (assignEach es env).findIdx? (·.1) = none
  | _, _, .nil => ⟨rfl, rfl⟩
  | _, _, .cons _ _ r => by
    obtain ⟨a, b⟩ := r.each (env := env)
    rw [assignEach_cons rfl]
    refine ⟨by simp [a], ?_⟩
    rw [List.findIdx?_cons, b]
    rfl
theorem nms_go {n : Nat} {X : Cx} {z : Hz} (G : Good Γ n X z) : ∀ {es : List Expr} {is : List Nat}, Nms Γ es is → ∀ {ds : List D} {vs : List V} {env : Env} {st : Sto} {ρ : Pl} {σ : St} {H : Hp} {Q : St → Hp → Prop}, ds.length = is.length → RVs (kx X z) ρ st H ds vs → REnv (kx X z) ρ st H env σ →
    (∀ σ', REnv (kx X z) ρ st H (setAll is ds env) σ' → σ'.length = σ.length → (∀ k : Nat, k ∉ is → σ'[k]? = σ[k]?) → Q σ' H) →
    ∃ t, PGs X es t ∧ t vs σ H Q
  | _, _, .nil, ds, vs, env, st, ρ, σ, H, Q, hl, rv, re, q => by
    cases rv with
    | nil => exact ⟨gNil, pgs_nil, rfl, q σ re rfl fun _ _ => rfl⟩
    | cons a b => simp at hl
  | _, _, .cons (x := x) (pos := pos) (i := i) (es := es) (is := is) hN ho r, ds, vs, env, st, ρ, σ, H, Q, hl, rv, re, q => by
    cases rv with
    | nil => simp at hl
    | @cons d v ds vs r1 r2 =>
      have step := nms_go G r (env := env.set i (some d)) (σ := σ.set i (some v)) (Q := Q) (by simpa using hl) r2 (re.set i r1) (fun σ' re' l' s' => q σ' re' (by simpa using l') fun k hk => by
        rw [s' k (fun z => hk (List.mem_cons_of_mem _ z)), List.getElem?_set_ne (fun z => hk (by rw [z]; exact List.mem_cons_self))])
      obtain ⟨t, h1, h2⟩ := step
      exact ⟨gCons _ t, pgs_cons (pg_name (i := i) (by rw [G.N]; exact G.nd) (by rw [G.N]; exact hN) (by rw [G.sc]; exact ho.loc) (ho.fn G)) h1 (by rw [assignEach_cons rfl]; rfl), v, vs, rfl, h2⟩
theorem tg_many {es : List Expr} {is : List Nat} {k : Nat} {pos : Pos} (cold : Γ.hot = false) (hn : Nms Γ es is) : SimG Γ (.Tuple es k pos) (.many is) := by
  intro n X z G env env' st st' d v ρ σ H Q h re rp rv q
  simp only [asg] at h
  unfold asgMany at h
  split at h
  · rename_i xs
    split at h
    · rename_i hl
      cases h
      cases rv with
      | tup ht rs =>
        obtain ⟨t, h1, h2⟩ := nms_go G hn (Q := Q) hl rs re (fun σ' re' l' s' => q σ' ρ H (Go.refl rp) re' l' s')
        obtain ⟨e1, e2⟩ := hn.each (env := X.env)
        refine TWG.of (pg_tup (n := is.length) (G.calm cold).1 h1 e1 e2) ⟨_, _, rfl, ht, by rw [← rs.length, hl], h2⟩
    · cases h
  · cases h
end RP

namespace RP
open PySem L2
variable {Γ : Ctx}

/-! ### comprehensions -/
def relS (sc scope : Scope) : Scope := { scope with names := scope.names.map fun (n, k) => if (k == .free && sc.kind == .function && sc.names.lookup n == some .cell) then (n, .cell) else (n, k) }
def Ctx.blk (Γ : Ctx) (scope : Scope) : Ctx := { Γ with sc := relS Γ.sc scope, cel := fun x => scope.names.lookup x == some .cell }
theorem Good.blk {n : Nat} {X : Cx} {z : Hz} (G : Good Γ n X z) (cold : Γ.hot = false) {scope : Scope} (hk : scope.kind = .function) (s : Shared) (H : Hp) (C : Addr) (cl : List (Str × Addr)) (fp : List Addr) : Good (Γ.blk scope) n (X.blk s H scope (compEnvC scope cl C X.env) fp) z where
  N := G.N
  nd := G.nd
  sc := by
    show relabel scope X.env = relS Γ.sc scope
    rw [← G.sc]; rfl
  calm := G.calm
  hot := fun h => Bool.noConfusion (cold.symm.trans (show Γ.hot = true from h))
  room := G.room
  guards := G.guards
  fn := fun x h => h
  kind := hk
  gl := G.gl
  blt := G.blt
  exs := G.exs
  exa := G.exa
  tys := G.tys
  fns := G.fns
theorem wipe_get {σ : St} {k : Nat} : ∀ {vs : List Nat}, (wipe σ vs)[k]? = if k ∈ vs ∧ k < σ.length then some none else σ[k]?
  | [] => by simp [wipe]
  | v :: vs => by
    unfold wipe
    by_cases e : v = k
    · subst e
      by_cases hl : v < σ.length
      · rw [List.getElem?_set_self (by rw [wipe_length]; exact hl)]; simp [hl]
      · rw [List.getElem?_eq_none (by rw [List.length_set, wipe_length]; omega), List.getElem?_eq_none (by omega)]; simp [hl]
    · rw [List.getElem?_set_ne e, wipe_get (vs := vs)]
      have e' : ¬ k = v := fun z => e z.symm
      simp [e']
theorem wipe_same {σ σ' : St} {vs : List Nat} (hl : σ'.length = σ.length) (h : ∀ k : Nat, k ∉ vs → σ'[k]? = σ[k]?) : wipe σ' vs = wipe σ vs := by
  refine List.ext_getElem? fun k => ?_
  rw [wipe_get, wipe_get, hl]
  by_cases hk : k ∈ vs
  · by_cases h2 : k < σ.length
    · simp [hk, h2]
    · have e1 : σ'[k]? = none := List.getElem?_eq_none (by omega)
      have e2 : σ[k]? = none := List.getElem?_eq_none (by omega)
      simp [hk, h2, e1, e2]
  · simp [hk, h k hk]
theorem wipe_wipe {σ : St} {vs : List Nat} : wipe (wipe σ vs) vs = wipe σ vs := by
  refine List.ext_getElem? fun k => ?_
  rw [wipe_get, wipe_get, wipe_length]
  by_cases hk : k ∈ vs ∧ k < σ.length <;> simp [hk]

def SimTs (Γ : Ctx) (ifs : List Expr) (c : E) : Prop := (ifs = [] ∧ c = .k (.bl true)) ∨ ∃ e, ifs = [e] ∧ SimT Γ e c

/-- the readings in a block, whatever block of this text it is -/
def bE (X : Cx) (scope : Scope) (e : Expr) : TE := fun σ H Q => ∀ s0 H0 C cl fp, TW (X.blk s0 H0 scope (compEnvC scope cl C X.env) fp) e σ H Q
def bT (X : Cx) (scope : Scope) (e : Expr) : TT := fun σ H Q => ∀ s0 H0 C cl fp, TWT (X.blk s0 H0 scope (compEnvC scope cl C X.env) fp) e σ H Q
def bG (X : Cx) (scope : Scope) (e : Expr) : TG := fun v σ H Q => ∀ s0 H0 C cl fp, TWG (X.blk s0 H0 scope (compEnvC scope cl C X.env) fp) e v σ H Q
def bTs (X : Cx) (scope : Scope) : List Expr → TT
  | [e] => bT X scope e
  | _ => tYes

theorem comp_core {n : Nat} {X : Cx} {z : Hz} (G : Good Γ n X z) (cold : Γ.hot = false) {tg iter elt : Expr} {ifs : List Expr} {scope : Scope} {t : Tg} {it : It} {c e : E} (hk : scope.kind = .function)
    (hi : SimI Γ tg iter it) (hg : SimG (Γ.blk scope) tg t) (hc : SimTs (Γ.blk scope) ifs c) (he : SimE (Γ.blk scope) elt e)
    {env : Env} {st : Sto} {d : D} {st' : Sto} {ρ : Pl} {σ : St} {H : Hp} {Q : VK} (h : ev Γ.gl (Γ.run n) (.comp t it c e) env st = .ok d st') (re : REnv (kx X z) ρ st H env σ) (rp : Rep (kx X z) ρ H st)
    (q : ∀ v ρ' H', Go (kx X z) ρ st H ρ' st' H' → RV (kx X z) ρ' st' H' d v → Q v H') :
    tLc (TWI X tg iter) (bG X scope tg) (bTs X scope ifs) (bE X scope elt) t.slots σ H Q := by
  simp only [ev] at h
  obtain ⟨r, s1, e1, h⟩ := Res.bind_eq_ok h
  obtain ⟨_, s2, e2, h⟩ := Res.bind_eq_ok h
  cases h
  refine hi G e1 re rp fun J ρ1 H1 g1 W1 => ?_
  intro p hp
  have gn := Go.newL (ds := []) (vs := []) g1.rep hp .nil
  have e0 : (put ρ1 s1.length p) s1.length = p := put_same
  refine ⟨fun i m H2 => m = r.2.length - i ∧ i ≤ r.2.length ∧ ∃ ρ2 s2', Go (kx X z) (put ρ1 s1.length p) (s1 ++ [.lst []]) (upd H1 p (.lst [])) ρ2 s2' H2 ∧
    compLoop (asg Γ.gl (Γ.run n) t) (ev Γ.gl (Γ.run n) c) (ev Γ.gl (Γ.run n) e) r.1 s1.length (wipeE env t.slots) (r.2.drop i) s2' = .ok () st', ⟨r.2.length, by simp, by omega, put ρ1 s1.length p, _, Go.refl gn.rep, by simpa using e2⟩, ?_⟩
  rintro i m H2 ⟨rfl, hi', ρ2, s2', g2, e2⟩
  by_cases hlt : i < r.2.length
  · right
    have hx : r.2[i]? = some r.2[i] := List.getElem?_eq_getElem hlt
    rw [List.drop_eq_getElem_cons hlt] at e2
    simp only [compLoop] at e2
    split at e2
    · rename_i hs
      obtain ⟨env1, s3, e3, e2⟩ := Res.bind_eq_ok e2
      obtain ⟨cv, s4, e4, e2⟩ := Res.bind_eq_ok e2
      obtain ⟨hgo, hy⟩ := W1.item i ρ2 s2' H2 _ (gn.trans g2) hs hx
      refine ⟨hgo, fun H9 => i + 1 ≤ r.2.length ∧ ∃ ρ2 s2', Go (kx X z) (put ρ1 s1.length p) (s1 ++ [.lst []]) (upd H1 p (.lst [])) ρ2 s2' H9 ∧
        compLoop (asg Γ.gl (Γ.run n) t) (ev Γ.gl (Γ.run n) c) (ev Γ.gl (Γ.run n) e) r.1 s1.length (wipeE env t.slots) (r.2.drop (i + 1)) s2' = .ok () st', fun H9 ⟨h1, h2⟩ => ⟨r.2.length - (i + 1), by omega, rfl, h1, h2⟩, fun x H3 hx3 => ?_⟩
      obtain ⟨g3, r3, _⟩ := hy x H3 hx3
      intro s0 H0 C cl fp
      have Gb := G.blk cold hk s0 H0 C cl fp
      have rew : REnv (kx X z) ρ2 s2' H3 (wipeE env t.slots) (wipe σ t.slots) := (re.move ((((g1.trans gn).trans g2)).trans g3)).wipe _
      refine hg Gb e3 rew g3.rep r3 fun σ4 ρ4 H4 g4 re4 l4 s4' => ⟨?_, ?_⟩
      · rw [wipe_same l4 s4', wipe_wipe]
      have fin : ∀ {ρ9 : Pl} {s9 : Sto} {H9 : Hp}, Go (kx X z) ρ2 s2' H2 ρ9 s9 H9 → Go (kx X z) (put ρ1 s1.length p) (s1 ++ [.lst []]) (upd H1 p (.lst [])) ρ9 (trim (s1.length + 1) 0 s9) H9 := fun g9 => by
        have z := Go.trim (t := 0) (g2.trans g9)
        rw [List.length_append] at z
        exact z
      unfold br at e2
      split at e2
      · rename_i ht
        obtain ⟨yv, s5, e5, e2⟩ := Res.bind_eq_ok e2
        split at e2
        · rename_i s6 e6
          obtain ⟨xs, zs, f1, f2, f3, rfl⟩ := setL_ok e6
          cases f2
          have body : ∀ (ρ5 : Pl) (H5 : Hp), Go (kx X z) ρ4 s3 H4 ρ5 s4 H5 → bE X scope elt σ4 H5 fun y H6 => ∃ acc, H6 p = some (.lst acc) ∧ acc.length < sizeLine ∧ (i + 1 ≤ r.2.length ∧ ∃ ρ2 s2', Go (kx X z) (put ρ1 s1.length p) (s1 ++ [.lst []]) (upd H1 p (.lst [])) ρ2 s2' (upd H6 p (.lst (acc ++ [y]))) ∧
              compLoop (asg Γ.gl (Γ.run n) t) (ev Γ.gl (Γ.run n) c) (ev Γ.gl (Γ.run n) e) r.1 s1.length (wipeE env t.slots) (r.2.drop (i + 1)) s2' = .ok () st') := fun ρ5 H5 g5 => by
            intro s0 H0 C cl fp
            refine he (G.blk cold hk s0 H0 C cl fp) e5 (re4.move g5) g5.rep fun y ρ6 H6 g6 r6 => ?_
            obtain ⟨vs, k1, k2⟩ := g6.rep.lst s1.length xs f1
            have gg := g2.trans (((g3.trans g4).trans g5).trans g6)
            have gs := Go.setL g6.rep f1 k1 (k2.app (.cons r6 .nil))
            have ep : ρ6 s1.length = p := by rw [gg.rho s1.length (by simp)]; exact put_same
            rw [ep] at k1 gs
            refine ⟨vs, k1, by rw [← k2.length]; simp at f3; omega, by omega, ρ6, _, fin ((((g3.trans g4).trans g5).trans g6).trans gs), e2⟩
          rcases hc with ⟨rfl, rfl⟩ | ⟨ce, rfl, hc⟩
          · have e4' : Res.ok (D.bl true) s3 = Res.ok cv s4 := by simpa [ev] using e4
            cases e4'
            simp only [bTs, tYes, if_true]
            exact body ρ4 H4 (Go.refl g4.rep)
          · intro s0 H0 C cl fp
            refine hc (G.blk cold hk s0 H0 C cl fp) e4 ht re4 g4.rep fun ρ5 H5 g5 => ?_
            rw [if_pos rfl]
            exact body ρ5 H5 g5
        · cases e2
      · rename_i ht
        rcases hc with ⟨rfl, rfl⟩ | ⟨ce, rfl, hc⟩
        · have e4' : Res.ok (D.bl true) s3 = Res.ok cv s4 := by simpa [ev] using e4
          cases e4'
          cases ht
        · intro s0 H0 C cl fp
          refine hc (G.blk cold hk s0 H0 C cl fp) e4 ht re4 g4.rep fun ρ5 H5 g5 => ?_
          rw [if_neg Bool.false_ne_true]
          exact ⟨by omega, ρ5, _, fin ((g3.trans g4).trans g5), e2⟩
      · cases e2
    · cases e2
  · left
    rw [List.drop_eq_nil_of_le (by omega)] at e2
    simp only [compLoop] at e2
    split at e2
    · rename_i hs
      cases e2
      refine ⟨W1.stop i ρ2 st' H2 (gn.trans g2) hs (by omega), q _ ρ2 H2 ((g1.trans gn).trans g2) ?_⟩
      have z := g2.rv (d := .ref s1.length) (v := .ref p) RV.last
      exact z
    · cases e2

theorem lc_core {n : Nat} {X : Cx} {z : Hz} (G : Good Γ n X z) (cold : Γ.hot = false) {tg iter elt : Expr} {ifs : List Expr} {scope : Scope} {t : Tg} {it : It} {c e : E} (hk : scope.kind = .function)
    (hi : SimI Γ tg iter it) (hg : SimG (Γ.blk scope) tg t) (hc : SimTs (Γ.blk scope) ifs c) (he : SimE (Γ.blk scope) elt e)
    {env : Env} {st : Sto} {d : D} {st' : Sto} {ρ : Pl} {σ : St} {H : Hp} {Q : VK} (h : ev Γ.gl (Γ.run n) (.lc t it c e) env st = .ok d st') (re : REnv (kx X z) ρ st H env σ) (rp : Rep (kx X z) ρ H st)
    (q : ∀ v ρ' H', Go (kx X z) ρ st H ρ' st' H' → RV (kx X z) ρ' st' H' d v → Q v H') :
    tLc (TWI X tg iter) (bG X scope tg) (bTs X scope ifs) (bE X scope elt) t.slots σ H Q := by
  simp only [ev] at h
  obtain ⟨r, s1, e1, h⟩ := Res.bind_eq_ok h
  obtain ⟨xs, s2, e2, h⟩ := Res.bind_eq_ok h
  cases h
  refine hi G e1 re rp fun J ρ1 H1 g1 W1 => ?_
  intro p hp
  have gh := Go.hold (o := .lst []) g1.rep hp
  let W : Nat → Hp → Prop := fun i H2 => i ≤ r.2.length ∧ ∃ (ρ2 : Pl) (s2' : Sto) (acc : List D) (vs : List V), Go (kx X z) ρ1 s1 H1 ρ2 s2' H2 ∧ ρ2.R p ∧ H2 p = some (.lst vs) ∧ RVs (kx X z) ρ2 s2' H2 acc vs ∧
    lcLoop (asg Γ.gl (Γ.run n) t) (ev Γ.gl (Γ.run n) c) (ev Γ.gl (Γ.run n) e) r.1 s1.length (wipeE env t.slots) (r.2.drop i) acc s2' = .ok xs st'
  refine ⟨fun i m H2 => m = r.2.length - i ∧ W i H2, ⟨r.2.length, by simp, by omega, ρ1.hold p, s1, [], [], gh, .inr rfl, upd_same, .nil, by simpa using e2⟩, ?_⟩
  rintro i m H2 ⟨rfl, hi', ρ2, s2', acc, vs, g2, hr2, hv2, ra2, e2⟩
  by_cases hlt : i < r.2.length
  · right
    have hx : r.2[i]? = some r.2[i] := List.getElem?_eq_getElem hlt
    rw [List.drop_eq_getElem_cons hlt] at e2
    simp only [lcLoop] at e2
    split at e2
    · rename_i hs
      obtain ⟨env1, s3, e3, e2⟩ := Res.bind_eq_ok e2
      obtain ⟨cv, s4, e4, e2⟩ := Res.bind_eq_ok e2
      obtain ⟨hgo, hy⟩ := W1.item i ρ2 s2' H2 _ g2 hs hx
      refine ⟨hgo, fun H9 => W (i + 1) H9, fun H9 hw => ⟨r.2.length - (i + 1), by omega, rfl, hw⟩, fun x H3 hx3 => ?_⟩
      obtain ⟨g3, r3, _⟩ := hy x H3 hx3
      intro s0 H0 C cl fp
      have Gb := G.blk cold hk s0 H0 C cl fp
      have rew : REnv (kx X z) ρ2 s2' H3 (wipeE env t.slots) (wipe σ t.slots) := (re.move ((g1.trans g2).trans g3)).wipe _
      refine hg Gb e3 rew g3.rep r3 fun σ4 ρ4 H4 g4 re4 l4 s4' => ⟨?_, ?_⟩
      · rw [wipe_same l4 s4', wipe_wipe]
      unfold br at e2
      split at e2
      · rename_i ht
        obtain ⟨yv, s5, e5, e2⟩ := Res.bind_eq_ok e2
        split at e2
        · rename_i hz
          have body : ∀ (ρ5 : Pl) (H5 : Hp), Go (kx X z) ρ4 s3 H4 ρ5 s4 H5 → bE X scope elt σ4 H5 fun y H6 => ∃ acc, H6 p = some (.lst acc) ∧ acc.length < sizeLine ∧ W (i + 1) (upd H6 p (.lst (acc ++ [y]))) := fun ρ5 H5 g5 => by
            intro s0 H0 C cl fp
            refine he (G.blk cold hk s0 H0 C cl fp) e5 (re4.move g5) g5.rep fun y ρ6 H6 g6 r6 => ?_
            have gg := ((g3.trans g4).trans g5).trans g6
            have hv6 : H6 p = some (.lst vs) := by rw [gg.kr p hr2]; exact hv2
            have hr6 : ρ6.R p := gg.res p hr2
            obtain ⟨go, mv⟩ := Go.own (o := .lst (vs ++ [y])) g1.rep (g2.trans gg) hp hr6 hv6
            have ra6 := mv _ _ ((gg.rvs ra2).app (.cons r6 .nil))
            refine ⟨vs, hv6, by rw [← ra2.length]; exact hz, by omega, ρ6, _, acc ++ [yv], vs ++ [y], go.trim, hr6, upd_same, ra6.trim go.len (Nat.le_refl _), e2⟩
          rcases hc with ⟨rfl, rfl⟩ | ⟨ce, rfl, hc⟩
          · have e4' : Res.ok (D.bl true) s3 = Res.ok cv s4 := by simpa [ev] using e4
            cases e4'
            simp only [bTs, tYes, if_true]
            exact body ρ4 H4 (Go.refl g4.rep)
          · intro s0 H0 C cl fp
            refine hc (G.blk cold hk s0 H0 C cl fp) e4 ht re4 g4.rep fun ρ5 H5 g5 => ?_
            rw [if_pos rfl]
            exact body ρ5 H5 g5
        · cases e2
      · rename_i ht
        rcases hc with ⟨rfl, rfl⟩ | ⟨ce, rfl, hc⟩
        · have e4' : Res.ok (D.bl true) s3 = Res.ok cv s4 := by simpa [ev] using e4
          cases e4'
          cases ht
        · intro s0 H0 C cl fp
          refine hc (G.blk cold hk s0 H0 C cl fp) e4 ht re4 g4.rep fun ρ5 H5 g5 => ?_
          rw [if_neg Bool.false_ne_true]
          have gg := (g3.trans g4).trans g5
          have go := g2.trans gg
          exact ⟨by omega, ρ5, _, acc, vs, go.trim, gg.res p hr2, by rw [gg.kr p hr2]; exact hv2, (gg.rvs ra2).trim go.len (Nat.le_refl _), e2⟩
      · cases e2
    · cases e2
  · left
    rw [List.drop_eq_nil_of_le (by omega)] at e2
    simp only [lcLoop] at e2
    split at e2
    · rename_i hs
      cases e2
      refine ⟨W1.stop i ρ2 st' H2 g2 hs (by omega), q _ (ρ2.free p) H2 (g1.trans (Go.free g1.rep g2 hp)) ?_⟩
      refine .lst hv2 ?_ ra2.free
      rintro (z | ⟨k, ys, z, e⟩)
      · exact z.2 rfl
      · have e' : ρ2 k = p := e
        exact g2.rep.nr k ys z (by rw [e']; exact hr2)
    · cases e2

/-- no set is walked -/
theorem folded {e : Expr} (h : nset e = true) (env : PySem.Env) (x : Value) : foldedSetIterable e env x = pure x := by
  cases e <;> first | rfl | cases h
theorem pg_b {X : Cx} {scope : Scope} {tg : Expr} (s : Shared) (H : Hp) (C : Addr) (cl : List (Str × Addr)) (fp : List Addr) : PG (X.blk s H scope (compEnvC scope cl C X.env) fp) tg (bG X scope tg) := ⟨fun pins s' σ H' v u Q I r h => h s H C cl fp pins s' u I r⟩
theorem pe_b {X : Cx} {scope : Scope} {e : Expr} (s : Shared) (H : Hp) (C : Addr) (cl : List (Str × Addr)) (fp : List Addr) : PE (X.blk s H scope (compEnvC scope cl C X.env) fp) e (bE X scope e) := ⟨fun pins s' σ H' Q I h => h s H C cl fp pins s' I⟩
theorem pt_b {X : Cx} {scope : Scope} {e : Expr} (s : Shared) (H : Hp) (C : Addr) (cl : List (Str × Addr)) (fp : List Addr) : PT (X.blk s H scope (compEnvC scope cl C X.env) fp) e (bT X scope e) := ⟨fun pins s' σ H' Q I h => h s H C cl fp pins s' I⟩
theorem pts_b {X : Cx} {Γ' : Ctx} {scope : Scope} {ifs : List Expr} {c : E} (hc : SimTs Γ' ifs c) (s : Shared) (H : Hp) (C : Addr) (cl : List (Str × Addr)) (fp : List Addr) : PTs (X.blk s H scope (compEnvC scope cl C X.env) fp) ifs (bTs X scope ifs) := by
  rcases hc with ⟨rfl, _⟩ | ⟨e, rfl, _⟩
  · exact pts_nil
  · exact pts_one (pt_b s H C cl fp)
theorem sim_comp {tg iter elt : Expr} {ifs : List Expr} {scope : Scope} {pos : Pos} {own : List (Str × Nat)} {t : Tg} {it : It} {c e : E} (cold : Γ.hot = false) (ok : BlkOk Γ.N Γ.sc scope own) (ho : own.map (·.2) = t.slots) (hn : nset iter = true)
    (hi : SimI Γ tg iter it) (hg : SimG (Γ.blk scope) tg t) (hc : SimTs (Γ.blk scope) ifs c) (he : SimE (Γ.blk scope) elt e) : SimE Γ (.ListComp elt [⟨tg, iter, ifs, 0⟩] scope pos) (.comp t it c e) := by
  intro n X z G env st d st' ρ σ H Q h re rp q
  refine TW.of (pe_lc (own := own) (G.calm cold).1 (by rw [G.N]; exact G.nd) pi_w (by rw [G.N, G.sc]; exact ok) pg_b (pts_b hc) pe_b (folded hn _)) ?_
  rw [ho]
  exact comp_core G cold ok.kind hi hg hc he h re rp q

theorem sim_lc {tg iter elt : Expr} {ifs : List Expr} {scope : Scope} {pos : Pos} {own : List (Str × Nat)} {t : Tg} {it : It} {c e : E} (cold : Γ.hot = false) (ok : BlkOk Γ.N Γ.sc scope own) (ho : own.map (·.2) = t.slots) (hn : nset iter = true)
    (hi : SimI Γ tg iter it) (hg : SimG (Γ.blk scope) tg t) (hc : SimTs (Γ.blk scope) ifs c) (he : SimE (Γ.blk scope) elt e) : SimE Γ (.ListComp elt [⟨tg, iter, ifs, 0⟩] scope pos) (.lc t it c e) := by
  intro n X z G env st d st' ρ σ H Q h re rp q
  refine TW.of (pe_lc (own := own) (G.calm cold).1 (by rw [G.N]; exact G.nd) pi_w (by rw [G.N, G.sc]; exact ok) pg_b (pts_b hc) pe_b (folded hn _)) ?_
  rw [ho]
  exact lc_core G cold ok.kind hi hg hc he h re rp q

/-! ### statements -/
/-- where a def's own statements run -/
structure GoodT (X : Cx) (W : WX) : Prop where
  stk : X.stack = X.env :: X.outer
  frm : X.env.frame = some X.env.locals
  pass : PassesOwn (model X.prog X.w) X.A X.env X.xe
  tk : L2N.Takes X W
def XcOk (Γ : Ctx) (X : Cx) (z : Hz) (W : WX) (ρ : Pl) (st : Sto) (H : Hp) (f : Fl) (st' : Sto) : Prop := ∀ y env', f = .xc y env' → Γ.hot = false ∧ ∀ σ' ρ' H' cls dd, Go (kx X z) ρ st H ρ' st' H' → REnv (kx X z) ρ' st' H' env' σ' → RX X.mg Γ.xs.exs (kx X z) ρ' st' H' y cls dd → W cls dd σ' H'
theorem XcOk.go {X : Cx} {z : Hz} {W : WX} {ρ ρ1 : Pl} {st st1 : Sto} {H H1 : Hp} {f : Fl} {st' : Sto} (q : XcOk Γ X z W ρ st H f st') (g : Go (kx X z) ρ st H ρ1 st1 H1) : XcOk Γ X z W ρ1 st1 H1 f st' := fun y env' e =>
  ⟨(q y env' e).1, fun σ' ρ' H' cls dd g' r x => (q y env' e).2 σ' ρ' H' cls dd (g.trans g') r x⟩
theorem XcOk.nx {X : Cx} {z : Hz} {W : WX} {ρ : Pl} {st : Sto} {H : Hp} {env : Env} {st' : Sto} : XcOk Γ X z W ρ st H (.nx env) st' := fun _ _ e => nomatch e
theorem XcOk.rt {X : Cx} {z : Hz} {W : WX} {ρ : Pl} {st : Sto} {H : Hp} {d : D} {st' : Sto} : XcOk Γ X z W ρ st H (.rt d) st' := fun _ _ e => nomatch e
def SimS (Γ : Ctx) (c : Stmt) (i : S) : Prop := ∀ {n : Nat} {X : Cx} {z : Hz}, Good Γ n X z → ∀ {W : WX}, GoodT X W → ∀ {env : Env} {st : Sto} {f : Fl} {st' : Sto} {ρ : Pl} {σ : St} {H : Hp} {D : Ends},
  evS Γ.gl (Γ.run n) i env st = .ok f st' → REnv (kx X z) ρ st H env σ → Rep (kx X z) ρ H st →
  (∀ env' σ' ρ' H', f = .nx env' → Go (kx X z) ρ st H ρ' st' H' → REnv (kx X z) ρ' st' H' env' σ' → D.nx σ' H') →
  (∀ d v ρ' H', f = .rt d → Go (kx X z) ρ st H ρ' st' H' → RV (kx X z) ρ' st' H' d v → D.rt v H') → XcOk Γ X z W ρ st H f st' → TWS X c D σ H
def SimSs (Γ : Ctx) (cs : List Stmt) (is : Ss) : Prop := ∀ {n : Nat} {X : Cx} {z : Hz}, Good Γ n X z → ∀ {W : WX}, GoodT X W → ∀ {env : Env} {st : Sto} {f : Fl} {st' : Sto} {ρ : Pl} {σ : St} {H : Hp} {D : Ends},
  evSs Γ.gl (Γ.run n) is env st = .ok f st' → REnv (kx X z) ρ st H env σ → Rep (kx X z) ρ H st →
  (∀ env' σ' ρ' H', f = .nx env' → Go (kx X z) ρ st H ρ' st' H' → REnv (kx X z) ρ' st' H' env' σ' → D.nx σ' H') →
  (∀ d v ρ' H', f = .rt d → Go (kx X z) ρ st H ρ' st' H' → RV (kx X z) ρ' st' H' d v → D.rt v H') → XcOk Γ X z W ρ st H f st' → TWSs X cs D σ H
theorem sims_nil : SimSs Γ [] .nil := by
  intro n X z G W T env st f st' ρ σ H D h re rp q1 q2 q3
  have h' : Res.ok (Fl.nx env) st = Res.ok f st' := by simpa [evSs] using h
  cases h'
  exact TWSs.of pss_nil (q1 env σ ρ H rfl (Go.refl rp) re)
theorem sims_cons {c : Stmt} {cs : List Stmt} {i : S} {is : Ss} (h1 : SimS Γ c i) (h2 : SimSs Γ cs is) : SimSs Γ (c :: cs) (.cons i is) := by
  intro n X z G W T env st f st' ρ σ H D h re rp q1 q2 q3
  simp only [evSs] at h
  obtain ⟨f1, s1, e1, h⟩ := Res.bind_eq_ok h
  refine TWSs.of (pss_cons ps_w pss_w) (h1 G T e1 re rp (fun env' σ' ρ' H' ef g r => ?_) (fun d v ρ' H' ef g r => ?_) fun y env' ef => ?_)
  · subst ef
    exact h2 G T h r g.rep (fun env2 σ2 ρ2 H2 ef2 g2 r2 => q1 env2 σ2 ρ2 H2 ef2 (g.trans g2) r2) (fun d v ρ2 H2 ef2 g2 r2 => q2 d v ρ2 H2 ef2 (g.trans g2) r2) (q3.go g)
  · subst ef
    have h' : Res.ok (Fl.rt d) s1 = Res.ok f st' := h
    cases h'
    exact q2 d v ρ' H' rfl g r
  · subst ef
    have h' : Res.ok (Fl.xc y env') s1 = Res.ok f st' := h
    cases h'
    exact q3 y env' rfl
theorem thn_inv {α : Type} {r : Res α} {env : Env} {k : α → Sto → Res Fl} {f : Fl} {st' : Sto} (h : r.thn env k = .ok f st') : (∃ a st, r = .ok a st ∧ k a st = .ok f st') ∨ ∃ y, r = .exc y st' ∧ f = .xc y env := by
  cases r with
  | ok a st => exact .inl ⟨a, st, rfl, h⟩
  | exc y st =>
    have h' : Res.ok (Fl.xc y env) st = Res.ok f st' := h
    cases h'
    exact .inr ⟨y, rfl, rfl⟩
  | bad => cases h
/-- an expression raises, within a statement -/
theorem xc_of {n : Nat} {X : Cx} {z : Hz} (G : Good Γ n X z) {W : WX} (T : GoodT X W) {e : Expr} {i : E} (hx : SimX Γ e i) {env : Env} {st : Sto} {y : Exn} {st' : Sto} {ρ : Pl} {σ : St} {H : Hp} {Q : VK} (h : ev Γ.gl (Γ.run n) i env st = .exc y st')
    (re : REnv (kx X z) ρ st H env σ) (rp : Rep (kx X z) ρ H st) (q : XcOk Γ X z W ρ st H (.xc y env) st') : TW X e σ H Q :=
  hx (q y env rfl).1 G T.tk h re rp fun cls dd ρ' H' g r => (q y env rfl).2 σ ρ' H' cls dd g (re.move g) r
theorem s_skip {pos : Pos} : SimS Γ (.Pass pos) .skip := by
  intro n X z G W T env st f st' ρ σ H D h re rp q1 q2 q3
  have h' : Res.ok (Fl.nx env) st = Res.ok f st' := by simpa [evS] using h
  cases h'
  exact TWS.of ps_pass (q1 env σ ρ H rfl (Go.refl rp) re)
theorem sims_frz {cs : List Stmt} {is : Ss} {i : Nat} (h2 : SimSs Γ cs is) : SimSs Γ cs (.cons (.frz i) is) := by
  intro n X z G W T env st f st' ρ σ H D h re rp q1 q2 q3
  simp only [evSs, evS] at h
  obtain ⟨f1, s1, e1, h⟩ := Res.bind_eq_ok h
  unfold frzV at e1
  split at e1
  · rename_i m hi
    split at e1
    · rename_i xs hx
      cases e1
      have g := Go.stop rp hx
      exact h2 G T h (re.frz rp hi hx) g.rep (fun env2 σ2 ρ2 H2 ef2 g2 r2 => q1 env2 σ2 ρ2 H2 ef2 (g.trans g2) r2) (fun d v ρ2 H2 ef2 g2 r2 => q2 d v ρ2 H2 ef2 (g.trans g2) r2) (q3.go g)
    · cases e1
  · cases e1
/-! two walks in one comprehension -/
def bI (X : Cx) (scope : Scope) (tg iter : Expr) : TI := fun σ H R => ∀ s0 H0 C cl fp, TWI (X.blk s0 H0 scope (compEnvC scope cl C X.env) fp) tg iter σ H R
theorem pi_b {X : Cx} {scope : Scope} {tg e : Expr} (s : Shared) (H : Hp) (C : Addr) (cl : List (Str × Addr)) (fp : List Addr) : PI (X.blk s H scope (compEnvC scope cl C X.env) fp) tg e (bI X scope tg e) := ⟨fun pins s' σ H' R I h => h s H C cl fp pins s' I⟩
theorem two_core {n : Nat} {X : Cx} {z : Hz} (G : Good Γ n X z) (cold : Γ.hot = false) {tg iter tg1 iter1 elt : Expr} {scope : Scope} {t u : Tg} {it iu : It} {e : E} (hk : scope.kind = .function)
    (hi : SimI Γ tg iter it) (hg : SimG (Γ.blk scope) tg t) (hi1 : SimI (Γ.blk scope) tg1 iter1 iu) (hg1 : SimG (Γ.blk scope) tg1 u) (he : SimE (Γ.blk scope) elt e)
    {env : Env} {st : Sto} {d : D} {st' : Sto} {ρ : Pl} {σ : St} {H : Hp} {Q : VK} (h : ev Γ.gl (Γ.run n) (.comp2 t it u iu e) env st = .ok d st') (re : REnv (kx X z) ρ st H env σ) (rp : Rep (kx X z) ρ H st)
    (q : ∀ v ρ' H', Go (kx X z) ρ st H ρ' st' H' → RV (kx X z) ρ' st' H' d v → Q v H') :
    tLc2 (TWI X tg iter) (bG X scope tg) tYes (bI X scope tg1 iter1) (bG X scope tg1) tYes (bE X scope elt) (t.slots ++ u.slots) u.slots σ H Q := by
  simp only [ev] at h
  obtain ⟨r, s1, e1, h⟩ := Res.bind_eq_ok h
  obtain ⟨_, s2, e2, h⟩ := Res.bind_eq_ok h
  cases h
  refine hi G e1 re rp fun J ρ1 H1 g1 W1 => ?_
  intro p hp
  have gn := Go.newL (ds := []) (vs := []) g1.rep hp .nil
  let B : Pl → Sto → Hp → Prop := fun ρ2 s2 H2 => Go (kx X z) (put ρ1 s1.length p) (s1 ++ [.lst []]) (upd H1 p (.lst [])) ρ2 s2 H2
  let outer (ys : List D) (s : Sto) : Prop := out2Loop (asg Γ.gl (Γ.run n) t) (evI Γ.gl (Γ.run n) iu) (asg Γ.gl (Γ.run n) u) (ev Γ.gl (Γ.run n) e) (fun e => wipeE e u.slots) r.1 s1.length (wipeE env (t.slots ++ u.slots)) ys s = .ok () st'
  refine ⟨fun i m H2 => m = r.2.length - i ∧ i ≤ r.2.length ∧ ∃ ρ2 s2', B ρ2 s2' H2 ∧ outer (r.2.drop i) s2', ⟨r.2.length, by simp, by omega, put ρ1 s1.length p, _, Go.refl gn.rep, by simpa [outer] using e2⟩, ?_⟩
  rintro i m H2 ⟨rfl, hi', ρ2, s2', g2, e2⟩
  by_cases hlt : i < r.2.length
  · right
    have hx : r.2[i]? = some r.2[i] := List.getElem?_eq_getElem hlt
    rw [List.drop_eq_getElem_cons hlt] at e2
    simp only [outer, out2Loop] at e2
    split at e2
    · rename_i hs
      obtain ⟨env1, s3, e3, e2⟩ := Res.bind_eq_ok e2
      obtain ⟨r1, s4, e4, e2⟩ := Res.bind_eq_ok e2
      obtain ⟨_, s5, e5, e2⟩ := Res.bind_eq_ok e2
      obtain ⟨hgo, hy⟩ := W1.item i ρ2 s2' H2 _ (gn.trans g2) hs hx
      refine ⟨hgo, fun H9 => i + 1 ≤ r.2.length ∧ ∃ ρ2 s2', B ρ2 s2' H9 ∧ outer (r.2.drop (i + 1)) s2', fun H9 ⟨h1, h2⟩ => ⟨r.2.length - (i + 1), by omega, rfl, h1, h2⟩, fun x H3 hx3 => ?_⟩
      obtain ⟨g3, r3, _⟩ := hy x H3 hx3
      intro s0 H0 C cl fp
      have Gb := G.blk cold hk s0 H0 C cl fp
      have rew : REnv (kx X z) ρ2 s2' H3 (wipeE env (t.slots ++ u.slots)) (wipe σ (t.slots ++ u.slots)) := (re.move ((((g1.trans gn).trans g2)).trans g3)).wipe _
      refine hg Gb e3 rew g3.rep r3 fun σ4 ρ4 H4 g4 re4 l4 s4' => ⟨?_, ?_⟩
      · rw [wipe_same l4 (fun k hk => s4' k fun z => hk (List.mem_append_left _ z)), wipe_wipe]
      simp only [tYes, if_true]
      intro s0 H0 C cl fp
      refine hi1 (G.blk cold hk s0 H0 C cl fp) e4 re4 g4.rep fun J1 ρ5 H5 g5 W5 => ?_
      have g25 : Go (kx X z) ρ2 s2' H2 ρ5 s4 H5 := (g3.trans g4).trans g5
      let inner (ys : List D) (s : Sto) : Prop := in2Loop (asg Γ.gl (Γ.run n) u) (ev Γ.gl (Γ.run n) e) r1.1 s1.length s4.length (wipeE env1 u.slots) ys s = .ok () s5
      refine ⟨fun j k H6 => k = r1.2.length - j ∧ j ≤ r1.2.length ∧ ∃ ρ6 s6, Go (kx X z) ρ5 s4 H5 ρ6 s6 H6 ∧ inner (r1.2.drop j) s6, ⟨r1.2.length, by simp, by omega, ρ5, s4, Go.refl g5.rep, by simpa [inner] using e5⟩, ?_⟩
      rintro j k H6 ⟨rfl, hj', ρ6, s6, g6, e6⟩
      by_cases hlu : j < r1.2.length
      · right
        have hxu : r1.2[j]? = some r1.2[j] := List.getElem?_eq_getElem hlu
        rw [List.drop_eq_getElem_cons hlu] at e6
        simp only [inner, in2Loop] at e6
        split at e6
        · rename_i hsu
          obtain ⟨env7, s7, e7, e6⟩ := Res.bind_eq_ok e6
          obtain ⟨yv, s8, e8, e6⟩ := Res.bind_eq_ok e6
          obtain ⟨hgo1, hy1⟩ := W5.item j ρ6 s6 H6 _ g6 hsu hxu
          refine ⟨hgo1, fun H9 => j + 1 ≤ r1.2.length ∧ ∃ ρ6 s6, Go (kx X z) ρ5 s4 H5 ρ6 s6 H9 ∧ inner (r1.2.drop (j + 1)) s6, fun H9 ⟨h1, h2⟩ => ⟨r1.2.length - (j + 1), by omega, rfl, h1, h2⟩, fun y H7 hx7 => ?_⟩
          obtain ⟨g7, r7, _⟩ := hy1 y H7 hx7
          intro s0 H0 C cl fp
          have rew7 : REnv (kx X z) ρ6 s6 H7 (wipeE env1 u.slots) (wipe σ4 u.slots) := (re4.move ((g5.trans g6).trans g7)).wipe _
          refine hg1 (G.blk cold hk s0 H0 C cl fp) e7 rew7 g7.rep r7 fun σ8 ρ8 H8 g8 re8 l8 s8' => ⟨?_, ?_⟩
          · rw [wipe_same l8 s8', wipe_wipe]
          simp only [tYes, if_true]
          intro s0 H0 C cl fp
          split at e6
          · rename_i s9 e9
            obtain ⟨xs, zs, f1, f2, f3, rfl⟩ := setL_ok e9
            cases f2
            refine he (G.blk cold hk s0 H0 C cl fp) e8 re8 g8.rep fun z ρ9 H9 g9 r9 => ?_
            obtain ⟨vs, k1, k2⟩ := g9.rep.lst s1.length xs f1
            have g69 := ((g7.trans g8).trans g9)
            have gs := Go.setL g9.rep f1 k1 (k2.app (.cons r9 .nil))
            have gg := (g2.trans g25).trans (g6.trans g69)
            have ep : ρ9 s1.length = p := by rw [gg.rho s1.length (by simp)]; exact put_same
            rw [ep] at k1 gs
            exact ⟨vs, k1, by rw [← k2.length]; simp at f3; omega, by omega, ρ9, _, ((g6.trans g69).trans gs).trim, e6⟩
          · cases e6
        · cases e6
      · left
        rw [List.drop_eq_nil_of_le (by omega)] at e6
        simp only [inner, in2Loop] at e6
        split at e6
        · rename_i hsu
          cases e6
          refine ⟨W5.stop j ρ6 _ H6 g6 hsu (by omega), by omega, ρ6, _, ?_, e2⟩
          have z := Go.trim (t := 0) (g2.trans (g25.trans g6))
          rw [List.length_append] at z
          exact z
        · cases e6
    · cases e2
  · left
    rw [List.drop_eq_nil_of_le (by omega)] at e2
    simp only [outer, out2Loop] at e2
    split at e2
    · rename_i hs
      cases e2
      refine ⟨W1.stop i ρ2 st' H2 (gn.trans g2) hs (by omega), q _ ρ2 H2 ((g1.trans gn).trans g2) ?_⟩
      have z := g2.rv (d := .ref s1.length) (v := .ref p) RV.last
      exact z
    · cases e2
theorem sim_two {tg iter tg1 iter1 elt : Expr} {scope : Scope} {pos : Pos} {own : List (Str × Nat)} {t u : Tg} {it iu : It} {e : E} (cold : Γ.hot = false) (ok : BlkOk Γ.N Γ.sc scope own) (ho : own.map (·.2) = t.slots ++ u.slots) (hn : nset iter = true) (hn1 : nset iter1 = true)
    (hi : SimI Γ tg iter it) (hg : SimG (Γ.blk scope) tg t) (hi1 : SimI (Γ.blk scope) tg1 iter1 iu) (hg1 : SimG (Γ.blk scope) tg1 u) (he : SimE (Γ.blk scope) elt e) : SimE Γ (.ListComp elt [⟨tg, iter, [], 0⟩, ⟨tg1, iter1, [], 0⟩] scope pos) (.comp2 t it u iu e) := by
  intro n X z G env st d st' ρ σ H Q h re rp q
  refine TW.of (pe_lc2 (own := own) (vs1 := u.slots) (G.calm cold).1 (by rw [G.N]; exact G.nd) pi_w (by rw [G.N, G.sc]; exact ok) (fun i hi => by rw [ho]; exact List.mem_append_right _ hi) pg_b (fun _ _ _ _ _ => pts_nil) pi_b pg_b (fun _ _ _ _ _ => pts_nil) pe_b (folded hn _) (fun env x => folded hn1 env x)) ?_
  rw [ho]
  exact two_core G cold ok.kind hi hg hi1 hg1 he h re rp q

theorem s_never {c : Stmt} : SimS Γ c .never := by
  intro n X z G W T env st f st' ρ σ H D h re rp q1 q2 q3
  simp [evS] at h
/-- no comprehension -/
def ncomp : Expr → Bool
  | .ListComp _ _ _ _ => false
  | .SetComp _ _ _ _ => false
  | .DictComp _ _ _ _ _ => false
  | _ => true
theorem swaps_no {e : Expr} (h : ncomp e = true) (t : Option Expr) (l : Nat) (env : PySem.Env) : swapsWith e t l env = pure false := by
  cases e <;> first | rfl | cases h
theorem s_ex {e : Expr} {i : E} {pos : Pos} (hc : ncomp e = true) (h1 : SimE Γ e i) (hx : SimX Γ e i) : SimS Γ (.Expr e pos) (.ex i) := by
  intro n X z G W T env st f st' ρ σ H D h re rp q1 q2 q3
  simp only [evS] at h
  rcases thn_inv h with ⟨x, s1, e1, h⟩ | ⟨y, e1, rfl⟩
  rotate_left
  · exact TWS.of (ps_expr pe_w (swaps_no hc _ _ _)) (xc_of G T hx e1 re rp q3)
  cases h
  exact TWS.of (ps_expr pe_w (swaps_no hc _ _ _)) (h1 G e1 re rp fun v ρ1 H1 g1 r1 => q1 env σ ρ1 H1 rfl g1 (re.move g1))
theorem s_ret {e : Expr} {i : E} {pos : Pos} (h1 : SimE Γ e i) (hx : SimX Γ e i) : SimS Γ (.Return (some e) pos) (.ret i) := by
  intro n X z G W T env st f st' ρ σ H D h re rp q1 q2 q3
  simp only [evS] at h
  rcases thn_inv h with ⟨x, s1, e1, h⟩ | ⟨y, e1, rfl⟩
  rotate_left
  · exact TWS.of (ps_ret pe_w) (xc_of G T hx e1 re rp q3)
  cases h
  exact TWS.of (ps_ret pe_w) (h1 G e1 re rp fun v ρ1 H1 g1 r1 => q2 _ v ρ1 H1 rfl g1 r1)
theorem s_retN {pos : Pos} : SimS Γ (.Return none pos) (.ret (.k .non)) := by
  intro n X z G W T env st f st' ρ σ H D h re rp q1 q2 q3
  simp only [evS, ev, Res.thn_ok] at h
  cases h
  exact TWS.of ps_retN (q2 _ _ ρ H rfl (Go.refl rp) .non)
theorem s_ife {c : Expr} {a b : List Stmt} {i : E} {x y : Ss} {pos : Pos} (h0 : SimT Γ c i) (h1 : SimSs Γ a x) (h2 : SimSs Γ b y) : SimS Γ (.If c a b pos) (.ife i x y) := by
  intro n X z G W T env st f st' ρ σ H D h re rp q1 q2 q3
  simp only [evS] at h
  obtain ⟨d, s1, e1, h⟩ := Res.bind_eq_ok h
  unfold br at h
  split at h
  · rename_i hb
    refine TWS.of (ps_if pt_w pss_w pss_w) (h0 G e1 hb re rp fun ρ1 H1 g1 => ?_)
    rw [if_pos rfl]
    exact h1 G T h (re.move g1) g1.rep (fun env2 σ2 ρ2 H2 ef2 g2 r2 => q1 env2 σ2 ρ2 H2 ef2 (g1.trans g2) r2) (fun d v ρ2 H2 ef2 g2 r2 => q2 d v ρ2 H2 ef2 (g1.trans g2) r2) (q3.go g1)
  · rename_i hb
    refine TWS.of (ps_if pt_w pss_w pss_w) (h0 G e1 hb re rp fun ρ1 H1 g1 => ?_)
    rw [if_neg Bool.false_ne_true]
    exact h2 G T h (re.move g1) g1.rep (fun env2 σ2 ρ2 H2 ef2 g2 r2 => q1 env2 σ2 ρ2 H2 ef2 (g1.trans g2) r2) (fun d v ρ2 H2 ef2 g2 r2 => q2 d v ρ2 H2 ef2 (g1.trans g2) r2) (q3.go g1)
  · cases h
/-- a value that is no tuple display -/
def ntup : Expr → Bool
  | .Tuple _ _ _ => false
  | _ => true
theorem stores_no1 {t e : Expr} (h : ntup e = true) (env : PySem.Env) : swappedStores [t] e env = pure none := by
  cases e <;> first | (cases h; done) | (cases t <;> rfl)
theorem stores_no2 {x : Str} {p : Pos} {e : Expr} (env : PySem.Env) : swappedStores [.Name x p] e env = pure none := by
  cases e <;> rfl
theorem stores_no3 {o i : Expr} {p : Pos} {e : Expr} (env : PySem.Env) : swappedStores [.Subscript o i p] e env = pure none := by
  cases e <;> rfl
theorem s_asg {tg e : Expr} {t : Tg} {i : E} {pos : Pos} (ht : star tg = false) (hw : ∀ env : PySem.Env, env.scope = Γ.sc → swappedStores [tg] e env = pure none) (hc : ncomp e = true) (h1 : SimE Γ e i) (hx : SimX Γ e i) (h2 : SimG Γ tg t) : SimS Γ (.Assign [tg] e pos) (.asg t i) := by
  intro n X z G W T env st f st' ρ σ H D h re rp q1 q2 q3
  simp only [evS] at h
  rcases thn_inv h with ⟨x, s1, e1, h⟩ | ⟨y, e1, rfl⟩
  rotate_left
  · exact TWS.of (ps_asg pe_w pg_w (swaps_no hc _ _ _) (hw _ G.sc) (by rw [assignEach_cons ht]; rfl)) (xc_of G T hx e1 re rp q3)
  obtain ⟨env1, s2, e2, h⟩ := Res.bind_eq_ok h
  cases h
  refine TWS.of (ps_asg pe_w pg_w (swaps_no hc _ _ _) (hw _ G.sc) (by rw [assignEach_cons ht]; rfl)) (h1 G e1 re rp fun v ρ1 H1 g1 r1 => ?_)
  exact h2 G e2 (re.move g1) g1.rep r1 fun σ' ρ' H' g r _ _ => q1 env1 σ' ρ' H' rfl (g1.trans g) r
theorem sw_false {elt : Expr} {gs : List Comprehension} {scope : Scope} {pos py : Pos} {y : Str} {l : Nat} {env : PySem.Env} (h : (decide (env.scope.names.lookup y = some .local) && (py.line == pos.line) && !(scope.names.any fun (n, k) => n == y && (k == .local || k == .cell))) = false) :
    swapsWith (.ListComp elt gs scope pos) (some (.Name y py)) l env = pure false := by
  have ky : env.kindOf y = env.scope.names.lookup y := rfl
  have hd : (env.scope.names.lookup y == some NameKind.local) = decide (env.scope.names.lookup y = some .local) := by
    by_cases q : env.scope.names.lookup y = some .local
    · rw [q]; rfl
    · rw [decide_eq_false q]; exact beq_eq_false_iff_ne.mpr q
  unfold swapsWith
  simp only [ky, hd, Expr.pos]
  show pure _ = pure false
  congr 1
  rw [← h]
  cases env.blockKind == .function <;> simp_all [Bool.and_assoc]
theorem comp_noX {t : Tg} {it : It} {c e : E} {gl : List D} {cf : CallF} {env : Env} {st : Sto} {y : Exn} {st' : Sto} : ev gl cf (.comp t it c e) env st ≠ .exc y st' := by
  intro h
  simp only [ev] at h
  obtain ⟨_, _, _, h⟩ := Res.bind_eq_exc h
  obtain ⟨_, _, _, h⟩ := Res.bind_eq_exc h
  cases h
theorem lc_noX {t : Tg} {it : It} {c e : E} {gl : List D} {cf : CallF} {env : Env} {st : Sto} {y : Exn} {st' : Sto} : ev gl cf (.lc t it c e) env st ≠ .exc y st' := by
  intro h
  simp only [ev] at h
  obtain ⟨_, _, _, h⟩ := Res.bind_eq_exc h
  obtain ⟨_, _, _, h⟩ := Res.bind_eq_exc h
  cases h
theorem s_asgLc0 {y : Str} {py : Pos} {elt : Expr} {gs : List Comprehension} {scope : Scope} {cpos : Pos} {t : Tg} {i : E} {pos : Pos}
    (h : (decide (Γ.sc.names.lookup y = some .local) && (py.line == cpos.line) && !(scope.names.any fun (n, k) => n == y && (k == .local || k == .cell))) = false)
    (h1 : SimE Γ (.ListComp elt gs scope cpos) i) (hx : ∀ {gl cf env st y st'}, ev gl cf i env st ≠ .exc y st') (h2 : SimG Γ (.Name y py) t) : SimS Γ (.Assign [.Name y py] (.ListComp elt gs scope cpos) pos) (.asg t i) := by
  intro n X z G W T env st f st' ρ σ H D h' re rp q1 q2 q3
  simp only [evS] at h'
  rcases thn_inv h' with ⟨x, s1, e1, h'⟩ | ⟨y, e1, rfl⟩
  rotate_left
  · exact absurd e1 hx
  obtain ⟨env1, s2, e2, h'⟩ := Res.bind_eq_ok h'
  cases h'
  refine TWS.of (ps_asg pe_w pg_w (sw_false (l := pos.line) (env := X.env) (by rw [G.sc]; exact h)) (stores_no2 _) (by rw [assignEach_cons rfl]; rfl)) (h1 G e1 re rp fun v ρ1 H1 g1 r1 => ?_)
  exact h2 G e2 (re.move g1) g1.rep r1 fun σ' ρ' H' g r _ _ => q1 env1 σ' ρ' H' rfl (g1.trans g) r
theorem s_asgLc {y : Str} {py : Pos} {j : Nat} {tg iter elt : Expr} {ifs : List Expr} {scope : Scope} {pos spos : Pos} {own : List (Str × Nat)} {t : Tg} {it : It} {c e : E} (cold : Γ.hot = false) (hy : Γ.N[j]? = some y) (hyl : Γ.sc.names.lookup y = some .local) (hl : (py.line == pos.line) = true)
    (ha : (scope.names.any fun (n, k) => n == y && (k == .local || k == .cell)) = false) (ok : BlkOk Γ.N Γ.sc scope own) (ho : own.map (·.2) = t.slots) (hn : nset iter = true)
    (hi : SimI Γ tg iter it) (hg : SimG (Γ.blk scope) tg t) (hc : SimTs (Γ.blk scope) ifs c) (he : SimE (Γ.blk scope) elt e) : SimS Γ (.Assign [.Name y py] (.ListComp elt [⟨tg, iter, ifs, 0⟩] scope pos) spos) (.asg (.nm j) (.comp t it c e)) := by
  intro n X z G W T env st f st' ρ σ H D h re rp q1 q2 q3
  simp only [evS] at h
  rcases thn_inv h with ⟨x, s1, e1, h⟩ | ⟨y, e1, rfl⟩
  rotate_left
  · exact absurd e1 comp_noX
  obtain ⟨env1, s2, e2, h⟩ := Res.bind_eq_ok h
  cases h
  have e2' : Res.ok (env.set j (some x)) s1 = Res.ok env1 st' := by simpa [asg] using e2
  cases e2'
  refine TWS.of (ps_setLc (i := j) (own := own) (G.calm cold).1 (by rw [G.N]; exact G.nd) (by rw [G.N]; exact hy) (by rw [G.sc]; exact hyl) (sw_true (by rw [G.sc]; exact G.kind) (by rw [G.sc]; exact hyl) hl ha) pi_w (by rw [G.N, G.sc]; exact ok) pg_b (pts_b hc) pe_b (folded hn _)) ?_
  rw [ho]
  exact comp_core G cold ok.kind hi hg hc he e1 re rp fun v ρ1 H1 g1 r1 => q1 _ _ ρ1 H1 rfl g1 ((re.move g1).set j r1)
theorem s_asgLv {y : Str} {py : Pos} {j : Nat} {tg iter elt : Expr} {ifs : List Expr} {scope : Scope} {pos spos : Pos} {own : List (Str × Nat)} {t : Tg} {it : It} {c e : E} (cold : Γ.hot = false) (hy : Γ.N[j]? = some y) (hyl : Γ.sc.names.lookup y = some .local) (hl : (py.line == pos.line) = true)
    (ha : (scope.names.any fun (n, k) => n == y && (k == .local || k == .cell)) = false) (ok : BlkOk Γ.N Γ.sc scope own) (ho : own.map (·.2) = t.slots) (hn : nset iter = true)
    (hi : SimI Γ tg iter it) (hg : SimG (Γ.blk scope) tg t) (hc : SimTs (Γ.blk scope) ifs c) (he : SimE (Γ.blk scope) elt e) : SimS Γ (.Assign [.Name y py] (.ListComp elt [⟨tg, iter, ifs, 0⟩] scope pos) spos) (.asg (.nm j) (.lc t it c e)) := by
  intro n X z G W T env st f st' ρ σ H D h re rp q1 q2 q3
  simp only [evS] at h
  rcases thn_inv h with ⟨x, s1, e1, h⟩ | ⟨y, e1, rfl⟩
  rotate_left
  · exact absurd e1 lc_noX
  obtain ⟨env1, s2, e2, h⟩ := Res.bind_eq_ok h
  cases h
  have e2' : Res.ok (env.set j (some x)) s1 = Res.ok env1 st' := by simpa [asg] using e2
  cases e2'
  refine TWS.of (ps_setLc (i := j) (own := own) (G.calm cold).1 (by rw [G.N]; exact G.nd) (by rw [G.N]; exact hy) (by rw [G.sc]; exact hyl) (sw_true (by rw [G.sc]; exact G.kind) (by rw [G.sc]; exact hyl) hl ha) pi_w (by rw [G.N, G.sc]; exact ok) pg_b (pts_b hc) pe_b (folded hn _)) ?_
  rw [ho]
  exact lc_core G cold ok.kind hi hg hc he e1 re rp fun v ρ1 H1 g1 r1 => q1 _ _ ρ1 H1 rfl g1 ((re.move g1).set j r1)
theorem s_two {x y : Str} {i j : Nat} {a b : Expr} {k l : E} {px py pt pt2 pos : Pos} {kt k2 : Nat} (cold : Γ.hot = false) (hi : Γ.N[i]? = some x) (hj : Γ.N[j]? = some y) (hij : i ≠ j) (hx : Γ.sc.names.lookup x = some .local) (hy : Γ.sc.names.lookup y = some .local)
    (hw : ∀ env : PySem.Env, env.scope = Γ.sc → swappedStores [.Tuple [.Name x px, .Name y py] kt pt] (.Tuple [a, b] k2 pt2) env = pure (some [x, y])) (ha : star a = false) (hb : star b = false) (h1 : SimE Γ a k) (h2 : SimE Γ b l) :
    SimS Γ (.Assign [.Tuple [.Name x px, .Name y py] kt pt] (.Tuple [a, b] k2 pt2) pos) (.two i j k l) := by
  intro n X z G W T env st f st' ρ σ H D h re rp q1 q2 q3
  simp only [evS] at h
  obtain ⟨x1, s1, e1, h⟩ := Res.bind_eq_ok h
  obtain ⟨x2, s2, e2, h⟩ := Res.bind_eq_ok h
  cases h
  refine TWS.of (ps_par (i := i) (j := j) (G.calm cold).1 (by rw [G.N]; exact G.nd) (by rw [G.N]; exact hi) (by rw [G.N]; exact hj) hij (by rw [G.sc]; exact hx) (by rw [G.sc]; exact hy) (pa_cons pe_w (pa_cons pe_w pa_nil (starEach_cons hb _ _)) (starEach_cons ha _ _)) (hw _ G.sc) rfl)
    (h1 G e1 re rp fun v ρ1 H1 g1 r1 => h2 G e2 (re.move g1) g1.rep fun u ρ2 H2 g2 r2 => ⟨v, u, rfl, ?_⟩)
  exact q1 _ _ ρ2 H2 rfl (g1.trans g2) (((re.move (g1.trans g2)).set i (g2.rv r1)).set j r2)
def rIp (X : Cx) (op : Operator) : V → V → Hp → VK → Prop := fun v u H Q => ∃ r, PIp X op r ∧ r v u H Q
theorem ipAll {X : Cx} {op : Operator} : PIp X op (rIp X op) := fun pins s σ H x y v u Q I rx ry ⟨r, h, q⟩ => h pins s σ H x y v u Q I rx ry q
/-- name op= e: sums and differences of ints -/
theorem aug_ok {X : Cx} {o : Bin} {x y d : D} {st st' : Sto} {ρ : Pl} {H : Hp} {v u : V} {Q : VK} (h : augD o x y st = .ok d st') (rx : RV (kx X z) ρ st H x v) (ry : RV (kx X z) ρ st H y u) (q : ∀ i, d = .int i → st' = st → Q (.int i) H) : rIp X o.op v u H Q := by
  unfold augD at h
  split at h
  · cases h; cases rx; cases ry
    exact ⟨_, ip_add, _, _, rfl, rfl, q _ rfl rfl⟩
  · cases h; cases rx; cases ry
    exact ⟨_, ip_sub, _, _, rfl, rfl, q _ rfl rfl⟩
  · cases h
theorem s_aug {x : Str} {i : Nat} {e : Expr} {j : E} {o : Bin} {p pos : Pos} (hi : Γ.N[i]? = some x) (hx : Own Γ x) (h1 : SimE Γ e j) : SimS Γ (.AugAssign (.Name x p) o.op e pos) (.aug i o j) := by
  intro n X z G W T env st f st' ρ σ H D h re rp q1 q2 q3
  simp only [evS] at h
  obtain ⟨d0, s0, e0, h⟩ := Res.bind_eq_ok h
  unfold lkV at e0
  split at e0
  · rename_i d0' e0'
    cases e0
    have e0 := e0'
    obtain ⟨y, s1, e1, h⟩ := Res.bind_eq_ok h
    obtain ⟨z, s2, e2, h⟩ := Res.bind_eq_ok h
    cases h
    obtain ⟨v0, k1, k2⟩ := re.get i d0 e0
    refine TWS.of (ps_aug (i := i) (by rw [G.N]; exact G.nd) (by rw [G.N]; exact hi) (by rw [G.sc]; exact hx.loc) pe_w ipAll (hx.fn G)) ⟨v0, k1, h1 G e1 re rp fun v ρ1 H1 g1 r1 => ?_⟩
    refine aug_ok e2 (g1.rv k2) r1 fun k ek es => ?_
    subst ek; subst es
    exact q1 _ _ ρ1 H1 rfl g1 ((re.move g1).set i (.int k))
  · cases e0
theorem augstore_ix {o : Expr} (hi : nslice o = true) (ov iv new : Value) : augStore o ov iv new = (do holding [new, ov, iv] (setItem ov iv new); release [new, ov, iv] []; pure .next) := by
  cases o <;> first | rfl | cases hi
/-- an item of a list, by values -/
theorem get_list {X : Cx} : PGet X (rIxL X.K) := by
  intro pins s σ H o y ov iv Q I ro ry hh
  obtain ⟨p, xs, k, z, rfl, rfl, lies, found, q⟩ := hh
  cases ro
  obtain ⟨tk, rfl⟩ := ry
  obtain ⟨its, vals, pl, short⟩ := I.list lies
  obtain ⟨j, a1, a2, a3, a4, a5⟩ := atI_get found
  obtain ⟨w, ew, rw2⟩ := vals.get a2
  have len := vals.length
  have big := line63
  have done : EP X pins σ Q w s := ⟨z, H, I, rw2, q⟩
  by_cases low : 0 ≤ k
  · have hj : k.toNat = j := by
      rw [seqIndex_of low a5] at a1
      exact Option.some.inj a1
    exact wpAny_getItem_list pl.isList low (by omega) (by rw [hj]; simpa using ew) done
  · have hj : (k + (its.toArray.size : Int)).toNat = j := by
      rw [seqIndex_neg (by omega) a4] at a1
      rw [List.size_toArray, ← len]
      exact Option.some.inj a1
    exact wpAny_getItem_list_neg pl.isList (by omega) (by rw [List.size_toArray] <;> omega) (by omega) (by rw [hj]; simpa using ew) done
theorem s_augIx {o i e : Expr} {a b c : E} {op : Bin} {tpos pos : Pos} (hi : nslice i = true) (h1 : SimE Γ o a) (h2 : SimE Γ i b) (h3 : SimE Γ e c) : SimS Γ (.AugAssign (.Subscript o i tpos) op.op e pos) (.augIx a b op c) := by
  intro n X z G W T env st f st' ρ σ H D h re rp q1 q2 q3
  simp only [evS] at h
  obtain ⟨x, s1, e1, h⟩ := Res.bind_eq_ok h
  obtain ⟨y, s2, e2, h⟩ := Res.bind_eq_ok h
  obtain ⟨v, s3, e3, h⟩ := Res.bind_eq_ok h
  obtain ⟨u, s4, e4, h⟩ := Res.bind_eq_ok h
  obtain ⟨w, s5, e5, h⟩ := Res.bind_eq_ok h
  obtain ⟨env', s6, e8, h⟩ := Res.bind_eq_ok h
  cases h
  unfold putTo at e8
  split at e8
  · rename_i st2 e6
    cases e8
    obtain ⟨m, k, rfl, rfl, e7⟩ := putIx_inv e6
    obtain ⟨xs, ys, f1, f2, f3, rfl⟩ := setL_ok e7
    obtain ⟨j, f4, rfl⟩ := map_some f2
    refine TWS.of (ps_augS pe_w pe_w get_list pe_w ipAll set_list (augstore_ix hi)) (h1 G e1 re rp fun w1 ρ1 H1 g1 r1 => h2 G e2 (re.move g1) g1.rep fun w2 ρ2 H2 g2 r2 => ?_)
    cases r2
    have r1' := g2.rv r1
    simp only [ixD] at e3
    split at e3
    · rename_i zs hs
      split at e3
      · rename_i dd hd
        cases e3
        cases r1' with
        | ref hn =>
          obtain ⟨o', f1', eq'⟩ : ∃ o', s2[m]? = some o' ∧ zs = o'.items := by
            simp only [seqOf, Option.map_eq_some_iff] at hs
            obtain ⟨o', ho, rfl⟩ := hs
            exact ⟨o', ho, rfl⟩
          obtain ⟨vs, hL, hv⟩ := g2.rep.seq f1'
          rw [← eq'] at hv
          obtain ⟨v', h5, h6⟩ := hv.at hd
          refine ⟨_, vs, _, v', rfl, rfl, hL, h5, ?_⟩
          refine h3 G e4 ((re.move g1).move g2) g2.rep fun u' ρ3 H3 g3 r3 => ?_
          refine aug_ok e5 (g3.rv h6) r3 fun q' eq es => ?_
          subst eq; subst es
          obtain ⟨ws, k1, k2⟩ := g3.rep.lst m xs f1
          have hm : ρ3 m = ρ2 m := g3.rho m (List.getElem?_eq_some_iff.mp f1').1
          have gs := Go.setL g3.rep f1 k1 (k2.set (.int q') j)
          refine ⟨_, ws, _, j, rfl, rfl, by rw [← hm]; exact k1, by rw [← k2.length]; exact f4, ?_⟩
          have gg := ((g1.trans g2).trans g3).trans gs
          rw [← hm]
          exact q1 env σ ρ3 _ rfl gg (re.move gg)
      · cases e3
    · cases e3
  · cases e8
/-! ### the body of a loop: `continue` ends a branch -/
def SimSsL (Γ : Ctx) (cs : List Stmt) (is : Ss) : Prop := ∀ {n : Nat} {X : Cx} {z : Hz}, Good Γ n X z → ∀ {W : WX}, GoodT X W → ∀ {env : Env} {st : Sto} {f : Fl} {st' : Sto} {ρ : Pl} {σ : St} {H : Hp} {D : Ends},
  evSs Γ.gl (Γ.run n) is env st = .ok f st' → REnv (kx X z) ρ st H env σ → Rep (kx X z) ρ H st →
  (∀ env' σ' ρ' H', f = .nx env' → Go (kx X z) ρ st H ρ' st' H' → REnv (kx X z) ρ' st' H' env' σ' → D.nx σ' H' ∧ D.ct σ' H') →
  (∀ d v ρ' H', f = .rt d → Go (kx X z) ρ st H ρ' st' H' → RV (kx X z) ρ' st' H' d v → D.rt v H') → XcOk Γ X z W ρ st H f st' → TWSs X cs D σ H
def SimSsC (Γ : Ctx) (cs : List Stmt) (is : Ss) : Prop := ∀ {n : Nat} {X : Cx} {z : Hz}, Good Γ n X z → ∀ {W : WX}, GoodT X W → ∀ {env : Env} {st : Sto} {f : Fl} {st' : Sto} {ρ : Pl} {σ : St} {H : Hp} {D : Ends},
  evSs Γ.gl (Γ.run n) is env st = .ok f st' → REnv (kx X z) ρ st H env σ → Rep (kx X z) ρ H st →
  (∀ env' σ' ρ' H', f = .nx env' → Go (kx X z) ρ st H ρ' st' H' → REnv (kx X z) ρ' st' H' env' σ' → D.ct σ' H') →
  (∀ d v ρ' H', f = .rt d → Go (kx X z) ρ st H ρ' st' H' → RV (kx X z) ρ' st' H' d v → D.rt v H') → XcOk Γ X z W ρ st H f st' → TWSs X cs D σ H
theorem simsL_of {cs : List Stmt} {is : Ss} (h : SimSs Γ cs is) : SimSsL Γ cs is := fun {n X z} G {W} T {env st f st' ρ σ H D} e re rp q1 q2 q3 =>
  h G T e re rp (fun a b c d x y w => (q1 a b c d x y w).1) q2 q3
theorem simsC_end {pos : Pos} : SimSsC Γ [.Continue pos] .nil := by
  intro n X z G W T env st f st' ρ σ H D h re rp q1 q2 q3
  have h' : Res.ok (Fl.nx env) st = Res.ok f st' := by simpa [evSs] using h
  cases h'
  exact TWSs.of (pss_one ps_continue) (q1 env σ ρ H rfl (Go.refl rp) re)
theorem simsC_cons {c : Stmt} {cs : List Stmt} {i : S} {is : Ss} (h1 : SimS Γ c i) (h2 : SimSsC Γ cs is) : SimSsC Γ (c :: cs) (.cons i is) := by
  intro n X z G W T env st f st' ρ σ H D h re rp q1 q2 q3
  simp only [evSs] at h
  obtain ⟨f1, s1, e1, h⟩ := Res.bind_eq_ok h
  refine TWSs.of (pss_cons ps_w pss_w) (h1 G T e1 re rp (fun env' σ' ρ' H' ef g r => ?_) (fun d v ρ' H' ef g r => ?_) fun y env' ef => ?_)
  · subst ef
    exact h2 G T h r g.rep (fun env2 σ2 ρ2 H2 ef2 g2 r2 => q1 env2 σ2 ρ2 H2 ef2 (g.trans g2) r2) (fun d v ρ2 H2 ef2 g2 r2 => q2 d v ρ2 H2 ef2 (g.trans g2) r2) (q3.go g)
  · subst ef
    have h' : Res.ok (Fl.rt d) s1 = Res.ok f st' := h
    cases h'
    exact q2 d v ρ' H' rfl g r
  · subst ef
    have h' : Res.ok (Fl.xc y env') s1 = Res.ok f st' := h
    cases h'
    exact q3 y env' rfl
theorem simsL_nil : SimSsL Γ [] .nil := simsL_of sims_nil
theorem simsL_cons {c : Stmt} {cs : List Stmt} {i : S} {is : Ss} (h1 : SimS Γ c i) (h2 : SimSsL Γ cs is) : SimSsL Γ (c :: cs) (.cons i is) := by
  intro n X z G W T env st f st' ρ σ H D h re rp q1 q2 q3
  simp only [evSs] at h
  obtain ⟨f1, s1, e1, h⟩ := Res.bind_eq_ok h
  refine TWSs.of (pss_cons ps_w pss_w) (h1 G T e1 re rp (fun env' σ' ρ' H' ef g r => ?_) (fun d v ρ' H' ef g r => ?_) fun y env' ef => ?_)
  · subst ef
    exact h2 G T h r g.rep (fun env2 σ2 ρ2 H2 ef2 g2 r2 => q1 env2 σ2 ρ2 H2 ef2 (g.trans g2) r2) (fun d v ρ2 H2 ef2 g2 r2 => q2 d v ρ2 H2 ef2 (g.trans g2) r2) (q3.go g)
  · subst ef
    have h' : Res.ok (Fl.rt d) s1 = Res.ok f st' := h
    cases h'
    exact q2 d v ρ' H' rfl g r
  · subst ef
    have h' : Res.ok (Fl.xc y env') s1 = Res.ok f st' := h
    cases h'
    exact q3 y env' rfl
theorem simsL_if {c : Expr} {a cs : List Stmt} {i : E} {x is : Ss} {pos : Pos} (h0 : SimT Γ c i) (h1 : SimSsC Γ a x) (h2 : SimSsL Γ cs is) : SimSsL Γ (.If c a [] pos :: cs) (.cons (.ife i x is) .nil) := by
  intro n X z G W T env st f st' ρ σ H D h re rp q1 q2 q3
  simp only [evSs, evS] at h
  obtain ⟨f1, s2, e0, h⟩ := Res.bind_eq_ok h
  have hf : Res.ok f1 s2 = Res.ok f st' := by
    cases f1 with
    | nx e => simpa [nxt] using h
    | rt d => exact h
    | xc y e => exact h
  cases hf
  obtain ⟨d, s1, e1, h⟩ := Res.bind_eq_ok e0
  unfold br at h
  split at h
  · rename_i hb
    refine TWSs.of (pss_cons (ps_if pt_w pss_w pss_w) pss_w) (h0 G e1 hb re rp fun ρ1 H1 g1 => ?_)
    rw [if_pos rfl]
    exact h1 G T h (re.move g1) g1.rep (fun env2 σ2 ρ2 H2 ef2 g2 r2 => (q1 env2 σ2 ρ2 H2 ef2 (g1.trans g2) r2).2) (fun d v ρ2 H2 ef2 g2 r2 => q2 d v ρ2 H2 ef2 (g1.trans g2) r2) (q3.go g1)
  · rename_i hb
    refine TWSs.of (pss_cons (ps_if pt_w pss_w pss_nil) pss_w) (h0 G e1 hb re rp fun ρ1 H1 g1 => ?_)
    rw [if_neg Bool.false_ne_true]
    exact h2 G T h (re.move g1) g1.rep (fun env2 σ2 ρ2 H2 ef2 g2 r2 => q1 env2 σ2 ρ2 H2 ef2 (g1.trans g2) r2) (fun d v ρ2 H2 ef2 g2 r2 => q2 d v ρ2 H2 ef2 (g1.trans g2) r2) (q3.go g1)
  · cases h
theorem s_for {tg iter : Expr} {body : List Stmt} {t : Tg} {it : It} {b : Ss} {pos : Pos} (cold : Γ.hot = false) (hn : nset iter = true) (hi : SimI Γ tg iter it) (hg : SimG Γ tg t) (hb : SimSsL Γ body b) : SimS Γ (.For tg iter body [] pos) (.for_ t it b) := by
  intro n X z G W T env st f st' ρ σ H D h re rp q1 q2 q3
  simp only [evS] at h
  obtain ⟨r, s1, e1, h⟩ := Res.bind_eq_ok h
  have hp : PassesOwn (model X.prog X.w) X.A X.env X.xe := T.pass
  refine TWS.of (ps_for hp (G.calm cold).1 pi_w pg_w pss_w (folded hn _)) (hi G e1 re rp fun J ρ1 H1 g1 W1 => ?_)
  refine ⟨fun i m σ2 H2 => m = r.2.length - i ∧ i ≤ r.2.length ∧ ∃ ρ2 s2 env2, Go (kx X z) ρ1 s1 H1 ρ2 s2 H2 ∧ REnv (kx X z) ρ2 s2 H2 env2 σ2 ∧
    forLoop (asg Γ.gl (Γ.run n) t) (evSs Γ.gl (Γ.run n) b) r.1 s1.length (r.2.drop i) env2 s2 = .ok f st', ⟨r.2.length, by simp, by omega, ρ1, s1, env, Go.refl g1.rep, re.move g1, by simpa using h⟩, ?_⟩
  rintro i m σ2 H2 ⟨rfl, hi', ρ2, s2, env2, g2, re2, e2⟩
  by_cases hlt : i < r.2.length
  · right
    have hx : r.2[i]? = some r.2[i] := List.getElem?_eq_getElem hlt
    rw [List.drop_eq_getElem_cons hlt] at e2
    simp only [forLoop] at e2
    split at e2
    · rename_i hs
      obtain ⟨env3, s3, e3, e2⟩ := Res.bind_eq_ok e2
      obtain ⟨f4, s4, e4, e2⟩ := Res.bind_eq_ok e2
      obtain ⟨hgo, hy⟩ := W1.item i ρ2 s2 H2 _ g2 hs hx
      refine ⟨hgo, fun σ9 H9 => i + 1 ≤ r.2.length ∧ ∃ ρ2 s2 env2, Go (kx X z) ρ1 s1 H1 ρ2 s2 H9 ∧ REnv (kx X z) ρ2 s2 H9 env2 σ9 ∧
        forLoop (asg Γ.gl (Γ.run n) t) (evSs Γ.gl (Γ.run n) b) r.1 s1.length (r.2.drop (i + 1)) env2 s2 = .ok f st', fun σ9 H9 ⟨h1, h2⟩ => ⟨r.2.length - (i + 1), by omega, rfl, h1, h2⟩, fun x H3 hx3 => ?_⟩
      obtain ⟨g3, r3, _⟩ := hy x H3 hx3
      refine hg G e3 (re2.move g3) g3.rep r3 fun σ4 ρ4 H4 g4 re4 _ _ => ?_
      refine hb G T e4 re4 g4.rep (fun env5 σ5 ρ5 H5 ef g5 re5 => ?_) (fun d v ρ5 H5 ef g5 r5 => ?_) fun y env5 ef => ?_
      · subst ef
        have gg := g2.trans ((g3.trans g4).trans g5)
        exact ⟨⟨by omega, ρ5, _, env5, gg.trim, re5.trim gg.len, e2⟩, ⟨by omega, ρ5, _, env5, gg.trim, re5.trim gg.len, e2⟩⟩
      · subst ef
        have e2' : Res.ok (Fl.rt d) s4 = Res.ok f st' := e2
        cases e2'
        exact q2 d v ρ5 H5 rfl (g1.trans (g2.trans ((g3.trans g4).trans g5))) r5
      · subst ef
        have e2' : Res.ok (Fl.xc y env5) s4 = Res.ok f st' := e2
        cases e2'
        exact q3.go (g1.trans (g2.trans (g3.trans g4))) y env5 rfl
    · cases e2
  · left
    rw [List.drop_eq_nil_of_le (by omega)] at e2
    simp only [forLoop] at e2
    split at e2
    · rename_i hs
      cases e2
      exact ⟨W1.stop i ρ2 _ H2 g2 hs (by omega), q1 env2 σ2 ρ2 H2 rfl (g1.trans g2) re2⟩
    · cases e2
theorem s_three {x y z : Str} {i j l : Nat} {a b c : Expr} {ka kb kc : E} {px py pz pt pt2 pos : Pos} {kt k2 : Nat} (cold : Γ.hot = false) (hi : Γ.N[i]? = some x) (hj : Γ.N[j]? = some y) (hl : Γ.N[l]? = some z) (hij : i ≠ j) (hil : i ≠ l) (hjl : j ≠ l)
    (hx : Γ.sc.names.lookup x = some .local) (hy : Γ.sc.names.lookup y = some .local) (hz : Γ.sc.names.lookup z = some .local)
    (hw : ∀ env : PySem.Env, env.scope = Γ.sc → swappedStores [.Tuple [.Name x px, .Name y py, .Name z pz] kt pt] (.Tuple [a, b, c] k2 pt2) env = pure (some [x, y, z])) (ha : star a = false) (hb : star b = false) (hc : star c = false)
    (h1 : SimE Γ a ka) (h2 : SimE Γ b kb) (h3 : SimE Γ c kc) : SimS Γ (.Assign [.Tuple [.Name x px, .Name y py, .Name z pz] kt pt] (.Tuple [a, b, c] k2 pt2) pos) (.three i j l ka kb kc) := by
  intro n X z G W T env st f st' ρ σ H D h re rp q1 q2 q3
  simp only [evS] at h
  obtain ⟨x1, s1, e1, h⟩ := Res.bind_eq_ok h
  obtain ⟨x2, s2, e2, h⟩ := Res.bind_eq_ok h
  obtain ⟨x3, s3, e3, h⟩ := Res.bind_eq_ok h
  cases h
  refine TWS.of (ps_par3 (i := i) (j := j) (l := l) (G.calm cold).1 (by rw [G.N]; exact G.nd) (by rw [G.N]; exact hi) (by rw [G.N]; exact hj) (by rw [G.N]; exact hl) hij hil hjl (by rw [G.sc]; exact hx) (by rw [G.sc]; exact hy) (by rw [G.sc]; exact hz)
    (pa_cons pe_w (pa_cons pe_w (pa_cons pe_w pa_nil (starEach_cons hc _ _)) (starEach_cons hb _ _)) (starEach_cons ha _ _)) (hw _ G.sc) rfl)
    (h1 G e1 re rp fun v ρ1 H1 g1 r1 => h2 G e2 (re.move g1) g1.rep fun u ρ2 H2 g2 r2 => h3 G e3 (re.move (g1.trans g2)) g2.rep fun w ρ3 H3 g3 r3 => ⟨v, u, w, rfl, ?_⟩)
  exact q1 _ _ ρ3 H3 rfl ((g1.trans g2).trans g3) ((((re.move ((g1.trans g2).trans g3)).set i (g3.rv (g2.rv r1))).set j (g3.rv r2)).set l r3)
theorem s_while {c : Expr} {body : List Stmt} {k : E} {b : Ss} {pos : Pos} (hc : SimT Γ c k) (hb : SimSs Γ body b) : SimS Γ (.While c body [] pos) (.whl k b) := by
  intro n X z G W T env st f st' ρ σ H D h re rp q1 q2 q3
  simp only [evS] at h
  have hp : PassesOwn (model X.prog X.w) X.A X.env X.xe := T.pass
  refine TWS.of (ps_while hp pt_w pss_w) ?_
  refine ⟨fun m σ2 H2 => ∃ ρ2 s2 env2, Go (kx X z) ρ st H ρ2 s2 H2 ∧ REnv (kx X z) ρ2 s2 H2 env2 σ2 ∧ whileLoop (ev Γ.gl (Γ.run n) k) (evSs Γ.gl (Γ.run n) b) st.length m env2 s2 = .ok f st', ⟨100000, ρ, st, env, Go.refl rp, re, h⟩, ?_⟩
  rintro m σ2 H2 ⟨ρ2, s2, env2, g2, re2, e2⟩
  cases m with
  | zero => simp only [whileLoop] at e2; cases e2
  | succ m =>
    simp only [whileLoop] at e2
    obtain ⟨cv, s3, e3, e2⟩ := Res.bind_eq_ok e2
    cases hk : tru cv s3 with
    | none => rw [hk] at e2; cases e2
    | some bb =>
      rw [hk, br_some] at e2
      refine hc G e3 hk re2 g2.rep fun ρ3 H3 g3 => ?_
      cases bb with
      | true =>
        rw [if_pos rfl] at e2
        obtain ⟨f4, s4, e4, e2⟩ := Res.bind_eq_ok e2
        refine ⟨fun σ9 H9 => ∃ ρ2 s2 env2, Go (kx X z) ρ st H ρ2 s2 H9 ∧ REnv (kx X z) ρ2 s2 H9 env2 σ9 ∧ whileLoop (ev Γ.gl (Γ.run n) k) (evSs Γ.gl (Γ.run n) b) st.length m env2 s2 = .ok f st', fun σ9 H9 h9 => ⟨m, Nat.lt_succ_self m, h9⟩, ?_⟩
        refine hb G T e4 (re2.move g3) g3.rep (fun env5 σ5 ρ5 H5 ef g5 re5 => ?_) (fun d v ρ5 H5 ef g5 r5 => ?_) fun y env5 ef => ?_
        · subst ef
          have gg := g2.trans (g3.trans g5)
          exact ⟨ρ5, _, env5, gg.trim, re5.trim gg.len, e2⟩
        · subst ef
          have e2' : Res.ok (Fl.rt d) s4 = Res.ok f st' := e2
          cases e2'
          exact q2 d v ρ5 H5 rfl (g2.trans (g3.trans g5)) r5
        · subst ef
          have e2' : Res.ok (Fl.xc y env5) s4 = Res.ok f st' := e2
          cases e2'
          exact q3.go (g2.trans g3) y env5 rfl
      | false =>
        rw [if_neg (by decide)] at e2
        cases e2
        exact q1 env2 σ2 ρ3 H3 rfl (g2.trans g3) (re2.move g3)
end RP

namespace RP
open PySem PySem.Spec PyProof.Rows L2
variable {Γ : Ctx}

/-! ### one rule for a try of any clauses -/
/-- a clause: its class, the slot of its name, its suite's reading -/
structure Clz where
  c : Value
  i : Option Nat
  t : Addr → Value → Option Addr → TS
def offE (i : Option Nat) (D : Ends) : Ends := match i with
  | none => D
  | some k => { nx := fun s h => D.nx (s.set k none) h, rt := D.rt, bk := fun s h => D.bk (s.set k none) h, ct := fun s h => D.ct (s.set k none) h }
def onS (i : Option Nat) (a : Addr) (σ : L2.St) : L2.St := match i with
  | none => σ
  | some k => σ.set k (some (.ref a))
def wCl (K : PySem.W.Frag) (Wo : WX) (D : Ends) : List Clz → WX
  | [] => Wo
  | k :: r => fun cls d σ H => ∃ b, PySem.W.exmOne K cls k.c = some b ∧ (b = true → ∀ a, H a = none → k.t a cls d (offE k.i D) (onS k.i a σ) H) ∧ (b = false → wCl K Wo D r cls d σ H)
inductive ClOk (X : Cx) : List ExceptHandler → List Clz → Prop
  | nil : ClOk X [] []
  | bare {x : Str} {k : Clz} {u : Stmt} {us : List Stmt} {p q : Pos} {l : List ExceptHandler} {ks : List Clz} : Names X x k.c → k.i = none →
      (∀ a o cls d pn, L2N.Zn cls d o → (∃ vs, o.data = .fields vs) → PSs (X.suite a ((a, o) :: pn)) (u :: us) (k.t a cls d)) → ClOk X l ks → ClOk X (.ExceptHandler (some (.Name x p)) none (u :: us) q :: l) (k :: ks)
  | named {x y : Str} {j : Nat} {k : Clz} {u : Stmt} {us : List Stmt} {p q : Pos} {l : List ExceptHandler} {ks : List Clz} : Names X x k.c → k.i = some j → X.N[j]? = some y → X.env.kindOf y = some .local →
      (∀ a o cls d pn, L2N.Zn cls d o → (∃ vs, o.data = .fields vs) → PSs (X.suite a ((a, o) :: pn)) (u :: us) (k.t a cls d)) → ClOk X l ks → ClOk X (.ExceptHandler (some (.Name x p)) (some y) (u :: us) q :: l) (k :: ks)
theorem ps_try_all {X : Cx} {body : List Stmt} {e0 : ExceptHandler} {es : List ExceptHandler} {ks : List Clz} {pos : Pos} {tb : WX → TS} {Wo : WX} (hs : X.stack = X.env :: X.outer) (hf : X.env.frame = some X.env.locals) (nd : X.N.Nodup) (tk : L2N.Takes X Wo)
    (hb : ∀ (W : WX) (pn : List (Addr × Obj)) (xe : Value → Shared → Prop), L2N.Takes (X.tr pn xe) W → PassesOwn (model X.prog X.w) X.A X.env xe → PSs (X.tr pn xe) body (tb W))
    (hk : ClOk X (e0 :: es) ks) : PS X (.Try body (e0 :: es) [] [] pos) (fun D σ H => tb (wCl X.K Wo D ks) D σ H) := by
  refine ⟨fun pins s σ H D I h => ?_⟩
  have ok := I.ok
  have fr : X.A.frames = some (X.env :: X.outer) := by rw [ok.frames, hs]
  refine wpAny_Try_except ?_
  let caught : Value → Shared → Prop := fun e t1 => wpAny (model X.prog X.w) X.A (noteFrame e X.env)
    (fun _ t2 => wpAny (model X.prog X.w) X.A (setFlight e none) (fun _ t3 => wpAny (model X.prog X.w) X.A (handleBy e X.env (e0 :: es)) (SP X pins D) X.xe t3) X.xe t2) X.xe t1
  have bodyRule := hb (wCl X.K Wo D ks) (X.pn ++ pins) caught (fun u s' air => ?_) PassesOwn.looking
  rotate_left
  · -- a clause is looked for
    obtain ⟨a, B, sI, pins', σ', H', cls, d, rfl, J', nb, up, sky, na, os, ag, w⟩ := air
    have J : Inv X pins σ' H' sI := J'.ofTry ok
    have sky1 : Sky B (X.env :: X.outer) a (L2N.Zn cls d) X.env.locals s'.heap := by rw [← hs]; exact sky
    show wpAny (model X.prog X.w) X.A (noteFrame (.ref a) X.env) _ _ _
    refine L2N.Sky.land L2N.Zn.steady fr hf sky1 fun g fly upg => ?_
    have Jg : Inv X pins σ' H' { s' with heap := g } := J.landed nb fly.1 (up.trans upg) os ag
    obtain ⟨o, vs, oe, oz, od⟩ := fly.there
    have far : a ∉ frs (X.env :: X.outer) := fun m => by
      obtain ⟨_, o2, e2, n2⟩ := fly.2.2.1.mem m
      rw [oe] at e2
      cases e2
      exact n2 _ od
    have aL : a ≠ X.env.locals := fun q => far (List.mem_filterMap.mpr ⟨X.env, List.mem_cons_self, by rw [hf, q]⟩)
    have aF : a ∉ X.fs := fun m => by
      obtain ⟨v, v1, v2⟩ := List.mem_filterMap.mp m
      exact far (List.mem_filterMap.mpr ⟨v, List.mem_cons_of_mem _ v1, v2⟩)
    have Sg := Jg.suite oe od na aL aF
    have cname : ∀ {x : Str} {c : Value} {p : Pos} {Q : Value → Shared → Prop} {E : Value → Shared → Prop}, Names X x c → Q c { s' with heap := g } → wpAny (model X.prog X.w) (X.A.mark (some (.ref a))) (eval (.Name x p) X.env) Q E { s' with heap := g } := by
      intro x c p Q E ⟨n1, n2, n3⟩ q
      rcases n3 with n3 | ⟨n3, n4, n5⟩
      · exact ld_glob (X := X.suite a ((a, o) :: (X.pn ++ pins))) Sg n1 n3 q n2
      · exact ld_blt (X := X.suite a ((a, o) :: (X.pn ++ pins))) Sg n1 n3 n4 q n5 n2
    have kind : PySem.W.Looks (model X.prog X.w) g (typeOf (.ref a)) cls := fun A Q E t k q => wpAny_typeOf_ref (k _ _ oe) (by rw [oz.1]; exact q)
    have look : ∀ {l : List ExceptHandler} {ks : List Clz}, ClOk X l ks → wCl X.K Wo D ks cls d σ' H' → wpAny (model X.prog X.w) X.A (handleBy (.ref a) X.env l) (SP X pins D) X.xe { s' with heap := g } := by
      intro l ks hl
      induction hl with
      | nil =>
        intro w
        refine wpAny_handleBy_nil ?_
        obtain ⟨_, _, _, o5, vs5, T5, _, _, a5, _, b5, c5, _⟩ := id fly
        unfold PySem.passOn
        refine wpAny_bind (wpAny_field a5 b5 c5 ?_)
        rw [if_neg (show ¬ ((Value.ref T5 == Value.none) = true) from by simp)]
        have on : wpAny (model X.prog X.w) X.A (setFlight (.ref a) X.env.frame) (fun _ t => wpAny (model X.prog X.w) X.A (throw (.ref a) : Sem Flow) (SP X pins D) X.xe t) X.xe { s' with heap := g } := by
          rw [hf]
          exact HandSPX.setFlight_upZ fly fun g2 held up2 => wpAny_throw (tk _ _ ⟨a, B, sI, pins, σ', H', cls, d, rfl, J, nb, (up.trans upg).trans up2, .inr (.inr (by rw [hs]; exact held)), na, os, ag, w⟩)
        first | exact wpAny_bind (wpAny_pure (wpAny_bind on)) | exact wpAny_bind on
      | @bare x k u us p q l ks nm ki su r ih =>
        rintro ⟨b, b1, yes, no⟩
        refine wpAny_handleBy_cons (codeAny_handlers_test ?_) (by intro q; cases q)
        refine cname nm ((PySem.W.exm_one (M := model X.prog X.w) Jg.kIn kind b1).here ?_)
        cases b with
        | false => exact ih (no rfl)
        | true =>
          refine codeAny_handlers_suite (HandSPX.lands_againZ fly fun g2 fly2 up2 => ?_)
          have J2 : Inv X pins σ' H' { s' with heap := g2 } := J.landed nb fly2.1 ((up.trans upg).trans up2) os ag
          obtain ⟨o2, vs2, oe2, oz2, od2⟩ := fly2.there
          have yes' := yes rfl a na
          rw [ki] at yes'
          refine wpAny_mono ((su a o2 cls d (X.pn ++ pins) oz2 ⟨_, od2⟩).run [] _ _ H' _ (J2.suite oe2 od2 na aL aF) yes') (fun f t sp => ?_) (fun _ _ z => z.elim)
          cases f with
          | next => obtain ⟨σ6, H6, S6, q6⟩ := sp; exact ⟨σ6, H6, S6.unsuite ok, q6⟩
          | brk => obtain ⟨σ6, H6, S6, q6⟩ := sp; exact ⟨σ6, H6, S6.unsuite ok, q6⟩
          | cont => obtain ⟨σ6, H6, S6, q6⟩ := sp; exact ⟨σ6, H6, S6.unsuite ok, q6⟩
          | ret v => obtain ⟨v6, σ6, H6, S6, r6, q6⟩ := sp; exact ⟨v6, σ6, H6, S6.unsuite ok, r6, q6⟩
      | @named x y j k u us p q l ks nm ki hj hy su r ih =>
        rintro ⟨b, b1, yes, no⟩
        refine wpAny_handleBy_cons (codeAny_handlers_test ?_) (by intro q; cases q)
        refine cname nm ((PySem.W.exm_one (M := model X.prog X.w) Jg.kIn kind b1).here ?_)
        cases b with
        | false => exact ih (no rfl)
        | true =>
          refine codeAny_handlers_suite_as (HandSPX.lands_againZ fly fun g2 fly2 up2 => ?_)
          have J2 : Inv X pins σ' H' { s' with heap := g2 } := J.landed nb fly2.1 ((up.trans upg).trans up2) os ag
          obtain ⟨o2, vs2, oe2, oz2, od2⟩ := fly2.there
          have yes' := yes rfl a na
          rw [ki] at yes'
          refine store_ok (X := X.suite a ((a, o2) :: (X.pn ++ pins))) (v := .ref a) (J2.suite oe2 od2 na aL aF) nd hj (.inl hy) rfl (fun t S5 => ?_) (.inr hy)
          refine wpAny_mono ((su a o2 cls d (X.pn ++ pins) oz2 ⟨_, od2⟩).run [] t _ H' _ S5 yes') (fun f t6 sp => ?_) (fun _ _ z => z.elim)
          have off : ∀ {σ6 : L2.St} {H6 : Hp} {R : Shared → Prop}, Inv (X.suite a ((a, o2) :: (X.pn ++ pins))) [] σ6 H6 t6 → (∀ t7, Inv X pins (σ6.set j none) H6 t7 → R t7) →
              wpAny (model X.prog X.w) X.A (do bindName X.env y .none; unbindBehindTheSuite X.env y q) (fun _ t7 => R t7) X.xe t6 := fun {σ6 H6 R} S6 z => gone_ok (S6.unsuite ok) nd hj hy z
          cases f with
          | next => obtain ⟨σ6, H6, S6, q6⟩ := sp; exact off S6 fun t7 J7 => ⟨_, _, J7, q6⟩
          | brk => obtain ⟨σ6, H6, S6, q6⟩ := sp; exact off S6 fun t7 J7 => ⟨_, _, J7, q6⟩
          | cont => obtain ⟨σ6, H6, S6, q6⟩ := sp; exact off S6 fun t7 J7 => ⟨_, _, J7, q6⟩
          | ret v => obtain ⟨v6, σ6, H6, S6, r6, q6⟩ := sp; exact off S6 fun t7 J7 => ⟨_, _, _, J7, r6, q6⟩
    exact look hk w
  refine wpAny_mono (bodyRule.run [] s σ H D (I.toTry _) h) (fun f t sp => ?_) (fun e t q => q)
  cases f with
  | next => obtain ⟨σ6, H6, S6, q6⟩ := sp; exact wpAny_execs_nil ⟨σ6, H6, S6.ofTry ok, q6⟩
  | brk => obtain ⟨σ6, H6, S6, q6⟩ := sp; exact ⟨σ6, H6, S6.ofTry ok, q6⟩
  | cont => obtain ⟨σ6, H6, S6, q6⟩ := sp; exact ⟨σ6, H6, S6.ofTry ok, q6⟩
  | ret v => obtain ⟨v6, σ6, H6, S6, r6, q6⟩ := sp; exact ⟨v6, σ6, H6, S6.ofTry ok, r6, q6⟩
end RP

namespace RP
open PySem L2
variable {Γ : Ctx}

/-! ### raise X('..') -/
theorem s_rse {x m : Str} {c j : Nat} {p p2 cp pos : Pos} (cold : Γ.hot = false) (hk : Γ.xs.exs[c]? = some x) (hm : Γ.xs.msg c = true) (hs : Γ.sc.names.lookup x = some .globalImplicit) (hd : (x == ("__debug__" : Str)) = false) :
    SimS Γ (.Raise (some (.Call (.Name x p) [.Constant (.str m) j p2] [] cp)) none pos) (.rse c .nil) := by
  intro n X z G W T env st f st' ρ σ H D h re rp q1 q2 q3
  simp only [evS, evs, Res.bind_ok] at h
  cases h
  obtain ⟨C, m1, F, M, _⟩ := G.exs c x hk
  exact TWS.of (L2N.ps_raise (G.calm cold).1 T.tk (L2N.pmk_own PySem.F.excBase_ValueError (M hm) m1 F.kp (raises_own F.ex F.ty) (glob_of G hs) hd))
    ((q3 _ env rfl).2 σ ρ H _ none (Go.refl rp) re ⟨⟨C, ⟨x, hk, m1⟩, rfl⟩, .inl ⟨rfl, rfl⟩⟩)

/-! ### raise X(e), where X keeps the value -/
theorem s_rseV {x f : Str} {c : Nat} {e : Expr} {i : E} {p cp pos : Pos} (cold : Γ.hot = false) (hk : Γ.xs.exs[c]? = some x) (hm : c ∈ Γ.xs.mks) (hf : Γ.xs.fls[c]? = some (some f)) (hs : Γ.sc.names.lookup x = some .globalImplicit) (hd : (x == ("__debug__" : Str)) = false) (he : star e = false) (h1 : SimE Γ e i) :
    SimS Γ (.Raise (some (.Call (.Name x p) [e] [] cp)) none pos) (.rse c (.cons i .nil)) := by
  intro n X z G W T env st fl st' ρ σ H D h re rp q1 q2 q3
  simp only [evS, evs] at h
  obtain ⟨ds, s2, e2, h⟩ := Res.bind_eq_ok h
  obtain ⟨d, s1, e1, e2⟩ := Res.bind_eq_ok e2
  cases e2
  cases h
  obtain ⟨C, m1, F, _, M, _⟩ := G.exs c x hk
  obtain ⟨fI, fd, B, newId, initId, bmB, me, pp, q, sti, IB⟩ := M hm f hf
  have cc := (G.calm cold).1
  have hz := (G.calm cold).2
  refine TWS.of (L2N.ps_raise cc T.tk (pmk_init IB F.kp (raises_own F.ex F.ty) cc (by have := G.room.dp; omega) (glob_of G hs) m1 (pa_cons pe_w pa_nil (starEach_cons he _ _)) hd (starEach_cons he _ _) rfl)) ?_
  refine h1 G e1 re rp fun v ρ1 H1 g1 r1 => ⟨v, rfl, fun y hy => ?_⟩
  have g2 : Go (kx X z) ρ st H ρ1 st' (upd H1 y (.xd [(f, v)])) := g1.trans (Go.fresh g1.rep hy)
  have fz : (kx X z).fl c = f := by
    show z.fl c = f
    rw [hz]
    show (Γ.xs.fls.getD c none).getD "" = f
    rw [List.getD_eq_getElem?_getD, hf]; rfl
  exact (q3 _ env rfl).2 σ ρ1 _ _ (some y) g2 (re.move g2) ⟨⟨C, ⟨x, hk, m1⟩, rfl⟩, .inr ⟨y, d, v, rfl, rfl, by rw [upd_same]; show some (HO.xd [(f, v)]) = some (.xd [((kx X z).fl c, v)]); rw [fz], g1.rep.notMu hy, (Go.fresh g1.rep hy).rv r1⟩⟩

/-! ### try -/
def Ctx.warm (Γ : Ctx) : Ctx := { Γ with hot := true }
/-- a clause's suite's reading, whatever its object is -/
def tSuite (X : Cx) (us : List Stmt) : Addr → Value → Option Addr → TS := fun a cls d D σ H => ∀ o pn, L2N.Zn cls d o → (∃ vs, o.data = .fields vs) → TWSs (X.suite a ((a, o) :: pn)) us D σ H
theorem su_w {X : Cx} {us : List Stmt} : ∀ a o cls d pn, L2N.Zn cls d o → (∃ vs, o.data = .fields vs) → PSs (X.suite a ((a, o) :: pn)) us (tSuite X us a cls d) := fun a o cls d pn z f => ⟨fun pins s σ H D I h => h o pn z f pins s I⟩
def SimH (Γ : Ctx) (l : List ExceptHandler) (hs : Hs) : Prop := ∀ {n : Nat} {X : Cx} {z : Hz}, Good Γ n X z → ∀ {W : WX}, GoodT X W → ∃ ks, ClOk X l ks ∧
  ∀ {y : Exn} {env : Env} {st : Sto} {f : Fl} {st' : Sto} {ρ : Pl} {σ : St} {H : Hp} {D : Ends} {cls : Value} {dd : Option Addr}, evH Γ.gl (Γ.run n) hs y env st = .ok f st' → REnv (kx X z) ρ st H env σ → Rep (kx X z) ρ H st → RX X.mg Γ.xs.exs (kx X z) ρ st H y cls dd →
    (∀ env' σ' ρ' H', f = .nx env' → Go (kx X z) ρ st H ρ' st' H' → REnv (kx X z) ρ' st' H' env' σ' → D.nx σ' H') →
    (∀ d v ρ' H', f = .rt d → Go (kx X z) ρ st H ρ' st' H' → RV (kx X z) ρ' st' H' d v → D.rt v H') → XcOk Γ X z W ρ st H f st' → wCl X.K W D ks cls dd σ H
theorem h_nil : SimH Γ [] .nil := by
  intro n X z G W T
  refine ⟨[], .nil, fun {y env st f st' ρ σ H D cls dd} h re rp rx q1 q2 q3 => ?_⟩
  have h' : Res.ok (Fl.xc y env) st = Res.ok f st' := by simpa [evH] using h
  cases h'
  exact (q3 y env rfl).2 σ ρ H cls dd (Go.refl rp) re rx
theorem stoSame_eq : ∀ {a b : Sto}, stoSame a b = true → a = b
  | [], [], _ => rfl
  | .lst a :: s, .lst b :: t, h => by
    simp only [stoSame, Bool.and_eq_true] at h
    rw [(sames_iff _ _).mp h.1, stoSame_eq h.2]
  | .fro a :: s, .fro b :: t, h => by
    simp only [stoSame, Bool.and_eq_true] at h
    rw [(sames_iff _ _).mp h.1, stoSame_eq h.2]
  | [], _ :: _, h => by simp [stoSame] at h
  | .lst _ :: _, [], h => by simp [stoSame] at h
  | .fro _ :: _, [], h => by simp [stoSame] at h
  | .lst _ :: _, .fro _ :: _, h => by simp [stoSame] at h
  | .fro _ :: _, .lst _ :: _, h => by simp [stoSame] at h
theorem stoSame_refl : ∀ a : Sto, stoSame a a = true
  | [] => rfl
  | .lst a :: s => by simp only [stoSame, sames_self, stoSame_refl s, Bool.and_self]
  | .fro a :: s => by simp only [stoSame, sames_self, stoSame_refl s, Bool.and_self]
/-- the suite's context -/
theorem Good.suite {n : Nat} {X : Cx} {z : Hz} (G : Good Γ n X z) (cold : Γ.hot = false) {a : Addr} {o : Obj} {pn : List (Addr × Obj)} {c : Nat} {C : Addr} {dd : Option Addr} (hc : clsOf X.mg Γ.xs.exs c C) (hz : L2N.Zn (.ref C) dd o) (hf : ∃ vs, o.data = .fields vs) :
    Good Γ.warm n (X.suite a ((a, o) :: pn)) ⟨fun a' c' d' => a' = a ∧ c' = c ∧ d' = dd, Γ.xs.fl⟩ where
  N := G.N
  nd := G.nd
  sc := G.sc
  calm := fun h => nomatch h
  hot := fun _ => by
    obtain ⟨vs, hv⟩ := hf
    refine ⟨(a, o), ⟨rfl, vs, hv, hz.2.2 vs hv⟩, List.mem_cons_self, fun a' c' d' ⟨e1, e2, e3⟩ => ?_, rfl, ⟨vs, hv⟩⟩
    subst e1; subst e2; subst e3
    exact ⟨rfl, C, hc, hz⟩
  room := ⟨G.room.dp, G.room.un⟩
  guards := G.guards
  fn := G.fn
  kind := G.kind
  gl := fun k x d h => by
    obtain ⟨hc, rfl⟩ := G.calm cold
    obtain ⟨v, u, h1, h2, h3⟩ := G.gl k x d h
    exact ⟨v, u, h1, h2, fun ρ st H => RV.other (K := kx X (hz0 Γ.xs.fl)) (K' := kx (X.suite a ((a, o) :: pn)) ⟨fun a' c' d' => a' = a ∧ c' = c ∧ d' = dd, Γ.xs.fl⟩) rfl ((h3 ρ st H).nox (fun _ _ _ q => q)) (h3 ρ st H)⟩
  blt := G.blt
  exs := G.exs
  exa := G.exa
  tys := G.tys
  fns := G.fns
theorem GoodT.suite {X : Cx} {W : WX} (T : GoodT X W) {a : Addr} {pn : List (Addr × Obj)} : GoodT (X.suite a pn) (fun _ _ _ _ => False) := ⟨T.stk, T.frm, PassesOwn.never, wx_none⟩
theorem rv_take {K : Kx} {ρ : Pl} {H : Hp} {st st1 : Sto} (e : st1.take st.length = st) (hl : st.length ≤ st1.length) {d : D} {v : V} (ht : d.top ≤ st.length) (h : RV K ρ st1 H d v) : RV K ρ st H d v := by
  have z := h.take hl ht
  rw [e] at z
  exact z
def dropS (i : Option Nat) (σ : St) : St := match i with
  | none => σ
  | some j => σ.set j none
theorem h_cons {x : Str} {u : Stmt} {us : List Stmt} {p q : Pos} {l : List ExceptHandler} {cs : List Nat} {b : Ss} {hs : Hs} {nm : Option Str} {i : Option Nat} (cold : Γ.hot = false) (hs0 : Γ.sc.names.lookup x = some .globalImplicit) (hd : (x == ("__debug__" : Str)) = false) (ht : (x, cs) ∈ Γ.tys)
    (hn : (nm = none ∧ i = none) ∨ ∃ y j, nm = some y ∧ i = some j ∧ Γ.N[j]? = some y ∧ Γ.sc.names.lookup y = some .local) (h1 : SimSs Γ.warm (u :: us) b) (h2 : SimH Γ l hs) : SimH Γ (.ExceptHandler (some (.Name x p)) nm (u :: us) q :: l) (.cons cs i b hs) := by
  intro n X z G W T
  obtain ⟨ks, k1, k2⟩ := h2 G T
  obtain ⟨v0, c, cv, hc, facts⟩ := G.tys _ ht
  have names : Names X x c := ⟨glob_of G hs0, hd, hc⟩
  refine ⟨⟨c, i, tSuite X (u :: us)⟩ :: ks, ?_, fun {y env st f st' ρ σ H D cls dd} h re rp rx q1 q2 q3 => ?_⟩
  · rcases hn with ⟨rfl, rfl⟩ | ⟨y, j, rfl, rfl, hj, hy⟩
    · exact .bare (k := ⟨c, none, tSuite X (u :: us)⟩) names rfl su_w k1
    · exact .named (k := ⟨c, some j, tSuite X (u :: us)⟩) names rfl (by rw [G.N]; exact hj) (by show X.env.scope.names.lookup y = _; rw [G.sc]; exact hy) su_w k1
  · obtain ⟨⟨C, cC, rfl⟩, ra⟩ := rx
    refine ⟨_, (facts y.cls C cC).1, fun hb => ?_, fun hb => ?_⟩
    · intro a na o pn hz hf
      obtain ⟨hcalm, rfl⟩ := G.calm cold
      simp only [evH, if_pos hb] at h
      obtain ⟨f1, s1, e1, h⟩ := Res.bind_eq_ok h
      have hK : ∀ a' c' d', ¬ (kx X (hz0 Γ.xs.fl)).hx a' c' d' := fun _ _ _ q => q
      let z' : Hz := ⟨fun a' c' d' => a' = a ∧ c' = y.cls ∧ d' = dd, Γ.xs.fl⟩
      have G' := G.suite cold (a := a) (o := o) (pn := pn) cC hz hf
      have re0 : REnv (kx (X.suite a ((a, o) :: pn)) z') ρ st H env σ := REnv.other (K := kx X (hz0 Γ.xs.fl)) (K' := kx (X.suite a ((a, o) :: pn)) z') rfl (re.nox hK) re
      have rp0 : Rep (kx (X.suite a ((a, o) :: pn)) z') ρ H st := Rep.other (K := kx X (hz0 Γ.xs.fl)) (K' := kx (X.suite a ((a, o) :: pn)) z') rfl (rp.nox hK) rp
      have sn := rp.nox hK
      have rex : REnv (kx (X.suite a ((a, o) :: pn)) z') ρ st H (putX i y env) (onS i a σ) := by
        cases i with
        | none => exact re0
        | some j =>
          refine re0.set j ?_
          rcases ra with ⟨ea, ed⟩ | ⟨q, w, u, ea, ed, hq, nm, rw0⟩
          · rw [ea]; exact .exn0 ⟨rfl, rfl, ed.symm⟩
          · rw [ea]; exact .exn1 ⟨rfl, rfl, ed.symm⟩ hq nm (RV.other (K := kx X (hz0 Γ.xs.fl)) (K' := kx (X.suite a ((a, o) :: pn)) z') rfl (rw0.nox hK) rw0)
      -- what is left behind the suite
      unfold sutEnd at h
      split at h
      rotate_left
      · cases h
      rename_i same
      simp only [Bool.and_eq_true] at same
      have es := stoSame_eq same.1
      have go : ∀ {ρ' : Pl} {H' : Hp}, Go (kx (X.suite a ((a, o) :: pn)) z') ρ st H ρ' s1 H' → Go (kx X (hz0 Γ.xs.fl)) ρ st H ρ' st H' := fun {ρ' H'} g => by
        have g1 := g.take (n := st.length) (fun o ho => by rw [es] at ho; exact of_decide_eq_true (List.all_eq_true.mp same.2 o (by rw [List.take_length]; exact ho))) (Nat.le_refl _) g.len
        rw [es] at g1
        exact Go.other (K := kx (X.suite a ((a, o) :: pn)) z') (K' := kx X (hz0 Γ.xs.fl)) rfl sn g1
      refine h1 G' T.suite (by exact e1) rex rp0 (fun env' σ' ρ' H' ef g r => ?_) (fun d v ρ' H' ef g r => ?_) fun y' env' ef => ?_
      · subst ef
        dsimp only at h
        split at h
        · rename_i hx
          cases h
          simp only [Bool.and_eq_true, decide_eq_true_eq] at hx
          have key : REnv (kx X (hz0 Γ.xs.fl)) ρ' st H' (dropAt i env') (dropS i σ') := by
            have r' : REnv (kx (X.suite a ((a, o) :: pn)) z') ρ' s1 H' (dropAt i env') (dropS i σ') := by
              cases i with
              | none => exact r
              | some j => exact r.drop j
            have r2 : REnv (kx (X.suite a ((a, o) :: pn)) z') ρ' st H' (dropAt i env') (dropS i σ') := ⟨r'.len, fun k d hk => by
              obtain ⟨v, w1, w2⟩ := r'.get k d hk
              exact ⟨v, w1, rv_take es g.len (Nat.le_trans (envTop_le hk) hx.2) w2⟩⟩
            exact REnv.other (K := kx (X.suite a ((a, o) :: pn)) z') (K' := kx X (hz0 Γ.xs.fl)) rfl hx.1 r2
          have w := q1 _ _ ρ' H' rfl (go g) key
          cases i with
          | none => exact w
          | some j => exact w
        · cases h
      · subst ef
        dsimp only at h
        split at h
        · rename_i hx
          cases h
          simp only [Bool.and_eq_true, decide_eq_true_eq] at hx
          have w := q2 d v ρ' H' rfl (go g) (RV.other (K := kx (X.suite a ((a, o) :: pn)) z') (K' := kx X (hz0 Γ.xs.fl)) rfl hx.1 (rv_take es g.len hx.2 r))
          cases i with
          | none => exact w
          | some j => exact w
        · cases h
      · subst ef
        dsimp only at h
        cases h
    · have e : evH Γ.gl (Γ.run n) (.cons cs i b hs) y env st = evH Γ.gl (Γ.run n) hs y env st := by
        simp only [evH]
        rw [if_neg (by rw [hb]; decide)]
      rw [e] at h
      exact k2 h re rp ⟨⟨C, cC, rfl⟩, ra⟩ q1 q2 q3
theorem Good.tr {n : Nat} {X : Cx} {z : Hz} (G : Good Γ n X z) (cold : Γ.hot = false) {pn : List (Addr × Obj)} {xe : Value → Shared → Prop} : Good Γ n (X.tr pn xe) z where
  N := G.N
  nd := G.nd
  sc := G.sc
  calm := G.calm
  hot := fun h => Bool.noConfusion (cold.symm.trans h)
  room := G.room
  guards := G.guards
  fn := G.fn
  kind := G.kind
  gl := G.gl
  blt := G.blt
  exs := G.exs
  exa := G.exa
  tys := G.tys
  fns := G.fns
theorem s_try {body : List Stmt} {e0 : ExceptHandler} {es : List ExceptHandler} {b : Ss} {hs : Hs} {pos : Pos} (cold : Γ.hot = false) (h1 : SimSs Γ body b) (h2 : SimH Γ (e0 :: es) hs) : SimS Γ (.Try body (e0 :: es) [] [] pos) (.tr b hs) := by
  intro n X z G W T env st f st' ρ σ H D h re rp q1 q2 q3
  simp only [evS] at h
  obtain ⟨f1, s1, e1, h⟩ := Res.bind_eq_ok h
  obtain ⟨ks, k1, k2⟩ := h2 G T
  have rule := ps_try_all (body := body) (pos := pos) (tb := fun V => fun D σ H => ∀ pn xe, L2N.Takes (X.tr pn xe) V → PassesOwn (model X.prog X.w) X.A X.env xe → TWSs (X.tr pn xe) body D σ H) T.stk T.frm (by rw [G.N]; exact G.nd) T.tk
    (fun V pn xe tk pa => ⟨fun pins s σ H D I h => h pn xe tk pa pins s I⟩) k1
  refine TWS.of rule fun pn xe tk pa => ?_
  refine h1 (G.tr cold (pn := pn) (xe := xe)) ⟨T.stk, T.frm, pa, tk⟩ e1 re rp (fun env' σ' ρ' H' ef g r => ?_) (fun d v ρ' H' ef g r => ?_) fun y env' ef => ⟨cold, fun σ' ρ' H' cls dd g r rx => ?_⟩
  · subst ef
    cases h
    exact q1 env' σ' ρ' H' rfl g r
  · subst ef
    cases h
    exact q2 d v ρ' H' rfl g r
  · subst ef
    have h' : evH Γ.gl (Γ.run n) hs y env' s1 = .ok f st' := h
    exact k2 h' r g.rep rx (fun env2 σ2 ρ2 H2 ef2 g2 r2 => q1 env2 σ2 ρ2 H2 ef2 (g.trans g2) r2) (fun d v ρ2 H2 ef2 g2 r2 => q2 d v ρ2 H2 ef2 (g.trans g2) r2) (q3.go g)
end RP

namespace RP
open PySem L2
variable {Γ : Ctx}

/-! ### the exception that is handled -/
theorem exn_at {n : Nat} {X : Cx} {z : Hz} (G : Good Γ n X z) (warm : Γ.hot = true) {ρ : Pl} {st : Sto} {H : Hp} {c : Nat} {xs : List D} {v : V} (r : RV (kx X z) ρ st H (.exn c xs) v) :
    ∃ (p : Addr × Obj) (C : Addr) (d : Option Addr), v = .ref p.1 ∧ p ∈ X.pn ∧ clsOf X.mg Γ.xs.exs c C ∧ L2N.Zn (.ref C) d p.2 ∧ (∃ vs, p.2.data = .fields vs) ∧
      ((d = none ∧ xs = []) ∨ ∃ q y u, d = some q ∧ xs = [y] ∧ H q = some (.xd [(Γ.xs.fl c, u)]) ∧ RV (kx X z) ρ st H y u) := by
  obtain ⟨p, h1, h2, hz⟩ := G.hot warm
  cases r with
  | exn0 h =>
    obtain ⟨rfl, C, k1, k2⟩ := hz.hx _ _ _ h
    exact ⟨p, C, none, rfl, h2, k1, k2, hz.ob, .inl ⟨rfl, rfl⟩⟩
  | exn1 h hq nm ry =>
    obtain ⟨rfl, C, k1, k2⟩ := hz.hx _ _ _ h
    exact ⟨p, C, _, rfl, h2, k1, k2, hz.ob, .inr ⟨_, _, _, rfl, rfl, by rw [← hz.fl]; exact hq, ry⟩⟩
/-- where it stands, as the library's words for instances want it -/
theorem inst_at {n : Nat} {X : Cx} {z : Hz} (G : Good Γ n X z) {pins : List (Addr × Obj)} {σ : L2.St} {H : Hp} {s : Shared} (I : Inv X pins σ H s) {p : Addr × Obj} {C : Addr} {d : Option Addr} {ρ : Pl} {st : Sto} {c : Nat} {xs : List D} (hp : p ∈ X.pn) (hz : L2N.Zn (.ref C) d p.2) (hf : ∃ vs, p.2.data = .fields vs)
    (hd : (d = none ∧ xs = []) ∨ ∃ q y u, d = some q ∧ xs = [y] ∧ H q = some (.xd [(Γ.xs.fl c, u)]) ∧ RV (kx X z) ρ st H y u) :
    ∃ od, PySem.W.InstAt s.heap p.1 p.2 C od ∧ ∀ q y u, d = some q → xs = [y] → H q = some (.xd [(Γ.xs.fl c, u)]) → ∃ o w, od = some o ∧ PySem.W.lookIn (Γ.xs.fl c) o = some (some w) ∧ RelV u w := by
  obtain ⟨vs, hv⟩ := hf
  have at1 := (I.pin p (List.mem_append_left _ hp)).1
  have nc : PySem.W.notCls p.2 = true := by unfold PySem.W.notCls; rw [hv]
  rcases hd with ⟨rfl, rfl⟩ | ⟨q, y, u, rfl, rfl, hq, _⟩
  · exact ⟨none, ⟨at1, hz.1, nc, by rw [hz.2.1]; trivial⟩, fun q y u e => nomatch e⟩
  · obtain ⟨mA, hns, rel⟩ := (show ObjOk X.prog X.w H s.heap q (.xd [(Γ.xs.fl c, u)]) from I.hok q _ hq)
    obtain ⟨o, ho, hl⟩ := lookIn_ns hns
    refine ⟨some o, ⟨at1, hz.1, nc, by rw [hz.2.1]; exact ho⟩, fun q' y' u' e1 e2 e3 => ?_⟩
    cases e1
    rw [hq] at e3
    cases e3
    obtain ⟨w, w1, w2⟩ := RelO.some_of (v := u) (o := mA (Γ.xs.fl c)) (by have := rel (Γ.xs.fl c); simpa using this)
    exact ⟨o, w, rfl, by rw [hl, w1], w2⟩
theorem call_isx {n : Nat} {X : Cx} {z : Hz} (G : Good Γ n X z) (warm : Γ.hot = true) {ρ : Pl} {st : Sto} : CallR X (.builtin "isinstance") (fun xs H Q => ∃ (v cv : V) (c : Value) (k : Nat) (ys : List D) (b : Bool), xs = [v, cv] ∧ ClsV cv c ∧ RV (kx X z) ρ st H (.exn k ys) v ∧
    (∀ C, clsOf X.mg Γ.xs.exs k C → PySem.W.kitOne X.K (.ref C) c = some b) ∧ Q (.bl b) H) := by
  intro pins s σ H xs us Q I r h
  obtain ⟨v, cv, c, k, ys, b, rfl, hc, rv, kit, q⟩ := h
  obtain ⟨p, C, d, rfl, h2, k1, k2, hf, hd⟩ := exn_at G warm rv
  obtain ⟨od, inst, _⟩ := inst_at G I h2 k2 hf hd
  obtain ⟨x, hx, mx⟩ := k1
  obtain ⟨C', m1, F, _⟩ := G.exs k x hx
  have eC : C' = C := Value.ref.inj (Option.some.inj (m1.symm.trans mx))
  subst eC
  have A := G.exa (fun e => by rw [e] at hx; simp at hx)
  obtain ⟨u1, u2, rfl, r1, r2⟩ := vals2 r
  obtain rfl := hc.eq r2
  obtain rfl : u1 = Value.ref p.1 := r1
  have hcl : (PySem.W.clsIn X.K C').isSome = true := by
    have := F.hd
    unfold PySem.W.hasDictIn at this
    cases e : PySem.W.clsIn X.K C' with
    | none => rw [e] at this; cases this
    | some _ => rfl
  exact PySem.W.kia_one (PySem.W.kitx_exc hcl F.ga F.gt F.ex F.cl A.sp A.tk F.mr) I.kIn inst (kit C' ⟨x, hx, mx⟩) (by intro e; cases e) fun tk => ⟨.bl b, H, I.tok tk, rfl, q⟩
theorem cls_pe {n : Nat} {X : Cx} {z : Hz} (G : Good Γ n X z) {t : Str} {cs : List Nat} (ht : (t, cs) ∈ Γ.tys) (hs : Γ.sc.names.lookup t = some .globalImplicit) (hd : (t == ("__debug__" : Str)) = false) : ∃ cv c, ClsV cv c ∧ (∀ pos, PE X (.Name t pos) (tC cv)) ∧
    ∀ (k : Nat) (C : Addr), clsOf X.mg Γ.xs.exs k C → PySem.W.exmOne X.K (.ref C) c = some (cs.contains k) ∧ PySem.W.kitOne X.K (.ref C) c = some (cs.contains k) := by
  obtain ⟨v, c, h1, h2, h3⟩ := G.tys _ ht
  have rel : RelV v c := by cases h1 <;> rfl
  refine ⟨v, c, h1, fun pos => ?_, h3⟩
  rcases h2 with h2 | ⟨h2, h4, h5⟩
  · exact pe_glob (glob_of G hs) h2 rel hd
  · exact pe_bltn (glob_of G hs) h2 h4 rel h5 hd
theorem sim_xis {a : Expr} {i : E} {t : Str} {cs : List Nat} {p p2 pos : Pos} (warm : Γ.hot = true) (ha : star a = false) (hs : Γ.sc.names.lookup ("isinstance" : Str) = some .globalImplicit) (hb : ("isinstance" : Str) ∈ Γ.bs)
    (ht : (t, cs) ∈ Γ.tys) (hs2 : Γ.sc.names.lookup t = some .globalImplicit) (hd : (t == ("__debug__" : Str)) = false) (h1 : SimE Γ a i) : SimE Γ (.Call (.Name "isinstance" p) [a, .Name t p2] [] pos) (.xis i cs) := by
  intro n X z G env st d st' ρ σ H Q h re rp q
  simp only [ev] at h
  obtain ⟨x, s1, e1, h⟩ := Res.bind_eq_ok h
  obtain ⟨cv, c, c1, c2, c3⟩ := cls_pe G ht hs2 hd
  unfold xisD at h
  split at h
  · rename_i k ys
    cases h
    refine fun pins s I => ?_
    have key := h1 (Q := fun v H1 => ∃ ρ1, Go (kx X z) ρ st H ρ1 st' H1 ∧ RV (kx X z) ρ1 st' H1 (.exn k ys) v) G e1 re rp (fun v ρ1 H1 g1 r1 => ⟨ρ1, g1, r1⟩)
    refine (pe_callB (r := fun xs H Q => ∃ (v cv : V) (c : Value) (k : Nat) (ys : List D) (b : Bool) (ρ1 : Pl) (s1 : Sto), xs = [v, cv] ∧ ClsV cv c ∧ RV (kx X z) ρ1 s1 H (.exn k ys) v ∧
        (∀ C, clsOf X.mg Γ.xs.exs k C → PySem.W.kitOne X.K (.ref C) c = some b) ∧ Q (.bl b) H) (fun pins s σ H xs us Q I r ⟨v, cv, c, k, ys, b, ρ1, s1, h⟩ => call_isx G warm pins s σ H xs us Q I r ⟨v, cv, c, k, ys, b, h⟩)
      (glob_of G hs) (G.blt _ hb) (by decide +kernel) (pa_cons pe_w (pa_cons (c2 p2) pa_nil rfl) (starEach_cons ha _ _)) (by decide) (by decide) (starEach_cons ha _ _) rfl).run pins s σ H Q I ?_
    refine key.mono fun v H1 ⟨ρ1, g1, r1⟩ => ?_
    exact ⟨v, cv, c, k, ys, cs.contains k, ρ1, st', rfl, c1, r1, fun C hC => (c3 k C hC).2, q _ ρ1 H1 g1 (.bl _)⟩
  · cases h
/-- e.f of it -/
theorem sim_xat {a : Expr} {i : E} {f : Str} {cs : List Nat} {pos : Pos} (warm : Γ.hot = true) (ho : attrB a = true) (hc : cs.all (fun c => decide (Γ.xs.fls[c]? = some (some f))) = true) (h1 : SimE Γ a i) : SimE Γ (.Attribute a f pos) (.xat i cs) := by
  intro n X z G env st d st' ρ σ H Q h re rp q
  simp only [ev] at h
  obtain ⟨x, s1, e1, h⟩ := Res.bind_eq_ok h
  unfold xatD at h
  split at h
  · rename_i k y
    split at h
    · rename_i hk
      cases h
      have hf : Γ.xs.fls[k]? = some (some f) := of_decide_eq_true (List.all_eq_true.mp hc k (by simpa using hk))
      have hfl : Γ.xs.fl k = f := by simp [Xs.fl, List.getD, hf]
      have key := h1 (Q := fun v H1 => ∃ ρ1, Go (kx X z) ρ st H ρ1 st' H1 ∧ RV (kx X z) ρ1 st' H1 (.exn k [d]) v) G e1 re rp (fun v ρ1 H1 g1 r1 => ⟨ρ1, g1, r1⟩)
      intro pins s I
      refine attr_of (base_of ho _ _ _) (thn (key pins s I) fun u t hh => ?_)
      obtain ⟨v, H1, I1, rv, ρ1, g1, r1⟩ := hh
      obtain ⟨p, C, dd, rfl, h2, k1, k2, hff, hd⟩ := exn_at G warm r1
      obtain ⟨od, inst, fld⟩ := inst_at G I1 h2 k2 hff hd
      obtain rfl : u = Value.ref p.1 := rv
      obtain ⟨x, hx, mx⟩ := k1
      obtain ⟨C', m1, F, _, _, V⟩ := G.exs k x hx
      have eC : C' = C := Value.ref.inj (Option.some.inj (m1.symm.trans mx))
      subst eC
      rcases hd with ⟨_, e⟩ | ⟨q', y', u', e2, e3, e4, e5⟩
      · cases e
      · cases e3
        obtain ⟨o, w, ho1, ho2, rw1⟩ := fld q' _ u' e2 rfl e4
        rw [hfl] at ho2
        subst ho1
        exact HandSPX.exc_get I1.kIn inst F.ga F.gt F.ex (PySem.W.findObj_own F.hd (V f hf).no rfl ho2) (handed_of rw1) ⟨u', H1, I1.tok _, rw1, q u' ρ1 H1 g1 e5⟩
    · cases h
  · cases h
end RP

namespace RP
open PySem L2
variable {Γ : Ctx}

/-! ### [f, g, ..][i](..) -/
inductive FnsOk (Γ : Ctx) (m : Nat) : List Expr → List Nat → Prop
  | nil : FnsOk Γ m [] []
  | cons {x : Str} {p : Pos} {k : Nat} {ps : List Str} {es : List Expr} {ks : List Nat} : Γ.fns[k]? = some (x, ps, Γ.hot) → Γ.sc.names.lookup x = some .globalImplicit → (x == ("__debug__" : Str)) = false → ps.length = m → FnsOk Γ m es ks → FnsOk Γ m (.Name x p :: es) (k :: ks)
theorem FnsOk.len {m : Nat} : ∀ {es : List Expr} {ks : List Nat}, FnsOk Γ m es ks → es.length = ks.length
  | _, _, .nil => rfl
  | _, _, .cons _ _ _ _ r => by simp only [List.length_cons]; rw [r.len]
/-- what a call of the def at a does -/
def CalleeOk (Γ : Ctx) (n : Nat) (X : Cx) (z : Hz) (m : Nat) (a : Addr) (k : Nat) : Prop := PySem.W.keepIn X.K (.ref a) = true ∧
    ∀ {pins : List (Addr × Obj)} {σ : St} {H : Hp} {s : Shared} {us : List Value} {vs : List V} {ds : List D} {st : Sto} {ρ : Pl} {Q : VK}, vs.length = m → Inv X pins σ H s → Vals vs us → RVs (kx X z) ρ st H ds vs → Rep (kx X z) ρ H st →
      (∀ {st' : Sto} {d : D}, Γ.run n k ds st = .ok d st' → (∀ v ρ' H', Go (kx X z) ρ st H ρ' st' H' → RV (kx X z) ρ' st' H' d v → Q v H') → wpAny (model X.prog X.w) X.A (PySem.call (.ref a) us) (EP X pins σ Q) X.xe s) ∧
      (∀ {st' : Sto} {y : Exn} {W : WX}, Γ.hot = false → L2N.Takes X W → Γ.run n k ds st = .exc y st' → (∀ cls dd ρ' H', Go (kx X z) ρ st H ρ' st' H' → RX X.mg Γ.xs.exs (kx X z) ρ' st' H' y cls dd → W cls dd σ H') →
        wpAny (model X.prog X.w) X.A (PySem.call (.ref a) us) (EP X pins σ Q) X.xe s)
theorem fns_pa {n : Nat} {X : Cx} {z : Hz} (G : Good Γ n X z) {m : Nat} : ∀ {es : List Expr} {ks : List Nat}, FnsOk Γ m es ks → ∃ as : List Addr, as.length = ks.length ∧ PA X es (fun _ H Q => Q (as.map V.ref) H) ∧ ∀ (j : Nat) (k : Nat), ks[j]? = some k → ∃ a, as[j]? = some a ∧ CalleeOk Γ n X z m a k
  | _, _, .nil => ⟨[], rfl, ⟨fun pos pins s σ H Q I h => pa_nil.run pos pins s σ H Q I h⟩, fun j k h => by simp at h⟩
  | _, _, .cons (x := x) (p := p) (k := k) (ps := ps) (es := es) (ks := ks) hk hs hd hl r => by
    obtain ⟨as, h1, h2, h3⟩ := fns_pa G r
    obtain ⟨a, m1, m2, F⟩ := callee G hk
    refine ⟨a :: as, by simp [h1], ⟨fun pos pins s σ H Q I h => (pa_cons (pe_glob (v := .ref a) (glob_of G hs) m1 rfl hd) h2 (starEach_cons rfl _ _)).run pos pins s σ H Q I h⟩, fun j k' hj => ?_⟩
    cases j with
    | zero =>
      simp at hj
      subst hj
      exact ⟨a, rfl, m2, fun {pins σ H s us vs ds st ρ Q} e => F (e.trans hl.symm)⟩
    | succ j => simpa using h3 j k' (by simpa using hj)
theorem fnl_core {n : Nat} {X : Cx} {z : Hz} (G : Good Γ n X z) {names : List Expr} {ix e : Expr} {es : List Expr} {ks : List Nat} {i : E} {is : Es} {lp sp pos : Pos} (hf : FnsOk Γ (e :: es).length names ks) (hz : names.length ≤ 1000) (hb : nslice ix = true) (hn : (e :: es).all (fun e => !star e) = true)
    (h1 : SimE Γ ix i) (h2 : SimA Γ (e :: es) is) (hsz : ∀ {m cf gl env st ds st'}, evs gl cf is env st = .ok ds st' → m = (e :: es).length → ds.length = m)
    {env : Env} {st : Sto} {ρ : Pl} {σ : St} {H : Hp} {Q : VK} {x : D} {s1 s2 : Sto} {ds : List D} (e1 : ev Γ.gl (Γ.run n) i env st = .ok x s1) (e2 : evs Γ.gl (Γ.run n) is env s1 = .ok ds s2) (re : REnv (kx X z) ρ st H env σ) (rp : Rep (kx X z) ρ H st)
    {k : Int} {f : Nat} (hx : x = .int k) (hk : atI ks k = some f)
    (go : ∀ {a : Addr} {pins : List (Addr × Obj)} {s : Shared} {us : List Value} {vs : List V} {ρ1 : Pl} {H1 : Hp}, CalleeOk Γ n X z (e :: es).length a f → vs.length = (e :: es).length → Inv X pins σ H1 s → Vals vs us → RVs (kx X z) ρ1 s2 H1 ds vs → Go (kx X z) ρ st H ρ1 s2 H1 →
      wpAny (model X.prog X.w) X.A (PySem.call (.ref a) us) (EP X pins σ Q) X.xe s) : TW X (.Call (.Subscript (.List names lp) ix sp) (e :: es) [] pos) σ H Q := by
  subst hx
  simp only [List.all_cons, Bool.and_eq_true, Bool.not_eq_true'] at hn
  obtain ⟨as, l1, pa, hc⟩ := fns_pa G hf
  obtain ⟨j, j1, j2, _⟩ := atI_get hk
  obtain ⟨a, ha, ca⟩ := hc j f j2
  have hat : atI (as.map V.ref) k = some (.ref a) := by
    unfold atI at hk ⊢
    rw [List.length_map, l1]
    cases q : ixN ks.length k with
    | none => rw [q] at hk; cases hk
    | some j' =>
      rw [q] at hk
      have e0 := (ixN_seq q).1
      rw [j1] at e0
      cases e0
      show (as.map V.ref)[j]? = _
      rw [List.getElem?_map, ha]
      rfl
  intro pins s I
  have fnE : PE X (.Subscript (.List names lp) ix sp) (tOp (rIxL X.K) (tLst fun _ H Q => Q (as.map V.ref) H) (TW X ix)) := pe_ix ix_list (pe_lst pa) pe_w (plain_ix hb)
  have lenN : names.length = ks.length := hf.len
  refine PyProof.Rows.Call_ (thn (fnE.run pins s σ H (fun v H1 => ∃ ρ1, v = .ref a ∧ Go (kx X z) ρ st H ρ1 s1 H1) I ?_) fun fv t ⟨v, H1, I1, rv, ρ1, ev1, g1⟩ => ?_)
  · refine ⟨by rw [List.length_map, l1, ← lenN, sizeLine_eq]; omega, fun p hp => ?_⟩
    have g0 := Go.fresh (o := .lst (as.map V.ref)) rp hp
    refine h1 G e1 (re.move g0) g0.rep fun u ρ1 H1 g1 r1 => ?_
    cases r1
    exact ⟨p, _, k, _, rfl, rfl, SqL.of (g1.keep _ _ upd_same (rp.notMu hp)).1, hat, ρ1, rfl, g0.trans g1⟩
  · subst ev1
    obtain rfl : fv = Value.ref a := rv
    refine PySem.W.callWith_K (h₀ := X.base) I.ok.mod.kin ca.1 (thn (h2 (Q := fun vs H2 => ∃ ρ2, Go (kx X z) ρ1 s1 H1 ρ2 s2 H2 ∧ RVs (kx X z) ρ2 s2 H2 ds vs) G e2 (re.move g1) g1.rep (fun vs ρ2 H2 g2 r2 => ⟨ρ2, g2, r2⟩) pos pins t I1) fun us t2 ⟨vs, H2, I2, r, ρ2, g2, r2⟩ => ⟨I2.kIn, ?_⟩) (starEach_cons hn.1 _ _) (stars_no hn.2 _ _)
    exact go ca (by rw [← r2.length, hsz e2 rfl]) I2 r r2 (g1.trans g2)
theorem sim_fnl {names : List Expr} {ix e : Expr} {es : List Expr} {ks : List Nat} {i : E} {is : Es} {lp sp pos : Pos} (hf : FnsOk Γ (e :: es).length names ks) (hz : names.length ≤ 1000) (hb : nslice ix = true) (hn : (e :: es).all (fun e => !star e) = true)
    (h1 : SimE Γ ix i) (h2 : SimA Γ (e :: es) is) (hsz : ∀ {m cf gl env st ds st'}, evs gl cf is env st = .ok ds st' → m = (e :: es).length → ds.length = m) : SimE Γ (.Call (.Subscript (.List names lp) ix sp) (e :: es) [] pos) (.fnl ks i is) := by
  intro n X z G env st d st' ρ σ H Q h re rp q
  simp only [ev] at h
  obtain ⟨x, s1, e1, h⟩ := Res.bind_eq_ok h
  obtain ⟨ds, s2, e2, h⟩ := Res.bind_eq_ok h
  unfold fnlD at h
  split at h
  · rename_i k
    split at h
    · rename_i f hk
      exact fnl_core G hf hz hb hn h1 h2 hsz e1 e2 re rp rfl hk fun {a pins s us vs ρ1 H1} ca hl I r r1 g1 => (ca.2 hl I r r1 g1.rep).1 h fun v ρ2 H2 g2 r2 => q v ρ2 H2 (g1.trans g2) r2
    · cases h
  · cases h
theorem simX_fnl {names : List Expr} {ix e : Expr} {es : List Expr} {ks : List Nat} {i : E} {is : Es} {lp sp pos : Pos} (hf : FnsOk Γ (e :: es).length names ks) (hz : names.length ≤ 1000) (hb : nslice ix = true) (hn : (e :: es).all (fun e => !star e) = true)
    (h1 : SimE Γ ix i) (h2 : SimA Γ (e :: es) is) (hsz : ∀ {m cf gl env st ds st'}, evs gl cf is env st = .ok ds st' → m = (e :: es).length → ds.length = m) : SimX Γ (.Call (.Subscript (.List names lp) ix sp) (e :: es) [] pos) (.fnl ks i is) := by
  intro cold n X z G W tk env st y st' ρ σ H Q h re rp q
  simp only [ev] at h
  obtain ⟨x, s1, e1, h⟩ := Res.bind_eq_exc h
  obtain ⟨ds, s2, e2, h⟩ := Res.bind_eq_exc h
  unfold fnlD at h
  split at h
  · rename_i k
    split at h
    · rename_i f hk
      exact fnl_core G hf hz hb hn h1 h2 hsz e1 e2 re rp rfl hk fun {a pins s us vs ρ1 H1} ca hl I r r1 g1 => (ca.2 hl I r r1 g1.rep).2 cold tk h fun cls dd ρ2 H2 g2 r2 => q cls dd ρ2 H2 (g1.trans g2) r2
    · cases h
  · cases h

/-! ### xs.count(y), xs.index(y): flat items -/
def rCount (K : PySem.W.Frag) : V → List V → Hp → VK → Prop := fun x xs H Q => ∃ (p : Addr) (ys : List V) (y : V), x = .ref p ∧ xs = [y] ∧ SqL K H p ys ∧ flatV y = true ∧ ys.all flatV = true ∧ Q (.int (ys.countP fun w => eqV w y : Nat)) H
theorem count_eqU {y : V} : ∀ {ys : List V} {us : List Value}, Vals ys us → ys.all flatV = true → us.countP (eqU y) = ys.countP fun w => eqV w y
  | _, _, .nil, _ => rfl
  | _, _, .cons r t, f => by
    rw [List.all_cons, Bool.and_eq_true] at f
    rw [List.countP_cons, List.countP_cons, count_eqU t f.2, eqU_of r f.1]
theorem mt_cnt {X : Cx} : MtR X "list.count" (rCount X.K) := by
  intro pins s σ H x xs v us Q I rx rxs h
  obtain ⟨p, ys, y, rfl, rfl, hs, fy, fys, q⟩ := h
  cases rx
  obtain ⟨u, rfl, ru⟩ := rxs.one
  obtain ⟨its, rv, ⟨⟨cls, dd, data, sl⟩, n, ho, hc, hdn, hd⟩, hlen⟩ := I.list hs
  simp only at hc hd
  subst hc hd
  refine call_meets PySem.F.slot_list_count ⟨_, ho, rfl⟩ PySem.F.entry_list_count (PySem.F.args_list_count_2 _ _) (SeqAt.list_countAt p its.toArray n dd sl u (eqU y)) ⟨ho, fun w hw => mem_eqAt ru fy rv fys w (by simpa using hw), ?_⟩
  refine ⟨.int (ys.countP fun w => eqV w y : Nat), H, I.tok _, ⟨s.toks, ?_⟩, q⟩
  rw [← count_eqU rv fys]
theorem flats_all {K : Kx} {ρ : Pl} {st : Sto} {H : Hp} : ∀ {ds : List D} {vs : List V}, ds.all flat = true → RVs K ρ st H ds vs → vs.all flatV = true
  | _, _, _, .nil => rfl
  | _, _, f, .cons h r => by
    simp only [List.all_cons, Bool.and_eq_true] at f ⊢
    exact ⟨flat_ok f.1 h, flats_all f.2 r⟩
theorem count_flat {K : Kx} {ρ : Pl} {st : Sto} {H : Hp} {x : D} {v : V} (fx : flat x = true) (rx : RV K ρ st H x v) : ∀ {ds : List D} {vs : List V}, ds.all flat = true → RVs K ρ st H ds vs → (ds.countP fun y => eqF y x) = vs.countP fun w => eqV w v
  | _, _, _, .nil => rfl
  | _, _, f, .cons h r => by
    simp only [List.all_cons, Bool.and_eq_true] at f
    rw [List.countP_cons, List.countP_cons, count_flat fx rx f.2 r, eqF_ok f.1 fx h rx]
theorem ixF_spec {y : D} : ∀ {xs : List D} {i : Nat}, ixF y xs = some i → (∃ x, xs[i]? = some x ∧ eqF x y = true) ∧ ∀ m x, m < i → xs[m]? = some x → eqF x y = false
  | [], _, h => by simp [ixF] at h
  | x :: xs, i, h => by
    unfold ixF at h
    by_cases e : eqF x y = true
    · rw [if_pos e] at h
      cases h
      exact ⟨⟨x, rfl, e⟩, fun m _ hm => absurd hm (by omega)⟩
    · rw [if_neg e] at h
      obtain ⟨j, hj, rfl⟩ := map_some h
      obtain ⟨⟨w, w1, w2⟩, w3⟩ := ixF_spec hj
      refine ⟨⟨w, by simpa using w1, w2⟩, fun m w' hm hw => ?_⟩
      cases m with
      | zero => simp at hw; subst hw; simpa using e
      | succ m => exact w3 m w' (by omega) (by simpa using hw)
theorem sim_count {o e : Expr} {i j : E} {apos cpos : Pos} (ho : attrB o = true) (hl : (apos.endLine == cpos.line) = true) (he : star e = false) (h1 : SimE Γ o i) (h2 : SimE Γ e j) :
    SimE Γ (.Call (.Attribute o "count" apos) [e] [] cpos) (.mt .count i (.cons j .nil)) := by
  intro n X z G env st d st' ρ σ H Q h re rp q
  simp only [ev, evs] at h
  obtain ⟨x, s1, e1, h⟩ := Res.bind_eq_ok h
  obtain ⟨ys, s2, e2, h⟩ := Res.bind_eq_ok h
  obtain ⟨y, s3, e3, e2⟩ := Res.bind_eq_ok e2
  cases e2
  simp only [mt] at h
  split at h
  · rename_i xs hx
    split at h
    · rename_i hfl
      cases h
      simp only [Bool.and_eq_true] at hfl
      refine TW.of (pe_bm PySem.F.plainAttrs_list PySem.F.slot_list_count PySem.F.type_list_count mt_cnt pe_w (pa_cons pe_w pa_nil (starEach_cons he _ _)) (base_of ho _ _ _) (few1 he _ _) hl (starEach_cons he _ _) rfl) (h1 G e1 re rp fun v ρ1 H1 g1 r1 => ?_)
      have at1 : ∃ (p : Addr) (ws : List V), v = .ref p ∧ SqL X.K H1 p ws := by
        cases x with
        | lst zs => cases r1 with | lst k1 _ _ => exact ⟨_, _, rfl, SqL.of k1⟩
        | ref m => cases r1 with | ref hm => exact ⟨_, _, rfl, (g1.rep.some_of hm).choose_spec⟩
        | _ => simp [lstOf] at hx
      obtain ⟨p, ws, rfl, sq⟩ := at1
      refine ⟨.inl ⟨rfl, ws, sq⟩, h2 G e3 (re.move g1) g1.rep fun u ρ2 H2 g2 r2 => ?_⟩
      obtain ⟨p', vs, ep, k1, k2⟩ := lstOf_ok g2.rep hx (g2.rv r1)
      cases ep
      refine ⟨_, vs, u, rfl, rfl, k1, flat_ok hfl.1 r2, flats_all hfl.2 k2, ?_⟩
      rw [← count_flat hfl.1 r2 hfl.2 k2]
      exact q _ ρ2 H2 (g1.trans g2) (.int _)
    · cases h
  · cases h
theorem ixQ_spec {y : PyData} : ∀ {xs : List PyData} {i : Nat}, ixQ y xs = some i → (∃ x, xs[i]? = some x ∧ PyData.eqv x y = true) ∧ ∀ m x, m < i → xs[m]? = some x → PyData.eqv x y = false
  | [], _, h => by simp [ixQ] at h
  | x :: xs, i, h => by
    unfold ixQ at h
    by_cases e : PyData.eqv x y = true
    · rw [if_pos e] at h
      cases h
      exact ⟨⟨x, rfl, e⟩, fun m _ hm => absurd hm (by omega)⟩
    · rw [if_neg e] at h
      obtain ⟨j, hj, rfl⟩ := map_some h
      obtain ⟨⟨w, w1, w2⟩, w3⟩ := ixQ_spec hj
      refine ⟨⟨w, by simpa using w1, w2⟩, fun m w' hm hw => ?_⟩
      cases m with
      | zero => simp at hw; subst hw; simpa using e
      | succ m => exact w3 m w' (by omega) (by simpa using hw)
theorem sim_index {o e : Expr} {i j : E} {apos cpos : Pos} (ho : attrB o = true) (hl : (apos.endLine == cpos.line) = true) (he : star e = false) (h1 : SimE Γ o i) (h2 : SimE Γ e j) :
    SimE Γ (.Call (.Attribute o "index" apos) [e] [] cpos) (.mt .index i (.cons j .nil)) := by
  intro n X z G env st d st' ρ σ H Q h re rp q
  simp only [ev, evs] at h
  obtain ⟨x, s1, e1, h⟩ := Res.bind_eq_ok h
  obtain ⟨ys, s2, e2, h⟩ := Res.bind_eq_ok h
  obtain ⟨y, s3, e3, e2⟩ := Res.bind_eq_ok e2
  cases e2
  simp only [mt] at h
  split at h
  · rename_i xs hx
    split at h
    · rename_i hfl
      split at h
      · rename_i k hk
        cases h
        simp only [Bool.and_eq_true] at hfl
        refine TW.of (pe_bm PySem.F.plainAttrs_list PySem.F.slot_list_index PySem.F.type_list_index mt_index pe_w (pa_cons pe_w pa_nil (starEach_cons he _ _)) (base_of ho _ _ _) (few1 he _ _) hl (starEach_cons he _ _) rfl) (h1 G e1 re rp fun v ρ1 H1 g1 r1 => ?_)
        have at1 : ∃ (p : Addr) (ws : List V), v = .ref p ∧ SqL X.K H1 p ws := by
          cases x with
          | lst zs => cases r1 with | lst k1 _ _ => exact ⟨_, _, rfl, SqL.of k1⟩
          | ref m => cases r1 with | ref hm => exact ⟨_, _, rfl, (g1.rep.some_of hm).choose_spec⟩
          | _ => simp [lstOf] at hx
        obtain ⟨p, ws, rfl, sq⟩ := at1
        refine ⟨.inl ⟨rfl, ws, sq⟩, h2 G e3 (re.move g1) g1.rep fun u ρ2 H2 g2 r2 => ?_⟩
        obtain ⟨p', vs, ep, k1, k2⟩ := lstOf_ok g2.rep hx (g2.rv r1)
        cases ep
        obtain ⟨⟨w, w1, w2⟩, w3⟩ := ixF_spec hk
        obtain ⟨wv, y1, y2⟩ := k2.get w1
        have fw : flat w = true := List.all_eq_true.mp hfl.2 w (List.mem_of_getElem? w1)
        refine ⟨_, vs, u, k, wv, rfl, rfl, k1, flat_ok hfl.1 r2, flats_all hfl.2 k2, y1, by rw [← eqF_ok fw hfl.1 y2 r2]; exact w2, fun m zv hm hz => ?_, q _ ρ2 H2 (g1.trans g2) (.int _)⟩
        have hmx : m < xs.length := by rw [k2.length]; exact (List.getElem?_eq_some_iff.mp hz).1
        obtain ⟨zv', y3, y4⟩ := k2.get (List.getElem?_eq_getElem hmx)
        rw [hz] at y3
        cases y3
        have fz : flat xs[m] = true := List.all_eq_true.mp hfl.2 _ (List.getElem_mem hmx)
        rw [← eqF_ok fz hfl.1 y4 r2]
        exact w3 m _ hm (List.getElem?_eq_getElem hmx)
      · cases h
    · unfold ixP at h
      split at h
      · rename_i d0 ds0 p1 p2
        split at h
        · rename_i shp
          split at h
          · rename_i k hk
            cases h
            intro pins s I
            refine (pe_bm PySem.F.plainAttrs_list PySem.F.slot_list_index PySem.F.type_list_index (mt_indexD (by have := G.room.un; omega)) pe_w (pa_cons pe_w pa_nil (starEach_cons he _ _)) (base_of ho _ _ _) (few1 he _ _) hl (starEach_cons he _ _) rfl).run pins s σ H Q I (h1 G e1 re rp fun v ρ1 H1 g1 r1 => ?_)
            have at1 : ∃ (p : Addr) (ws : List V), v = .ref p ∧ SqL X.K H1 p ws := by
              cases x with
              | lst zs => cases r1 with | lst k1 _ _ => exact ⟨_, _, rfl, SqL.of k1⟩
              | ref m => cases r1 with | ref hm => exact ⟨_, _, rfl, (g1.rep.some_of hm).choose_spec⟩
              | _ => simp [lstOf] at hx
            obtain ⟨p, ws, rfl, sq⟩ := at1
            refine ⟨.inl ⟨rfl, ws, sq⟩, h2 G e3 (re.move g1) g1.rep fun u ρ2 H2 g2 r2 => ?_⟩
            obtain ⟨⟨w, w1, w2⟩, w3⟩ := ixQ_spec hk
            exact ⟨_, u, d0, ds0, k, w, rfl, rfl, (toPy_ok g2.rep p2 (g2.rv r1)).dp (SeqAt.canLay_of_shaped shp.2), (toPy_ok g2.rep p1 r2).dp (SeqAt.canLay_of_shaped shp.1), shp.2, shp.1, w1, w2, w3, q _ ρ2 H2 (g1.trans g2) (.int _)⟩
          · cases h
        · cases h
      · cases h
  · cases h
end RP

namespace RP
open PySem L2

/-! ### defs -/
structure Row where
  x : Str
  ps : List Str
  N : List Str
  st : Stmt
  fd : Fd
  mv : List Str := []
  fz : List (Nat × Nat) := []
  hot : Bool := false
structure Tab where
  rows : List Row
  gls : List (Str × D)
  bs : List Str
  xs : Xs := ⟨[], [], []⟩
  tys : List (Str × List Nat) := []
def Tab.ctx (T : Tab) (r : Row) : Ctx := { N := r.N, sc := defScope r.st, fns := T.rows.map fun r => (r.x, r.ps, r.hot), gls := T.gls, bs := T.bs, cel := fun _ => true, P := T.rows.map (·.fd), mv := r.mv, mr := r.fd.mr, fz := r.fz, xs := T.xs, tys := T.tys, hot := r.hot }
def Tab.gl (T : Tab) : List D := T.gls.map (·.2)
def Tab.P (T : Tab) : List Fd := T.rows.map (·.fd)
structure RowOk (T : Tab) (r : Row) : Prop where
  scope : FnScope r.N r.ps (defScope r.st)
  sim : SimSs (T.ctx r) (defBody r.st) r.fd.body
  np : r.fd.np = r.ps.length
  nn : r.fd.nn = r.N.length
structure Live (K : PySem.W.Frag) (mg : Str → Option Value) (r : Row) (f : Addr) (fd : FuncData) : Prop where
  fn : Fun K r.x r.x r.st f fd
  mgx : mg r.x = some (.ref f)
  binds : Binds K fd r.ps []
/-- what is known of an exception class -/
def ExOk (K : PySem.W.Frag) (mg : Str → Option Value) (xs : Xs) (k : Nat) (x : Str) : Prop := ∃ C, mg x = some (.ref C) ∧ ExF K C ∧ (xs.msg k = true → ExM K C) ∧ (k ∈ xs.mks → ∀ f, xs.fls[k]? = some (some f) → ExMk K mg C f) ∧ ∀ f, xs.fls[k]? = some (some f) → ExV K C f
structure Facts (T : Tab) (K : PySem.W.Frag) (mg : Str → Option Value) : Prop where
  rows : ∀ r ∈ T.rows, RowOk T r
  live : ∀ r ∈ T.rows, ∃ f fd, Live K mg r f fd
  gl : ∀ (k : Nat) (x : Str) (d : D), T.gls[k]? = some (x, d) → ∃ v u, mg x = some u ∧ RelV v u ∧ ∀ (z : Hz) ρ st H, RV ⟨z, K⟩ ρ st H d v
  blt : ∀ x ∈ T.bs, mg x = none
  exs : ∀ (k : Nat) (x : Str), T.xs.exs[k]? = some x → ExOk K mg T.xs k x
  exa : T.xs.exs ≠ [] → ExA K
  tys : ∀ t ∈ T.tys, TyF K mg T.xs.exs t

theorem start_env {K : Kx} {ρ : Pl} {st : Sto} {H : Hp} {N : List Str} {ds : List D} {vs : List V} {m : Nat} (r : RVs K ρ st H ds vs) (hm : m = N.length - vs.length) : REnv K ρ st H (ds.map some ++ List.replicate m none) (L2.start N vs) := by
  subst hm
  refine ⟨by simp [L2.start, r.length], fun i d h => ?_⟩
  have hi : i < ds.length := by
    by_cases hi : i < ds.length
    · exact hi
    · rw [List.getElem?_append_right (by simpa using hi), List.getElem?_replicate] at h
      split at h <;> cases h
  rw [List.getElem?_append_left (by simpa using hi), List.getElem?_map] at h
  cases e : ds[i]? with
  | none => rw [e] at h; cases h
  | some d' =>
    rw [e] at h; cases h
    obtain ⟨v, h1, h2⟩ := r.get e
    refine ⟨v, ?_, h2⟩
    unfold L2.start
    rw [List.getElem?_append_left (by rw [List.length_map, ← r.length]; exact hi), List.getElem?_map, h1]
    rfl
theorem RX.trim {mg : Str → Option Value} {exs : List Str} {κ : Kx} {ρ : Pl} {H : Hp} {st1 : Sto} {n : Nat} {x : Exn} {cls : Value} {d : Option Addr} (hn : n ≤ st1.length) (r : RX mg exs κ ρ st1 H x cls d) : RX mg exs κ ρ (trim n (tops x.args) st1) H x cls d := by
  obtain ⟨r1, r2⟩ := r
  refine ⟨r1, ?_⟩
  rcases r2 with r2 | ⟨q, a, u, h1, h2, h3, h4, h5⟩
  · exact .inl r2
  · refine .inr ⟨q, a, u, h1, h2, h3, fun m => ?_, h5.trim hn (by rw [h1]; simp [tops])⟩
    unfold RP.trim at m
    split at m
    · exact h4 (mu_take m)
    · exact h4 m

variable {P : Program} {w : World} {K : PySem.W.Frag} {mg : Str → Option Value} {base : Heap}

/-- what a row's def keeps, with so much room -/
def RowG (P : Program) (w : World) (K : PySem.W.Frag) (mg : Str → Option Value) (base : Heap) (T : Tab) (n k : Nat) (r : Row) (f : Addr) (fd : FuncData) : Prop :=
  (r.hot = false → FG P w K mg base T.xs n f fd r.ps (callN T.gl T.P n k)) ∧ (r.hot = true → FGH P w K mg base T.xs n f fd r.ps (callN T.gl T.P n k))
theorem row_fns {T : Tab} (F : Facts T K mg) {n : Nat} (IH : ∀ (k : Nat) (r : Row) (f : Addr) (fd : FuncData), T.rows[k]? = some r → Live K mg r f fd → RowG P w K mg base T n k r f fd) (k : Nat) (x : Str) (ps : List Str) (h : Bool) (hk : (T.rows.map fun r => (r.x, r.ps, r.hot))[k]? = some (x, ps, h)) :
    ∃ a fd, mg x = some (.ref a) ∧ PySem.W.keepIn K (.ref a) = true ∧ Binds K fd ps [] ∧ (h = false → FG P w K mg base T.xs n a fd ps (callN T.gl T.P n k)) ∧ (h = true → FGH P w K mg base T.xs n a fd ps (callN T.gl T.P n k)) := by
  rw [List.getElem?_map] at hk
  obtain ⟨r', h1, h2⟩ := map_some hk
  cases h2
  obtain ⟨f', fd', L'⟩ := F.live r' (List.mem_of_getElem? h1)
  obtain ⟨i1, i2⟩ := IH k r' f' fd' h1 L'
  exact ⟨f', fd', L'.mgx, L'.fn.kp, L'.binds, i1, i2⟩

theorem fg_step {T : Tab} (F : Facts T K mg) {n : Nat} (IH : ∀ (k : Nat) (r : Row) (f : Addr) (fd : FuncData), T.rows[k]? = some r → Live K mg r f fd → RowG P w K mg base T n k r f fd)
    {k : Nat} {r : Row} {f : Addr} {fd : FuncData} (hk : T.rows[k]? = some r) (Lv : Live K mg r f fd) (cold : r.hot = false) : FG P w K mg base T.xs (n + 1) f fd r.ps (callN T.gl T.P (n + 1) k) := by
  have hr := F.rows r (List.mem_of_getElem? hk)
  have S := hr.scope
  obtain ⟨oc, od, kV, doc, pm, an, cdv, ct, osl, rfl, lk, hcd⟩ := Lv.fn.ex
  intro A outer s H args us vs ds st ρ Q E room hg e0 hb r1 hl rv rp hrun
  have hPk : T.P[k]? = some r.fd := by simp [Tab.P, hk]
  have hds : ds.length = r.fd.np := by rw [rv.length, hl, hr.np]
  simp only [callN, hPk, hds, if_true] at hrun
  have KX : K.In s.heap := e0.mod.kin.keeps fun b o e => (e0.bs b o e).1
  have lim : s.heap.NoLimit := e0.mod.nolimit.keeps fun b o e => (e0.bs b o e).1
  have hkind : ∀ y ∈ r.ps.zip us, (defScope r.st).names.lookup y.1 = some .local ∨ ((defScope r.st).names.lookup y.1 = some .cell ∧ ((cellsFrom (s.heap.objs.size + 1) (defScope r.st).names []).lookup y.1).isSome = true) := fun ⟨m, v⟩ hy =>
    (S.par m (List.of_mem_zip hy).1).elim .inl fun z => .inr ⟨z, PySem.W.cellsFrom_some _ _ _ (.inl z)⟩
  refine codeAny_call_function room.depth (KX _ _ lk) rfl S.co S.gen rfl (PySem.W.codeRec_of KX hcd) (hb _ _ _ _ ?_)
  refine wpAny_newFunctionEnv_cells S.kind hkind fun env he s1 x => ?_
  subst he
  refine ⟨lim.keeps x.toInCall.keep, codeAny_func ?_⟩
  have hlen : r.fd.nn - r.fd.np = r.N.length - vs.length := by rw [hr.nn, hr.np, hl]
  let X := cxOf (L2N.CX P w) P w K mg base r.N r.x (defScope r.st) f cdv A outer s H E
  have I : Inv X [] (L2.start r.N vs) H s1 := inv_start S room.hd e0 hl r1 x
  have G : Good (T.ctx r) n X (hz0 T.xs.fl) := {
    N := rfl
    nd := S.nd
    sc := rfl
    calm := fun _ => ⟨rfl, rfl⟩
    hot := fun h => Bool.noConfusion (cold.symm.trans (show r.hot = true from h))
    room := ⟨(room.deeper _).dp, (room.deeper _).un⟩
    guards := hg
    fn := fun _ _ => rfl
    kind := S.kind
    gl := fun k x d h => by obtain ⟨v, u, h1, h2, h3⟩ := F.gl k x d h; exact ⟨v, u, h1, h2, h3 _⟩
    blt := F.blt
    exs := F.exs
    exa := F.exa
    tys := F.tys
    fns := row_fns F IH }
  have TT : GoodT X (fun cls d _ H => E cls d H) := ⟨rfl, rfl, passes_of rfl, L2N.takes_of rfl rfl rfl rfl⟩
  have fin : ∀ {s' : Shared} {fl' : Flow}, SP X [] { nx := fun σ' H' => Q .non H', rt := fun v H' => Q v H' } fl' s' → CR (L2N.CX P w) outer P w H s Q E (.ok (.ret (match fl' with | .ret v => v | _ => .none))) s' := fun {s' fl'} hs => by
    cases fl' with
    | ret u =>
      obtain ⟨v, σ', H', J, rv', q'⟩ := hs
      exact ⟨v, H', J.os, J.bare, J.base, J.hok, rv', q'⟩
    | next =>
      obtain ⟨σ', H', J, q'⟩ := hs
      exact ⟨.non, H', J.os, J.bare, J.base, J.hok, rfl, q'⟩
    | brk =>
      obtain ⟨_, _, _, q'⟩ := hs
      exact False.elim q'
    | cont =>
      obtain ⟨_, _, _, q'⟩ := hs
      exact False.elim q'
  cases e2 : evSs T.gl (callN T.gl T.P n) r.fd.body (ds.map some ++ List.replicate (r.fd.nn - r.fd.np) none) st with
  | bad => rw [e2] at hrun; exact False.elim hrun
  | exc y s2 => rw [e2] at hrun; exact False.elim hrun
  | ok fl s2 =>
    rw [e2, Res.bind_ok] at hrun
    have run := hr.sim (D := { nx := fun σ' H' => Q .non H', rt := fun v H' => Q v H' }) G TT e2 (start_env rv hlen) rp (fun env' σ' ρ' H' ef g re => by
        subst ef
        exact hrun .non ρ' H' g.trim .non) (fun d' v ρ' H' ef g rr => by
        subst ef
        simp only [RP.fin] at hrun
        split at hrun
        · split at hrun
          · rename_i e he
            split at hrun
            · rename_i hc
              simp only [Bool.and_eq_true, decide_eq_true_eq] at hc
              exact hrun _ ρ' H' (g.take (fun o ho => of_decide_eq_true (List.all_eq_true.mp hc.2 o ho)) (Nat.le_refl _) g.len) (frz_ok g.rep g.len _ he rr)
            · exact False.elim hrun
          · exact False.elim hrun
        · exact hrun _ ρ' H' g.trim (rr.trim g.len (Nat.le_refl _))) (fun y env' ef => ⟨cold, fun σ' ρ' H' cls dd g re rx => by
        subst ef
        simp only [RP.fin] at hrun
        split at hrun
        · exact hrun cls dd ρ' H' g.trim (rx.trim g.len)
        · exact False.elim hrun⟩) [] s1 I
    refine wpAny_mono run (fun fl' s' hs => ?_) fun e s' hs => hs
    have := fin hs
    cases fl' <;> exact this
theorem fgh_step {T : Tab} (F : Facts T K mg) {n : Nat} (IH : ∀ (k : Nat) (r : Row) (f : Addr) (fd : FuncData), T.rows[k]? = some r → Live K mg r f fd → RowG P w K mg base T n k r f fd)
    {k : Nat} {r : Row} {f : Addr} {fd : FuncData} (hk : T.rows[k]? = some r) (Lv : Live K mg r f fd) (warm : r.hot = true) : FGH P w K mg base T.xs (n + 1) f fd r.ps (callN T.gl T.P (n + 1) k) := by
  have hr := F.rows r (List.mem_of_getElem? hk)
  have S := hr.scope
  obtain ⟨oc, od, kV, doc, pm, an, cdv, ct, osl, rfl, lk, hcd⟩ := Lv.fn.ex
  intro A outer s H args us vs ds st ρ Q d st' p z room hg hot pin hz e0 hb r1 hl rv rp hrun q
  have hPk : T.P[k]? = some r.fd := by simp [Tab.P, hk]
  have hds : ds.length = r.fd.np := by rw [rv.length, hl, hr.np]
  simp only [callN, hPk, hds, if_true] at hrun
  obtain ⟨fl, s2, e2, hrun⟩ := Res.bind_eq_ok hrun
  have KX : K.In s.heap := e0.mod.kin.keeps fun b o e => (e0.bs b o e).1
  have lim : s.heap.NoLimit := e0.mod.nolimit.keeps fun b o e => (e0.bs b o e).1
  have hkind : ∀ y ∈ r.ps.zip us, (defScope r.st).names.lookup y.1 = some .local ∨ ((defScope r.st).names.lookup y.1 = some .cell ∧ ((cellsFrom (s.heap.objs.size + 1) (defScope r.st).names []).lookup y.1).isSome = true) := fun ⟨m, v⟩ hy =>
    (S.par m (List.of_mem_zip hy).1).elim .inl fun z => .inr ⟨z, PySem.W.cellsFrom_some _ _ _ (.inl z)⟩
  refine codeAny_call_function room.depth (KX _ _ lk) rfl S.co S.gen rfl (PySem.W.codeRec_of KX hcd) (hb _ _ _ _ ?_)
  refine wpAny_newFunctionEnv_cells S.kind hkind fun env he s1 x => ?_
  subst he
  refine ⟨lim.keeps x.toInCall.keep, codeAny_func ?_⟩
  have hlen : r.fd.nn - r.fd.np = r.N.length - vs.length := by rw [hr.nn, hr.np, hl]
  let X := L2H.cxH (L2N.CX P w) P w K mg base r.N r.x (defScope r.st) f cdv A outer s H (fun _ _ _ => False) p
  have I : Inv X [] (L2.start r.N vs) H s1 := L2H.inv_startH S pin e0 hl r1 x
  have G : Good (T.ctx r) n X z := {
    N := rfl
    nd := S.nd
    sc := rfl
    calm := fun h => Bool.noConfusion (warm.symm.trans (show r.hot = false from h))
    hot := fun _ => ⟨p, ⟨hot.1, hot.2⟩, List.mem_cons_self, hz⟩
    room := room.deeper _
    guards := hg
    fn := fun _ _ => rfl
    kind := S.kind
    gl := fun k x d h => by obtain ⟨v, u, h1, h2, h3⟩ := F.gl k x d h; exact ⟨v, u, h1, h2, h3 _⟩
    blt := F.blt
    exs := F.exs
    exa := F.exa
    tys := F.tys
    fns := row_fns F IH }
  have TT : GoodT X (fun _ _ _ _ => False) := ⟨rfl, rfl, passes_of rfl, L2N.takes_of rfl rfl rfl rfl⟩
  have fin : ∀ {s' : Shared} {fl' : Flow}, SP X [] { nx := fun σ' H' => Q .non H', rt := fun v H' => Q v H' } fl' s' → ∃ u, (Except.ok (Flow.ret (match fl' with | .ret v => v | _ => .none)) : Result) = .ok (.ret u) ∧ CE outer P w H s Q u s' := fun {s' fl'} hs => by
    cases fl' with
    | ret u =>
      obtain ⟨v, σ', H', J, rv', q'⟩ := hs
      exact ⟨u, rfl, v, H', J.os, J.bare, J.base, J.hok, rv', q'⟩
    | next =>
      obtain ⟨σ', H', J, q'⟩ := hs
      exact ⟨.none, rfl, .non, H', J.os, J.bare, J.base, J.hok, rfl, q'⟩
    | brk =>
      obtain ⟨_, _, _, q'⟩ := hs
      exact False.elim q'
    | cont =>
      obtain ⟨_, _, _, q'⟩ := hs
      exact False.elim q'
  have run := hr.sim (D := { nx := fun σ' H' => Q .non H', rt := fun v H' => Q v H' }) G TT e2 (start_env rv hlen) rp (fun env' σ' ρ' H' ef g re => by
      subst ef
      simp only [RP.fin] at hrun
      cases hrun
      exact q _ ρ' H' g.trim .non) (fun d' v ρ' H' ef g rr => by
      subst ef
      simp only [RP.fin] at hrun
      split at hrun
      · split at hrun
        · rename_i e he
          split at hrun
          · rename_i hc
            cases hrun
            simp only [Bool.and_eq_true, decide_eq_true_eq] at hc
            exact q _ ρ' H' (g.take (fun o ho => of_decide_eq_true (List.all_eq_true.mp hc.2 o ho)) (Nat.le_refl _) g.len) (frz_ok g.rep g.len _ he rr)
          · cases hrun
        · cases hrun
      · cases hrun
        exact q _ ρ' H' g.trim (rr.trim g.len (Nat.le_refl _))) (fun y env' ef => by
      subst ef
      simp only [RP.fin] at hrun
      split at hrun <;> cases hrun) [] s1 I
  refine wpAny_mono run (fun fl' s' hs => fin hs) fun e s' hs => ?_
  have no : ∀ {e : Value} {s2 : Shared}, L2N.CX P w outer H s (fun _ _ _ => False) e s2 → False := fun ⟨_, _, _, _, _, _, _, _, _, _, _, _, q⟩ => q
  exact wpAny_mono hs (fun _ s2 q => (no q).elim) fun e s2 q => (no q).elim
theorem fg_zero {T : Tab} {k : Nat} {ds : List D} {st : Sto} : callN T.gl T.P 0 k ds st = .bad := rfl
theorem fg_all {T : Tab} (F : Facts T K mg) : ∀ (n k : Nat) (r : Row) (f : Addr) (fd : FuncData), T.rows[k]? = some r → Live K mg r f fd → RowG P w K mg base T n k r f fd
  | 0, k, r, f, fd, _, _ => ⟨fun _ _ _ _ _ _ _ _ _ _ _ _ _ _ _ _ _ _ _ _ _ h => False.elim (show Post Res.bad _ _ from h), fun _ _ _ _ _ _ _ _ _ _ _ _ _ _ _ _ _ _ _ _ _ _ _ _ _ _ _ h => by simp [callN] at h⟩
  | n + 1, k, r, f, fd, hk, Lv => ⟨fun h => fg_step F (fg_all F n) hk Lv h, fun h => fgh_step F (fg_all F n) hk Lv h⟩
end RP

namespace RP
open PySem PySem.Spec PyProof.Rows L2

theorem rvs_ints {K : Kx} {ρ : Pl} {st : Sto} {H : Hp} : ∀ ns : List Int, RVs K ρ st H (ns.map D.int) (ns.map V.int)
  | [] => .nil
  | n :: r => .cons (.int n) (rvs_ints r)

/-- the law's own call, at the heap behind the top -/
theorem law_run {P : Program} {w : World} {K : PySem.W.Frag} {mg mb : Str → Option Value} {T : Tab} {r : Row} {kL N : Nat} {fa a : Addr} {fd : FuncData} {x : Str} {t : Shared} {vs : List Value} {ns : List Int}
    (KX : K.In t.heap) (hns : t.heap.Ns mainGlobals mg) (hb : t.heap.Ns builtinsNs mb) (hbb : ∀ x : Str, x ≠ "__name__" → mb x = bootBuiltins x) (hlim : t.heap.NoLimit) (hg : t.gens = #[])
    (ha : t.heap.get? a = some { cls := .type "list", data := .seq vs.toArray }) (hi : IntsAre vs ns) (hl : ns.length ≤ sizeLine) (hr : Room N callerA)
    (F : Facts T K mg) (hk : T.rows[kL]? = some r) (cold : r.hot = false) (hp : r.ps = [x]) (Lv : Live K mg r fa fd) (hbind : ∀ (s : Shared) (u : Value), BindsTo s fd ⟨[u], []⟩ [(x, u)])
    (tr : ∃ st', callN T.gl T.P N kL [.ref 0] [.fro (ns.map D.int)] = .ok (.bl true) st') :
    codeAny (model P w) callerA (.call (.ref fa) ⟨[.ref a], []⟩) (fun r s' => r = .ok (.ret (.bool true)) ∧ OldK t.heap s'.heap ∧ s'.os = t.os ∧ AllBare s'.gens) t := by
  obtain ⟨st', tr⟩ := tr
  have rv := vals_ints hi
  have main : ∀ H : Hp, Only H → Fro ⟨hz0 T.xs.fl, K⟩ H a (ns.map V.int) → HOk P w H t.heap → (∀ b, H b ≠ none → b = a) → (H a ≠ none → K.lookup a = none) →
      codeAny (model P w) callerA (.call (.ref fa) ⟨[.ref a], []⟩) (fun r s' => r = .ok (.ret (.bool true)) ∧ OldK t.heap s'.heap ∧ s'.os = t.os ∧ AllBare s'.gens) t := by
    intro H hO hS hok hA hK
    have off : ∀ {b : Addr} {o : Obj} {es : Array DictEntry} {ep : Nat}, t.heap.get? b = some o → o.data = .dict es ep → H b = none := fun {b o es ep} e d => by
      by_cases q : H b = none
      · exact q
      · obtain rfl := hA b q
        rw [ha] at e; cases e; cases d
    have nsB : ∀ {b : Addr} {m : Str → Option Value}, t.heap.Ns b m → (hidT t.heap H).Ns b m := fun {b m} ⟨o, es, ep, e, d, z⟩ => ⟨o, es, ep, hidT_get e (off e d), d, z⟩
    have kB : K.In (hidT t.heap H) := fun b o e => hidT_get (KX b o e) (by
      by_cases q : H b = none
      · exact q
      · obtain rfl := hA b q
        rw [hK q] at e; cases e)
    have M : Mod K mg (hidT t.heap H) := ⟨kB, nsB hns, ⟨mb, nsB hb, hbb⟩, let ⟨mc, h1, h2⟩ := hlim; ⟨mc, nsB h1, h2⟩⟩
    have e0 : Env0 P w K mg (hidT t.heap H) callerA [] t H := ⟨rfl, M, fun b o e => of_hidT e, Nat.le_of_eq (hidT_size _ _), trivial, fun b hb => absurd (show b ∈ ([] : List Addr) from hb) (by simp), hok, .of_eq hg⟩
    have rp : Rep ⟨hz0 T.xs.fl, K⟩ ⟨fun _ => a, fun _ => False⟩ H [.fro (ns.map D.int)] := by
      refine ⟨fun m n xs ys h1 _ _ => ?_, fun n xs h1 => ?_, fun n xs h1 => ?_, fun _ _ _ h => h, fun _ h => h.elim⟩
      · cases m with
        | zero => simp at h1
        | succ m => simp at h1
      · cases n with
        | zero => simp at h1
        | succ m => simp at h1
      · cases n with
        | zero => simp at h1; subst h1; exact ⟨_, .inl hS, rvs_ints ns⟩
        | succ m => simp at h1
    have run := (fg_all (P := P) (w := w) (base := hidT t.heap H) F N kL r fa fd hk Lv).1 cold callerA [] t H ⟨[.ref a], []⟩ [.ref a] [.ref a] [.ref 0] [.fro (ns.map D.int)] ⟨fun _ => a, fun _ => False⟩ (fun v _ => v = .bl true) (fun _ _ _ => False) hr rfl e0
      (by rw [hp]; exact hbind t (.ref a)) (.cons rfl .nil) (by rw [hp]; rfl) (.cons (.ref (by simp)) .nil) rp (by rw [tr]; exact fun v ρ' H' _ z => by cases z; rfl)
    refine codeAny_mono run fun res s' h => ?_
    cases res with
    | error e => obtain ⟨_, _, _, _, _, _, _, _, _, _, _, _, q⟩ := h; exact q.elim
    | ok fl =>
    cases fl with
    | next => exact h.elim
    | brk => exact h.elim
    | cont => exact h.elim
    | ret u =>
    obtain ⟨v, H', os, bare, un, hok', r', q⟩ := h
    subst q
    obtain rfl : u = Value.bool true := r'
    refine ⟨rfl, OldK.of_keep fun b o e => ?_, os, bare⟩
    cases q : H b with
    | none => exact un.keep b o e q (fun z => absurd (show b ∈ ([] : List Addr) from z) (by simp)) (by simp)
    | some y =>
      rcases hO b with z | ⟨ob, xs, z⟩
      · rw [q] at z; cases z
      · obtain ⟨e1, _⟩ := hok b _ z
        obtain ⟨e2, _⟩ := hok' b _ (un.frzs b ob _ z)
        rw [e] at e1; cases e1
        exact e2
  cases hka : K.lookup a with
  | some o =>
    have e := KX a o hka
    rw [ha] at e
    cases e
    exact main (fun _ => none) (fun _ => .inl rfl) (.inr ⟨_, vs.toArray, _, hka, rfl, rfl, rfl, by rw [List.size_toArray, hi.length]; exact hl, by simpa using rv⟩) (fun b u z => nomatch (show (none : Option HO) = some u from z)) (fun b z => absurd rfl z) fun z => absurd rfl z
  | none =>
    refine main (fun b => if b = a then some (.frz { cls := .type "list", data := .seq vs.toArray } (.lst (ns.map V.int))) else none) (fun b => ?_) (.inl ⟨{ cls := .type "list", data := .seq vs.toArray }, if_pos rfl⟩) (fun b u z => ?_) (fun b z => ?_) fun _ => hka
    all_goals by_cases hb : b = a
    · exact .inr ⟨_, _, if_pos hb⟩
    · exact .inl (if_neg hb)
    · cases (if_pos hb).symm.trans z
      subst hb
      exact ⟨ha, by rw [List.length_map]; exact hl, vs, _, rv, ha⟩
    · cases (if_neg hb).symm.trans z
    · exact hb
    · exact absurd (if_neg hb) z

theorem walk_rp {l : PySem.W.OpenLaw} {n N kL : Nat} {q : Program} {loose : List Str} {XP : (Str → Option Value) → Heap → Prop} {YP : World → Heap → Prop} {d : DefRec} {K : Params → PySem.W.Frag} {T : Tab} {r : Row} {x : Str}
    (hn : l.most = some n) (hn2 : n ≤ sizeLine) (hdf : d.params.defaults = []) (hr : Room N callerA) (hY : ∀ (w : World) (h : Heap), YP w h → (K w.params).In h) (hk : T.rows[kL]? = some r) (cold : r.hot = false) (hp : r.ps = [x]) (hx : r.x = d.name)
    (F : ∀ (w : World) (mg : Str → Option Value) (h : Heap), (K w.params).In h → h.Ns mainGlobals mg → XP mg h → Facts T (K w.params) mg)
    (hb : ∀ (K : PySem.W.Frag) (f : Addr) (fd : FuncData), Fun K r.x r.x r.st f fd → ∀ (s : Shared) (u : Value), BindsTo s fd ⟨[u], []⟩ [(x, u)])
    (tr : ∀ ns : List Int, ns.length ≤ n → ∃ st', callN T.gl T.P N kL [.ref 0] [.fro (ns.map D.int)] = .ok (.bl true) st') :
    PySem.W.WalkO q loose XP YP l.row.toRowW d [] (fun f vs => PySem.call f vs) := by
  refine Att.attach_call hn hdf fun w s₀ s₁ mg mb fa o pm cd doc a vs ns G Y ho hd hcd hmg hobj hints hlen hg => ?_
  have KX := hY w _ Y
  have FF := F w mg _ KX G.T.g G.X
  obtain ⟨f, fd, Lv⟩ := FF.live r (List.mem_of_getElem? hk)
  have e : f = fa := by
    have z := Lv.mgx
    rw [hx, hmg] at z
    exact (Value.ref.inj (Option.some.inj z)).symm
  subst e
  exact law_run KX G.T.g G.T.b G.T.builtins G.T.nolimit hg hobj hints (Nat.le_trans hlen hn2) hr FF hk cold hp Lv (hb _ _ _ Lv.fn) (tr ns hlen)
end RP

namespace RP
open PySem L2

def ixOf : (l : List Str) → (x : Str) → Option {i : Nat // l[i]? = some x}
  | [], _ => none
  | y :: l, x => if h : y = x then some ⟨0, by rw [h]; rfl⟩ else match ixOf l x with
    | some ⟨i, hi⟩ => some ⟨i + 1, by simpa using hi⟩
    | none => none
def ixGl : (l : List (Str × D)) → (x : Str) → Option {p : Nat × D // l[p.1]? = some (x, p.2)}
  | [], _ => none
  | (y, d) :: l, x => if h : y = x then some ⟨(0, d), by rw [h]; rfl⟩ else match ixGl l x with
    | some ⟨p, hi⟩ => some ⟨(p.1 + 1, p.2), by simpa using hi⟩
    | none => none
def ixFn (h : Bool) : (l : List (Str × List Str × Bool)) → (x : Str) → Option {p : Nat × List Str // l[p.1]? = some (x, p.2, h)}
  | [], _ => none
  | (y, d, k) :: l, x => if e : y = x ∧ k = h then some ⟨(0, d), by rw [e.1, e.2]; rfl⟩ else match ixFn h l x with
    | some ⟨p, hi⟩ => some ⟨(p.1 + 1, p.2), by simpa using hi⟩
    | none => none
def ixTy : (l : List (Str × List Nat)) → (x : Str) → Option {cs : List Nat // (x, cs) ∈ l}
  | [], _ => none
  | (y, d) :: l, x => if e : y = x then some ⟨d, by rw [e]; exact List.mem_cons_self⟩ else match ixTy l x with
    | some ⟨cs, hi⟩ => some ⟨cs, List.mem_cons_of_mem _ hi⟩
    | none => none
def binOf (mu : Bool) : (o : Operator) → Option {b : Bin // b.op = o}
  | .Add => if mu then some ⟨.addM, rfl⟩ else some ⟨.add, rfl⟩
  | .Sub => some ⟨.sub, rfl⟩
  | .Mult => some ⟨.mul, rfl⟩
  | .FloorDiv => some ⟨.fdiv, rfl⟩
  | .Mod => some ⟨.mod, rfl⟩
  | .Pow => some ⟨.pow, rfl⟩
  | _ => none
def cmpOf : (o : CmpOp) → Option {b : Cmp // b.op = o}
  | .Lt => some ⟨.lt, rfl⟩
  | .LtE => some ⟨.le, rfl⟩
  | .Gt => some ⟨.gt, rfl⟩
  | .GtE => some ⟨.ge, rfl⟩
  | .Eq => some ⟨.eq, rfl⟩
  | .NotEq => some ⟨.ne, rfl⟩
  | .Is => some ⟨.isN, rfl⟩
  | .IsNot => some ⟨.notN, rfl⟩
  | .In => some ⟨.isin, rfl⟩
  | .NotIn => some ⟨.notin, rfl⟩
def allBi : List Bi := [.len, .sum, .abs, .max, .min, .int, .tuple, .list, .repr, .all, .any, .sorted, .str, .bool]
def biOf (x : Str) : List Bi → Option {b : Bi // b.nm = x}
  | [] => none
  | b :: r => if h : b.nm = x then some ⟨b, h⟩ else biOf x r
def allTy : List Ty := [.int, .bool, .tuple, .str, .list, .dict]
def tyOf (x : Str) : List Ty → Option {b : Ty // b.nm = x}
  | [] => none
  | b :: r => if h : b.nm = x then some ⟨b, h⟩ else tyOf x r

def esLen : Es → Nat
  | .nil => 0
  | .cons _ is => esLen is + 1
theorem evs_len {gl : List D} {cf : CallF} {env : Env} : ∀ {is : Es} {st : Sto} {ds : List D} {st' : Sto} {m : Nat}, evs gl cf is env st = .ok ds st' → esLen is = m → ds.length = m
  | .nil, st, ds, st', m, h, e => by
    have h' : Res.ok [] st = Res.ok ds st' := by simpa [evs] using h
    cases h'; cases e; rfl
  | .cons i is, st, ds, st', m, h, e => by
    simp only [evs] at h
    obtain ⟨x, s1, e1, h⟩ := Res.bind_eq_ok h
    obtain ⟨xs, s2, e2, h⟩ := Res.bind_eq_ok h
    cases h
    cases e
    simp [evs_len e2 rfl, esLen]

/-- an expression that never gives None -/
def intE : E → Bool
  | .k (.int _) => true
  | .bin _ _ _ => true
  | .neg _ => true
  | .bi .len _ => true
  | _ => false
theorem bin_ne {o : Bin} {x y d : D} {st st' : Sto} (h : bin o x y st = .ok d st') : d ≠ .non := by
  intro e
  subst e
  unfold bin at h
  repeat' split at h
  all_goals cases h
theorem len_ne {xs : List D} {d : D} {st st' : Sto} (h : bi .len xs st = .ok d st') : d ≠ .non := by
  intro e
  subst e
  rcases xs with _ | ⟨x, _ | ⟨y, r⟩⟩
  · simp [bi] at h
  · cases x with
    | str z => simp only [bi] at h; split at h <;> cases h
    | dct k z => simp [bi] at h
    | ref n => simp only [bi] at h; split at h <;> cases h
    | _ => simp [bi, seqOf] at h
  · simp [bi] at h
theorem intE_ne {i : E} (hi : intE i = true) {gl : List D} {cf : CallF} {env : Env} {st : Sto} {d : D} {st' : Sto} (h : ev gl cf i env st = .ok d st') : d ≠ .non := by
  unfold intE at hi
  split at hi
  · simp only [ev] at h; cases h; intro z; cases z
  · simp only [ev] at h
    obtain ⟨_, _, _, h⟩ := Res.bind_eq_ok h
    obtain ⟨_, _, _, h⟩ := Res.bind_eq_ok h
    exact bin_ne h
  · simp only [ev] at h
    obtain ⟨x, _, _, h⟩ := Res.bind_eq_ok h
    unfold negD at h
    split at h
    · cases h; intro z; cases z
    · cases h
  · simp only [ev] at h
    obtain ⟨_, _, _, h⟩ := Res.bind_eq_ok h
    exact len_ne h
  · cases hi
/-- which kind of name -/
def isGlob (Γ : Ctx) (x : Str) : Bool := decide (Γ.sc.names.lookup x = some .globalImplicit)
def visB (Γ : Ctx) (x : Str) : Bool := decide (Γ.sc.names.lookup x = some .local ∨ Γ.sc.names.lookup x = some .cell ∨ Γ.sc.names.lookup x = some .free)
theorem visB.of {Γ : Ctx} {x : Str} (h : visB Γ x = true) : Vis Γ.sc x := by
  unfold visB at h
  simpa [Vis] using h
def ownB (Γ : Ctx) (x : Str) : Bool := decide (Γ.sc.names.lookup x = some .local ∨ (Γ.sc.names.lookup x = some .cell ∧ Γ.cel x = true))
theorem ownB.of {Γ : Ctx} {x : Str} (h : ownB Γ x = true) : Own Γ x := by
  unfold ownB at h
  simpa [Own] using h
def nmsOf (Γ : Ctx) : (es : List Expr) → Option {is : List Nat // Nms Γ es is}
  | [] => some ⟨[], .nil⟩
  | .Name x pos :: es => if ho : ownB Γ x = true then match ixOf Γ.N x with
      | some ⟨i, hi⟩ => match nmsOf Γ es with
        | some ⟨is, h⟩ => some ⟨i :: is, .cons hi (ownB.of ho) h⟩
        | none => none
      | none => none
    else none
  | _ => none
def plainNm (x : Str) : Bool := !(x == ("__debug__" : Str)) && !(x == ("__classdict__" : Str))

/-! ### what may raise -/
def noX : E → Bool
  | .call _ _ => false
  | .fnl _ _ _ => false
  | .ife _ a b => noX a && noX b
  | .and _ b => noX b
  | .or _ b => noX b
  | _ => true
section
variable {gl : List D} {cf : CallF} {env : Env} {st st' : Sto} {y : Exn}
theorem bin_nx {o : Bin} {a b : D} : bin o a b st ≠ .exc y st' := by
  intro h; unfold bin at h; repeat' split at h
  all_goals cases h
theorem ofB_nx {o : Option Bool} : ofB o st ≠ .exc y st' := by cases o <;> exact fun h => nomatch h
theorem cmp_nx {o : Cmp} {a b : D} : cmp o a b st ≠ .exc y st' := by
  intro h; unfold cmp at h; split at h
  all_goals first | (cases h; done) | exact ofB_nx h
theorem bi_nx {b : Bi} {ds : List D} : bi b ds st ≠ .exc y st' := by
  intro h; unfold bi at h; repeat' split at h
  all_goals first | (cases h; done) | (unfold reprD at h; repeat' split at h) <;> cases h
theorem mt_nx {m : Mt} {a : D} {ds : List D} : mt m a ds st ≠ .exc y st' := by
  intro h; unfold mt at h; repeat' split at h
  all_goals first
    | (cases h; done)
    | (unfold ixP at h; repeat' split at h) <;> cases h
theorem ev_nx : ∀ {i : E} {st : Sto}, noX i = true → ev gl cf i env st ≠ .exc y st'
  | .v i, _, _ => by
    intro h; simp only [ev] at h; unfold lkV at h; split at h <;> cases h
  | .k d, _, _ => by intro h; simp only [ev] at h; cases h
  | .g x, _, _ => by intro h; simp only [ev] at h; unfold lkG at h; split at h <;> cases h
  | .tup es, _, _ => by
    intro h; simp only [ev] at h
    obtain ⟨_, _, _, h⟩ := Res.bind_eq_exc h
    split at h <;> cases h
  | .lst true es, _, _ => by
    intro h; simp only [ev] at h
    obtain ⟨_, _, _, h⟩ := Res.bind_eq_exc h
    split at h <;> cases h
  | .lst false es, _, _ => by
    intro h; simp only [ev] at h
    obtain ⟨_, _, _, h⟩ := Res.bind_eq_exc h
    split at h <;> cases h
  | .dct ks es, _, _ => by
    intro h; simp only [ev] at h
    obtain ⟨_, _, _, h⟩ := Res.bind_eq_exc h
    cases h
  | .bin o a b, _, _ => by
    intro h; simp only [ev] at h
    obtain ⟨_, _, _, h⟩ := Res.bind_eq_exc h
    obtain ⟨_, _, _, h⟩ := Res.bind_eq_exc h
    exact bin_nx h
  | .cmp o a b, _, _ => by
    intro h; simp only [ev] at h
    obtain ⟨_, _, _, h⟩ := Res.bind_eq_exc h
    obtain ⟨_, _, _, h⟩ := Res.bind_eq_exc h
    exact cmp_nx h
  | .chain o p a b c, _, _ => by
    intro h; simp only [ev] at h
    obtain ⟨_, _, _, h⟩ := Res.bind_eq_exc h
    obtain ⟨_, _, _, h⟩ := Res.bind_eq_exc h
    obtain ⟨_, _, _, h⟩ := Res.bind_eq_exc h
    unfold br at h
    split at h
    · obtain ⟨_, _, _, h⟩ := Res.bind_eq_exc h
      exact cmp_nx h
    · cases h
    · cases h
  | .neg a, _, _ => by
    intro h; simp only [ev] at h
    obtain ⟨_, _, _, h⟩ := Res.bind_eq_exc h
    unfold negD at h; split at h <;> cases h
  | .not a, _, _ => by
    intro h; simp only [ev] at h
    obtain ⟨_, _, _, h⟩ := Res.bind_eq_exc h
    unfold br at h; split at h <;> cases h
  | .and a b, _, hn => by
    intro h; simp only [ev] at h
    obtain ⟨_, _, _, h⟩ := Res.bind_eq_exc h
    unfold br at h; split at h
    · exact ev_nx (i := b) hn h
    · cases h
    · cases h
  | .or a b, _, hn => by
    intro h; simp only [ev] at h
    obtain ⟨_, _, _, h⟩ := Res.bind_eq_exc h
    unfold br at h; split at h
    · cases h
    · exact ev_nx (i := b) hn h
    · cases h
  | .ife c a b, _, hn => by
    intro h; simp only [ev] at h
    simp only [noX, Bool.and_eq_true] at hn
    obtain ⟨_, _, _, h⟩ := Res.bind_eq_exc h
    unfold br at h; split at h
    · exact ev_nx (i := a) hn.1 h
    · exact ev_nx (i := b) hn.2 h
    · cases h
  | .ix a b, _, _ => by
    intro h; simp only [ev] at h
    obtain ⟨_, _, _, h⟩ := Res.bind_eq_exc h
    obtain ⟨_, _, _, h⟩ := Res.bind_eq_exc h
    unfold ixD at h; repeat' split at h
    all_goals cases h
  | .sl a lo hi, _, _ => by
    intro h; simp only [ev] at h
    obtain ⟨_, _, _, h⟩ := Res.bind_eq_exc h
    obtain ⟨_, _, _, h⟩ := Res.bind_eq_exc h
    obtain ⟨_, _, _, h⟩ := Res.bind_eq_exc h
    unfold slD at h; repeat' split at h
    all_goals cases h
  | .rev a, _, _ => by
    intro h; simp only [ev] at h
    obtain ⟨_, _, _, h⟩ := Res.bind_eq_exc h
    unfold revD at h; repeat' split at h
    all_goals cases h
  | .bi b es, _, _ => by
    intro h; simp only [ev] at h
    obtain ⟨_, _, _, h⟩ := Res.bind_eq_exc h
    exact bi_nx h
  | .isi a t, _, _ => by
    intro h; simp only [ev] at h
    obtain ⟨_, _, _, h⟩ := Res.bind_eq_exc h
    unfold isiD at h; repeat' split at h
    all_goals first | (cases h; done) | exact ofB_nx h
  | .mt m a es, _, _ => by
    intro h; simp only [ev] at h
    obtain ⟨_, _, _, h⟩ := Res.bind_eq_exc h
    obtain ⟨_, _, _, h⟩ := Res.bind_eq_exc h
    exact mt_nx h
  | .comp t it c e, _, _ => comp_noX
  | .lc t it c e, _, _ => lc_noX
  | .xis a cs, _, _ => by
    intro h; simp only [ev] at h
    obtain ⟨_, _, _, h⟩ := Res.bind_eq_exc h
    unfold xisD at h; split at h <;> cases h
  | .xat a cs, _, _ => by
    intro h; simp only [ev] at h
    obtain ⟨_, _, _, h⟩ := Res.bind_eq_exc h
    unfold xatD at h; repeat' split at h
    all_goals cases h
  | .comp2 t it u iu e, _, _ => by
    intro h; simp only [ev] at h
    obtain ⟨_, _, _, h⟩ := Res.bind_eq_exc h
    obtain ⟨_, _, _, h⟩ := Res.bind_eq_exc h
    cases h
  | .call _ _, _, hn => nomatch (show false = true from hn)
  | .fnl _ _ _, _, hn => nomatch (show false = true from hn)
end
section
variable {Γ : Ctx}
theorem simX_nx {e : Expr} {i : E} (h : noX i = true) : SimX Γ e i := simX_no (ev_nx h)
theorem simX_one {op : BoolOp} {a : Expr} {i : E} {pos : Pos} (h1 : SimX Γ a i) : SimX Γ (.BoolOp op [a] pos) i := by
  intro cold n X z G W tk env st y st' ρ σ H Q h re rp q
  exact TW.of (pe_one pe_w) (h1 cold G tk h re rp q)
theorem simX_and {a b : Expr} {r : List Expr} {i j : E} {pos : Pos} (h1 : SimE Γ a i) (h2 : SimX Γ (.BoolOp .And (b :: r) pos) j) : SimX Γ (.BoolOp .And (a :: b :: r) pos) (.and i j) := by
  intro cold n X z G W tk env st y st' ρ σ H Q h re rp q
  simp only [ev] at h
  obtain ⟨x, s1, e1, h⟩ := Res.bind_eq_exc h
  refine TW.of (pe_andT pe_w pe_w) (h1 G e1 re rp fun v ρ1 H1 g1 r1 => ?_)
  unfold br at h
  split at h
  · rename_i hb
    refine ⟨true, tru_ok g1.rep r1 hb, ?_⟩
    simp only [if_true]
    exact h2 cold G tk h (re.move g1) g1.rep fun cls dd ρ2 H2 g2 r2 => q cls dd ρ2 H2 (g1.trans g2) r2
  · cases h
  · cases h
theorem simX_or {a b : Expr} {r : List Expr} {i j : E} {pos : Pos} (h1 : SimE Γ a i) (h2 : SimX Γ (.BoolOp .Or (b :: r) pos) j) : SimX Γ (.BoolOp .Or (a :: b :: r) pos) (.or i j) := by
  intro cold n X z G W tk env st y st' ρ σ H Q h re rp q
  simp only [ev] at h
  obtain ⟨x, s1, e1, h⟩ := Res.bind_eq_exc h
  refine TW.of (pe_orT pe_w pe_w) (h1 G e1 re rp fun v ρ1 H1 g1 r1 => ?_)
  unfold br at h
  split at h
  · cases h
  · rename_i hb
    refine ⟨false, tru_ok g1.rep r1 hb, ?_⟩
    exact h2 cold G tk h (re.move g1) g1.rep fun cls dd ρ2 H2 g2 r2 => q cls dd ρ2 H2 (g1.trans g2) r2
  · cases h
theorem simX_ife {c a b : Expr} {k i j : E} {pos : Pos} (h0 : SimT Γ c k) (h1 : SimX Γ a i) (h2 : SimX Γ b j) : SimX Γ (.IfExp c a b pos) (.ife k i j) := by
  intro cold n X z G W tk env st y st' ρ σ H Q h re rp q
  simp only [ev] at h
  obtain ⟨x, s1, e1, h⟩ := Res.bind_eq_exc h
  unfold br at h
  split at h
  · rename_i hb
    refine TW.of (pe_ifExp pt_w pe_w pe_w) (h0 G e1 hb re rp fun ρ1 H1 g1 => ?_)
    rw [if_pos rfl]
    exact h1 cold G tk h (re.move g1) g1.rep fun cls dd ρ2 H2 g2 r2 => q cls dd ρ2 H2 (g1.trans g2) r2
  · rename_i hb
    refine TW.of (pe_ifExp pt_w pe_w pe_w) (h0 G e1 hb re rp fun ρ1 H1 g1 => ?_)
    rw [if_neg Bool.false_ne_true]
    exact h2 cold G tk h (re.move g1) g1.rep fun cls dd ρ2 H2 g2 r2 => q cls dd ρ2 H2 (g1.trans g2) r2
  · cases h
end
def fnsOf (Γ : Ctx) (m : Nat) : (es : List Expr) → Option {ks : List Nat // FnsOk Γ m es ks}
  | [] => some ⟨[], .nil⟩
  | .Name x p :: es => if hg : isGlob Γ x = true then if hd : (x == ("__debug__" : Str)) = false then match ixFn Γ.hot Γ.fns x with
      | some ⟨(k, ps), hk⟩ => if hl : ps.length = m then match fnsOf Γ m es with
        | some ⟨ks, h⟩ => some ⟨k :: ks, .cons hk (of_decide_eq_true hg) hd hl h⟩
        | none => none
        else none
      | none => none
      else none else none
  | _ => none
/-- the classes that keep a field of that name -/
def keepers (Γ : Ctx) (f : Str) : List Nat := (List.range Γ.xs.fls.length).filter fun c => decide (Γ.xs.fls[c]? = some (some f))

mutual
/-- with what it raises -/
def compX : Nat → (Γ : Ctx) → Bool → (e : Expr) → Option {i : E // SimE Γ e i ∧ SimX Γ e i}
  | 0, _, _, _ => none
  | m + 1, Γ, mu, e => match e with
    | .BoolOp op [a] pos => match compX m Γ false a with
      | some ⟨i, h1⟩ => some ⟨i, sim_one h1.1, simX_one h1.2⟩
      | none => none
    | .BoolOp .And (a :: b :: r) pos => match compX m Γ false a with
      | some ⟨i, h1⟩ => match compX m Γ false (.BoolOp .And (b :: r) pos) with
        | some ⟨j, h2⟩ => some ⟨.and i j, sim_and h1.1 h2.1, simX_and h1.1 h2.2⟩
        | none => none
      | none => none
    | .BoolOp .Or (a :: b :: r) pos => match compX m Γ false a with
      | some ⟨i, h1⟩ => match compX m Γ false (.BoolOp .Or (b :: r) pos) with
        | some ⟨j, h2⟩ => some ⟨.or i j, sim_or h1.1 h2.1, simX_or h1.1 h2.2⟩
        | none => none
      | none => none
    | .IfExp c a b pos => match compT m Γ c with
      | some ⟨k, h0⟩ => match compX m Γ mu a with
        | some ⟨i, h1⟩ => match compX m Γ mu b with
          | some ⟨j, h2⟩ => some ⟨.ife k i j, sim_ife h0 h1.1 h2.1, simX_ife h0 h1.2 h2.2⟩
          | none => none
        | none => none
      | none => none
    | .Call (.Subscript (.List names lp) ix sp) (e :: es) [] pos => if hb : nslice ix = true then if hn : (e :: es).all (fun e => !star e) = true then if hz : names.length ≤ 1000 then match fnsOf Γ (e :: es).length names with
      | some ⟨ks, hf⟩ => match compE m Γ false ix with
        | some ⟨i, h1⟩ => match compA m Γ (e :: es) with
          | some ⟨is, h2⟩ => if hl : esLen is = (e :: es).length then some ⟨.fnl ks i is, sim_fnl hf hz hb hn h1 h2 (fun h em => evs_len h (hl.trans em.symm)), simX_fnl hf hz hb hn h1 h2 (fun h em => evs_len h (hl.trans em.symm))⟩ else none
          | none => none
        | none => none
      | none => none
      else none else none else none
    | .Call (.Name x p) [] [] pos => match ixFn Γ.hot Γ.fns x with
      | some ⟨(k, ps), hk⟩ => if hg : isGlob Γ x = true then if hd : (x == ("__debug__" : Str)) = false then if hl : ps.length = 0 then
          some ⟨.call k .nil, sim_call0 hk (of_decide_eq_true hg) hd hl, simX_call0 hk (of_decide_eq_true hg) hd hl⟩ else none else none else none
      | none => none
    | .Call (.Name x p) (e :: es) [] pos => match ixFn Γ.hot Γ.fns x with
      | some ⟨(k, ps), hk⟩ => if hg : isGlob Γ x = true then if hn : (e :: es).all (fun e => !star e) = true then
          if hd : (x == ("__debug__" : Str)) = false then if hl : (e :: es).length = ps.length then match compA m Γ (e :: es) with
              | some ⟨is, h1⟩ => if hz : esLen is = (e :: es).length then some ⟨.call k is, sim_call hk (of_decide_eq_true hg) hd hl hn h1 (fun h em => evs_len h (hz.trans em.symm)), simX_call hk (of_decide_eq_true hg) hd hl hn h1 (fun h em => evs_len h (hz.trans em.symm))⟩ else none
              | none => none
              else none else none else none else none
      | none => match compE1 m Γ mu (.Call (.Name x p) (e :: es) [] pos) with
        | some ⟨i, h⟩ => if hx : noX i = true then some ⟨i, h, simX_nx hx⟩ else none
        | none => none
    | e => match compE1 m Γ mu e with
      | some ⟨i, h⟩ => if hx : noX i = true then some ⟨i, h, simX_nx hx⟩ else none
      | none => none
def compE : Nat → (Γ : Ctx) → Bool → (e : Expr) → Option {i : E // SimE Γ e i}
  | 0, _, _, _ => none
  | m + 1, Γ, mu, e => match compX m Γ mu e with
    | some ⟨i, h⟩ => some ⟨i, h.1⟩
    | none => none
def compE1 : Nat → (Γ : Ctx) → Bool → (e : Expr) → Option {i : E // SimE Γ e i}
  | 0, _, _, _ => none
  | m + 1, Γ, mu, e => match e with
    | .Name x pos => if hp : plainNm x = true then
        if hv : visB Γ x = true then match ixOf Γ.N x with
          | some ⟨i, hi⟩ => some ⟨.v i, sim_v hi (visB.of hv) (by simp [plainNm] at hp; simp [hp]) (by simp [plainNm] at hp; simp [hp])⟩
          | none => none
        else if hg : isGlob Γ x = true then match ixGl Γ.gls x with
          | some ⟨p, hi⟩ => some ⟨.g p.1, sim_g hi (of_decide_eq_true hg) (by simp [plainNm] at hp; simp [hp])⟩
          | none => none
        else none
      else none
    | .Constant (.int i) j pos => some ⟨_, sim_int⟩
    | .Constant (.bool i) j pos => some ⟨_, sim_bl⟩
    | .Constant (.str i) j pos => some ⟨_, sim_str⟩
    | .Constant .none j pos => some ⟨_, sim_non⟩
    | .Tuple es k pos => match compA m Γ es with
      | some ⟨i, h⟩ => some ⟨_, sim_tup h⟩
      | none => none
    | .Dict [] [] pos => some ⟨_, sim_dct0⟩
    | .List es pos => match compA m Γ es with
      | some ⟨i, h⟩ => some ⟨_, sim_lst mu h⟩
      | none => none
    | .BinOp a o b pos => match binOf mu o with
      | some ⟨o', ho⟩ => match compE m Γ false a with
        | some ⟨i, h1⟩ => match compE m Γ false b with
          | some ⟨j, h2⟩ => some ⟨.bin o' i j, ho ▸ sim_bin h1 h2⟩
          | none => none
        | none => none
      | none => none
    | .UnaryOp .USub a pos => match compE m Γ false a with
      | some ⟨i, h1⟩ => some ⟨_, sim_neg h1⟩
      | none => none
    | .UnaryOp .Not a pos => match compE m Γ false a with
      | some ⟨i, h1⟩ => some ⟨_, sim_not h1⟩
      | none => none
    | .Compare a [o] [b] pos => match cmpOf o with
      | some ⟨o', ho⟩ => if hn : nset b = true then match compE m Γ false a with
        | some ⟨i, h1⟩ => match compE m Γ false b with
          | some ⟨j, h2⟩ => some ⟨.cmp o' i j, ho ▸ sim_cmp hn h1 h2⟩
          | none => none
        | none => none
        else none
      | none => none
    | .Compare a [o, p] [b, c] pos => match cmpOf o with
      | some ⟨o', ho⟩ => match cmpOf p with
        | some ⟨p', hp⟩ => if hn : nset c = true then match compE m Γ false a with
          | some ⟨i, h1⟩ => match compE m Γ false b with
            | some ⟨j, h2⟩ => match compE m Γ false c with
              | some ⟨k, h3⟩ => some ⟨.chain o' p' i j k, ho ▸ hp ▸ sim_chain hn h1 h2 h3⟩
              | none => none
            | none => none
          | none => none
          else none
        | none => none
      | none => none
    | .Subscript a (.Slice none none (some (.UnaryOp .USub (.Constant (.int 1) k p1) p2)) p3) pos => match compE m Γ false a with
      | some ⟨i, h1⟩ => some ⟨.rev i, sim_rev h1⟩
      | none => none
    | .Subscript a (.Slice lo hi none p2) pos => match compE m Γ false a with
      | some ⟨i, h1⟩ => match compO m Γ lo with
        | some ⟨j, h2⟩ => match compO m Γ hi with
          | some ⟨k, h3⟩ => some ⟨.sl i j k, sim_slice h1 h2.1 h3.1 h2.2 h3.2⟩
          | none => none
        | none => none
      | none => none
    | .Subscript a b pos => if hb : nslice b = true then match compE m Γ false a with
        | some ⟨i, h1⟩ => match compE m Γ false b with
          | some ⟨j, h2⟩ => some ⟨.ix i j, sim_ix hb h1 h2⟩
          | none => none
        | none => none
      else none
    | .ListComp elt [⟨tg, iter, ifs, 0⟩] scope pos => match compC m Γ elt tg iter ifs scope with
      | some ⟨(t, it, c, e, own), h⟩ => if cold : Γ.hot = false then if mu then some ⟨.comp t it c e, sim_comp cold h.1 h.2.1 h.2.2.1 h.2.2.2.1 h.2.2.2.2.1 h.2.2.2.2.2.1 h.2.2.2.2.2.2⟩ else some ⟨.lc t it c e, sim_lc cold h.1 h.2.1 h.2.2.1 h.2.2.2.1 h.2.2.2.2.1 h.2.2.2.2.2.1 h.2.2.2.2.2.2⟩ else none
      | none => none
    | .ListComp elt [⟨tg, iter, [], 0⟩, ⟨tg1, iter1, [], 0⟩] scope pos => if hn : nset iter = true then if hn1 : nset iter1 = true then match compI m Γ tg iter with
      | some ⟨it, h1⟩ => match compG m (Γ.blk scope) tg with
        | some ⟨t, h2⟩ => match compI m (Γ.blk scope) tg1 iter1 with
          | some ⟨iu, h3⟩ => match compG m (Γ.blk scope) tg1 with
            | some ⟨u, h4⟩ => match compE m (Γ.blk scope) false elt with
              | some ⟨e, h5⟩ =>
                let own : List (Str × Nat) := (t.slots ++ u.slots).filterMap fun i => (Γ.N[i]?).map (·, i)
                if cold : Γ.hot = false then if hb : blkC Γ.N Γ.sc scope own = true then if ho : own.map (·.2) = t.slots ++ u.slots then some ⟨.comp2 t it u iu e, sim_two cold (blkOk_by hb) ho hn hn1 h1 h2 h3 h4 h5⟩ else none else none else none
              | none => none
            | none => none
          | none => none
        | none => none
      | none => none
      else none else none
    | .Call (.Attribute o "append" apos) [e] [] cpos => if ho : attrB o = true then if hl : (apos.endLine == cpos.line) = true then if he : star e = false then match compE m Γ false o with
        | some ⟨i, h1⟩ => match compE m Γ false e with
          | some ⟨j, h2⟩ => some ⟨_, sim_append ho hl he h1 h2⟩
          | none => none
        | none => none
        else none else none else none
    | .Call (.Attribute o "extend" apos) [e] [] cpos => if ho : attrB o = true then if hl : (apos.endLine == cpos.line) = true then if he : star e = false then match compE m Γ false o with
        | some ⟨i, h1⟩ => match compE m Γ false e with
          | some ⟨j, h2⟩ => some ⟨_, sim_extend ho hl he h1 h2⟩
          | none => none
        | none => none
        else none else none else none
    | .Call (.Attribute o "count" apos) [e] [] cpos => if ho : attrB o = true then if hl : (apos.endLine == cpos.line) = true then if he : star e = false then match compE m Γ false o with
        | some ⟨i, h1⟩ => match compE m Γ false e with
          | some ⟨j, h2⟩ => some ⟨_, sim_count ho hl he h1 h2⟩
          | none => none
        | none => none
        else none else none else none
    | .Call (.Attribute o "index" apos) [e] [] cpos => if ho : attrB o = true then if hl : (apos.endLine == cpos.line) = true then if he : star e = false then match compE m Γ false o with
        | some ⟨i, h1⟩ => match compE m Γ false e with
          | some ⟨j, h2⟩ => some ⟨_, sim_index ho hl he h1 h2⟩
          | none => none
        | none => none
        else none else none else none
    | .Attribute o f pos => if warm : Γ.hot = true then if ho : attrB o = true then if hc : (keepers Γ f).all (fun c => decide (Γ.xs.fls[c]? = some (some f))) = true then match compE m Γ false o with
        | some ⟨i, h1⟩ => some ⟨_, sim_xat warm ho hc h1⟩
        | none => none
        else none else none else none
    | .Call (.Name x p) (e :: es) [] pos => if hg : isGlob Γ x = true then if hn : (e :: es).all (fun e => !star e) = true then
          match biOf x (if mu then .listM :: allBi else allBi) with
            | some ⟨b, hb⟩ => if hm : b.nm ∈ Γ.bs then if cold : b.cool = false → Γ.hot = false then match compA m Γ (e :: es) with
                | some ⟨is, h1⟩ => some ⟨.bi b is, hb ▸ sim_bi (by rw [hb]; exact of_decide_eq_true hg) hm hn cold h1⟩
                | none => none
              else none else none
            | none => match es with
              | [.Name y p2] => if hx : x = ("isinstance" : Str) then match tyOf y allTy with
                  | some ⟨t, ht⟩ => if hy : isGlob Γ y = true then if hm : ("isinstance" : Str) ∈ Γ.bs then if hm2 : t.nm ∈ Γ.bs then if he : star e = false then match compE m Γ false e with
                      | some ⟨i, h1⟩ => some ⟨.isi i t, by subst hx; subst ht; exact sim_isi he (of_decide_eq_true hg) hm (of_decide_eq_true hy) hm2 h1⟩
                      | none => none
                      else none else none else none else none
                  | none => if warm : Γ.hot = true then match ixTy Γ.tys y with
                    | some ⟨cs, hc⟩ => if hy : isGlob Γ y = true then if hm : ("isinstance" : Str) ∈ Γ.bs then if hd : (y == ("__debug__" : Str)) = false then if he : star e = false then match compE m Γ false e with
                      | some ⟨i, h1⟩ => some ⟨.xis i cs, by subst hx; exact sim_xis warm he (of_decide_eq_true hg) hm hc (of_decide_eq_true hy) hd h1⟩
                      | none => none
                      else none else none else none else none
                    | none => none
                    else none
                else none
              | _ => none
        else none else none
    | _ => none
def compO : Nat → (Γ : Ctx) → (o : Option Expr) → Option {i : E // SimO Γ o i ∧ ∀ {gl cf env st d st'}, ev gl cf i env st = .ok d st' → o ≠ none → d ≠ .non}
  | 0, _, _ => none
  | m + 1, Γ, none => some ⟨.k .non, .inl ⟨rfl, rfl⟩, fun _ h => absurd rfl h⟩
  | m + 1, Γ, some e => match compE m Γ false e with
    | some ⟨i, h⟩ => if hi : intE i = true then some ⟨i, .inr ⟨e, rfl, h⟩, fun he _ => intE_ne hi he⟩ else some ⟨.neg (.neg i), .inr ⟨e, rfl, sim_nn h⟩, fun he _ => intE_ne (i := .neg (.neg i)) rfl he⟩
    | none => none
def compT : Nat → (Γ : Ctx) → (e : Expr) → Option {i : E // SimT Γ e i}
  | 0, _, _ => none
  | m + 1, Γ, e => match e with
    | .Compare a [o] [b] pos => match cmpOf o with
      | some ⟨o', ho⟩ => if hn : nset b = true then match compE m Γ false a with
        | some ⟨i, h1⟩ => match compE m Γ false b with
          | some ⟨j, h2⟩ => some ⟨.cmp o' i j, ho ▸ test_cmp hn h1 h2⟩
          | none => none
        | none => none
        else none
      | none => none
    | .Compare a [o, p] [b, c] pos => match cmpOf o with
      | some ⟨o', ho⟩ => match cmpOf p with
        | some ⟨p', hp⟩ => if hn : nset c = true then match compE m Γ false a with
          | some ⟨i, h1⟩ => match compE m Γ false b with
            | some ⟨j, h2⟩ => match compE m Γ false c with
              | some ⟨k, h3⟩ => some ⟨.chain o' p' i j k, ho ▸ hp ▸ test_chain hn h1 h2 h3⟩
              | none => none
            | none => none
          | none => none
          else none
        | none => none
      | none => none
    | .UnaryOp .Not a pos => match compT m Γ a with
      | some ⟨i, h1⟩ => some ⟨_, test_not h1⟩
      | none => none
    | .BoolOp op [a] pos => match compT m Γ a with
      | some ⟨i, h1⟩ => some ⟨i, test_one h1⟩
      | none => none
    | .BoolOp .And (a :: b :: r) pos => match compT m Γ a with
      | some ⟨i, h1⟩ => match compT m Γ (.BoolOp .And (b :: r) pos) with
        | some ⟨j, h2⟩ => some ⟨.and i j, test_and h1 h2⟩
        | none => none
      | none => none
    | .BoolOp .Or (a :: b :: r) pos => match compT m Γ a with
      | some ⟨i, h1⟩ => match compT m Γ (.BoolOp .Or (b :: r) pos) with
        | some ⟨j, h2⟩ => some ⟨.or i j, test_or h1 h2⟩
        | none => none
      | none => none
    | e => if hp : plainT e = true then match compE m Γ false e with
        | some ⟨i, h1⟩ => some ⟨i, test_plain hp h1⟩
        | none => none
      else none
def compA : Nat → (Γ : Ctx) → (es : List Expr) → Option {i : Es // SimA Γ es i}
  | 0, _, _ => none
  | m + 1, Γ, [] => some ⟨.nil, sim_nil⟩
  | m + 1, Γ, e :: es => if hs : star e = false then match compE m Γ false e with
      | some ⟨i, h1⟩ => match compA m Γ es with
        | some ⟨is, h2⟩ => some ⟨.cons i is, sim_cons hs h1 h2⟩
        | none => none
      | none => none
    else none
def compI : Nat → (Γ : Ctx) → (tg iter : Expr) → Option {i : It // SimI Γ tg iter i}
  | 0, _, _, _ => none
  | m + 1, Γ, tg, iter => match iter with
    | .Call (.Name "range" p) [a] [] pos => if hg : isGlob Γ "range" = true then if hm : ("range" : Str) ∈ Γ.bs then if ha : star a = false then match compE m Γ false a with
        | some ⟨i, h1⟩ => some ⟨_, iter_rng1 ha (of_decide_eq_true hg) hm h1⟩
        | none => none
        else none else none else none
    | .Call (.Name "range" p) [a, b] [] pos => if hg : isGlob Γ "range" = true then if hm : ("range" : Str) ∈ Γ.bs then if ha : star a = false then if hb : star b = false then match compE m Γ false a with
        | some ⟨i, h1⟩ => match compE m Γ false b with
          | some ⟨j, h2⟩ => some ⟨_, iter_rng2 ha hb (of_decide_eq_true hg) hm h1 h2⟩
          | none => none
        | none => none
        else none else none else none else none
    | .Call (.Name "zip" p) [a, b] [] pos => match tg with
      | .Tuple elts kk tpos => if hg : isGlob Γ "zip" = true then if hm : ("zip" : Str) ∈ Γ.bs then if ha : star a = false then if hb : star b = false then match compE m Γ false a with
        | some ⟨i, h1⟩ => match compE m Γ false b with
          | some ⟨j, h2⟩ => some ⟨_, iter_zip ha hb (of_decide_eq_true hg) hm h1 h2⟩
          | none => none
        | none => none
        else none else none else none else none
      | _ => none
    | .Call (.Name "enumerate" p) [a] [] pos => match tg with
      | .Tuple elts kk tpos => if hg : isGlob Γ "enumerate" = true then if hm : ("enumerate" : Str) ∈ Γ.bs then if ha : star a = false then match compE m Γ false a with
        | some ⟨i, h1⟩ => some ⟨_, iter_enum ha (of_decide_eq_true hg) hm h1⟩
        | none => none
        else none else none else none
      | _ => none
    | e => match compE m Γ false e with
      | some ⟨i, h1⟩ => some ⟨.seq i, iter_seq h1⟩
      | none => none
def compG : Nat → (Γ : Ctx) → (tg : Expr) → Option {i : Tg // SimG Γ tg i}
  | 0, _, _ => none
  | m + 1, Γ, tg => match tg with
    | .Name x pos => if ho : ownB Γ x = true then match ixOf Γ.N x with
        | some ⟨i, hi⟩ => some ⟨.nm i, tg_nm hi (ownB.of ho)⟩
        | none => none
      else none
    | .Tuple [a, b] k pos => if cold : Γ.hot = false then if ha : star a = false then if hb : star b = false then match compG m Γ a with
        | some ⟨i, h1⟩ => match compG m Γ b with
          | some ⟨j, h2⟩ => some ⟨_, tg_two cold ha hb h1 h2⟩
          | none => none
        | none => none
        else none else none else none
    | .Tuple es k pos => if cold : Γ.hot = false then match nmsOf Γ es with
      | some ⟨is, h⟩ => some ⟨_, tg_many cold h⟩
      | none => none
      else none
    | .Subscript a b pos => if hb : nslice b = true then match compE m Γ false a with
        | some ⟨i, h1⟩ => match compE m Γ false b with
          | some ⟨j, h2⟩ => some ⟨_, tg_sub hb h1 h2⟩
          | none => none
        | none => none
      else none
    | _ => none
def compC : Nat → (Γ : Ctx) → (elt tg iter : Expr) → (ifs : List Expr) → (scope : Scope) → Option {p : Tg × It × E × E × List (Str × Nat) // BlkOk Γ.N Γ.sc scope p.2.2.2.2 ∧ p.2.2.2.2.map (·.2) = p.1.slots ∧ nset iter = true ∧ SimI Γ tg iter p.2.1 ∧ SimG (Γ.blk scope) tg p.1 ∧ SimTs (Γ.blk scope) ifs p.2.2.1 ∧ SimE (Γ.blk scope) elt p.2.2.2.1}
  | 0, _, _, _, _, _, _ => none
  | m + 1, Γ, elt, tg, iter, ifs, scope => if hn : nset iter = true then match compI m Γ tg iter with
    | some ⟨it, h1⟩ => match compG m (Γ.blk scope) tg with
      | some ⟨t, h2⟩ => match compTs m (Γ.blk scope) ifs with
        | some ⟨c, h3⟩ => match compE m (Γ.blk scope) false elt with
          | some ⟨e, h4⟩ =>
            let own : List (Str × Nat) := t.slots.filterMap fun i => (Γ.N[i]?).map (·, i)
            if hb : blkC Γ.N Γ.sc scope own = true then if ho : own.map (·.2) = t.slots then some ⟨(t, it, c, e, own), blkOk_by hb, ho, hn, h1, h2, h3, h4⟩ else none else none
          | none => none
        | none => none
      | none => none
    | none => none
    else none
def compTs : Nat → (Γ : Ctx) → (ifs : List Expr) → Option {c : E // SimTs Γ ifs c}
  | 0, _, _ => none
  | m + 1, Γ, ifs => match ifs with
    | [] => some ⟨.k (.bl true), .inl ⟨rfl, rfl⟩⟩
    | [e] => match compT m Γ e with
      | some ⟨i, h⟩ => some ⟨i, .inr ⟨e, rfl, h⟩⟩
      | none => none
    | _ => none
end
end RP

namespace RP
open PySem L2

theorem block_fn {env : PySem.Env} {sc : Scope} (hs : env.scope = sc) (hk : sc.kind = .function) : env.blockKind = .function := by
  unfold PySem.Env.blockKind; rw [hs, hk]; rfl
theorem stores_fold {t : Expr} {a b : Expr} {k2 : Nat} {pt2 : Pos} (hf : ([a, b].all (foldedForSure 8)) = true) (env : PySem.Env) : swappedStores [t] (.Tuple [a, b] k2 pt2) env = pure none := by
  unfold swappedStores
  cases t <;> try rfl
  all_goals
    simp only []
    repeat' split
    all_goals first | rfl | (simp_all; done)
theorem stores_some {x y : Str} {px py pt pt2 : Pos} {kt k2 : Nat} {a b : Expr} {sc : Scope} (hk : sc.kind = .function) (hx : sc.names.lookup x = some .local) (hy : sc.names.lookup y = some .local) (hl : (py.line == px.line) = true) (hne : x ≠ y) (ha : star a = false) (hb : star b = false)
    (hf : ([a, b].all (foldedForSure 8)) = false) (hc : ([a, b].all (constantsAlone 8)) = false) (env : PySem.Env) (hs : env.scope = sc) : swappedStores [.Tuple [.Name x px, .Name y py] kt pt] (.Tuple [a, b] k2 pt2) env = pure (some [x, y]) := by
  have hbk := block_fn hs hk
  have kx : env.kindOf x = some .local := by show env.scope.names.lookup x = _; rw [hs]; exact hx
  have ky : env.kindOf y = some .local := by show env.scope.names.lookup y = _; rw [hs]; exact hy
  have hd : ([x, y] : List Str).eraseDups.length = 2 := by
    have e1 : (y == x) = false := by simpa using fun z => hne z.symm
    have e2 : (x == y) = false := by simpa using hne
    simp [List.eraseDups_cons, List.filter, e1, e2]
  have hl' : py.line = px.line := by simpa using hl
  unfold swappedStores
  simp only [List.length_cons, List.length_nil, hbk, List.any_cons, List.any_nil, List.head?_cons, Option.map_some, Option.getD_some, List.filterMap_cons, List.filterMap_nil, kx, ky, hl', hf, hc, Expr.pos]
  simp [hd]
  intro z
  exfalso
  rcases z with z | z
  · cases a <;> first | (cases z; done) | cases ha
  · cases b <;> first | (cases z; done) | cases hb

theorem stores_cell {x y : Str} {px py pt pt2 : Pos} {kt k2 : Nat} {a b : Expr} {sc : Scope} (h : (decide (sc.names.lookup x = some .local) && decide (sc.names.lookup y = some .local)) = false) (env : PySem.Env) (hs : env.scope = sc) :
    swappedStores [.Tuple [.Name x px, .Name y py] kt pt] (.Tuple [a, b] k2 pt2) env = pure none := by
  have kx : env.kindOf x = sc.names.lookup x := by show env.scope.names.lookup x = _; rw [hs]
  have ky : env.kindOf y = sc.names.lookup y := by show env.scope.names.lookup y = _; rw [hs]
  simp only [Bool.and_eq_false_iff, decide_eq_false_iff_not] at h
  unfold swappedStores
  simp only [List.length_cons, List.length_nil, List.any_cons, List.any_nil, List.head?_cons, Option.map_some, Option.getD_some, List.filterMap_cons, List.filterMap_nil, kx, ky, Expr.pos]
  split
  · rfl
  · split
    · rfl
    · have e : ∀ (P : Prop) [Decidable P] (u v : Sem (Option (List Str))), P → (if P then u else v) = u := fun P _ u v hp => if_pos hp
      rcases h with h | h
      · have h1 : (sc.names.lookup x == some NameKind.local) = false := by simpa using h
        simp only [h1, Bool.false_and, Bool.false_eq_true, if_false]
        split <;> simp
        intro z; exfalso; revert z; split <;> simp
      · have h1 : (sc.names.lookup y == some NameKind.local) = false := by simpa using h
        simp only [h1, Bool.false_and, Bool.false_eq_true, if_false]
        split <;> simp
        intro z; exfalso; revert z; split <;> simp
theorem stores_three {x y z : Str} {px py pz pt pt2 : Pos} {kt k2 : Nat} {a b c : Expr} {sc : Scope} (hk : sc.kind = .function) (hx : sc.names.lookup x = some .local) (hy : sc.names.lookup y = some .local) (hz : sc.names.lookup z = some .local)
    (hl : (py.line == px.line) = true) (hl2 : (pz.line == px.line) = true) (hxy : x ≠ y) (hxz : x ≠ z) (hyz : y ≠ z) (ha : star a = false) (hb : star b = false) (hc0 : star c = false)
    (hf : ([a, b, c].all (foldedForSure 8)) = false) (hc : ([a, b, c].all (constantsAlone 8)) = false) (env : PySem.Env) (hs : env.scope = sc) :
    swappedStores [.Tuple [.Name x px, .Name y py, .Name z pz] kt pt] (.Tuple [a, b, c] k2 pt2) env = pure (some [x, y, z]) := by
  have hbk := block_fn hs hk
  have kx : env.kindOf x = some .local := by show env.scope.names.lookup x = _; rw [hs]; exact hx
  have ky : env.kindOf y = some .local := by show env.scope.names.lookup y = _; rw [hs]; exact hy
  have kz : env.kindOf z = some .local := by show env.scope.names.lookup z = _; rw [hs]; exact hz
  have hd : ([x, y, z] : List Str).eraseDups.length = 3 := by
    have e1 : (y == x) = false := by simpa using fun q => hxy q.symm
    have e2 : (z == x) = false := by simpa using fun q => hxz q.symm
    have e3 : (z == y) = false := by simpa using fun q => hyz q.symm
    simp [List.eraseDups_cons, List.filter, e1, e2, e3]
  have hl' : py.line = px.line := by simpa using hl
  have hl2' : pz.line = px.line := by simpa using hl2
  unfold swappedStores
  simp only [List.length_cons, List.length_nil, hbk, List.any_cons, List.any_nil, List.head?_cons, Option.map_some, Option.getD_some, List.filterMap_cons, List.filterMap_nil, kx, ky, kz, hl', hl2', hf, hc, Expr.pos]
  simp [hd]
  intro q
  exfalso
  rcases q with q | q | q
  · cases a <;> first | (cases q; done) | cases ha
  · cases b <;> first | (cases q; done) | cases hb
  · cases c <;> first | (cases q; done) | cases hc0
def lineOf (c : Stmt) : Nat := match c with
  | .Expr _ p => p.line
  | .Return _ p => p.line
  | .If _ _ _ p => p.line
  | .For _ _ _ _ p => p.line
  | .While _ _ _ p => p.line
  | .Assign _ _ p => p.line
  | .AugAssign _ _ _ p => p.line
  | .Raise _ _ p => p.line
  | _ => 0
def frzAll (Γ : Ctx) (cs : List Stmt) : List Nat → {i : Ss // SimSs Γ cs i} → {i : Ss // SimSs Γ cs i}
  | [], r => r
  | k :: ks, r => frzAll Γ cs ks ⟨.cons (.frz k) r.1, sims_frz r.2⟩
/-- does a suite end in `continue`? has a body such a branch? -/
def endsCont : List Stmt → Bool
  | [] => false
  | [.Continue _] => true
  | _ :: cs => endsCont cs
def hasCont (cs : List Stmt) : Bool := cs.any fun c => match c with
  | .If _ a [] _ => endsCont a
  | _ => false
mutual
def compS : Nat → (Γ : Ctx) → (c : Stmt) → Option {i : S // SimS Γ c i}
  | 0, _, _ => none
  | m + 1, Γ, c => match c with
    | .Pass pos => some ⟨_, s_skip⟩
    | .Expr e pos => if hc : ncomp e = true then match compX m Γ false e with
        | some ⟨i, h⟩ => some ⟨_, s_ex hc h.1 h.2⟩
        | none => none
      else none
    | .Return (some e) pos => match compX m Γ Γ.mr e with
      | some ⟨i, h⟩ => some ⟨_, s_ret h.1 h.2⟩
      | none => none
    | .Return none pos => some ⟨_, s_retN⟩
    | .If c a b pos => match compT m Γ c with
      | some ⟨i, h0⟩ => match compSs m Γ a with
        | some ⟨x, h1⟩ => match compSs m Γ b with
          | some ⟨y, h2⟩ => some ⟨_, s_ife h0 h1 h2⟩
          | none => none
        | none => none
      | none => none
    | .For tg iter body [] pos => if cold : Γ.hot = false then if hn : nset iter = true then match compI m Γ tg iter with
        | some ⟨it, h0⟩ => match compG m Γ tg with
          | some ⟨t, h1⟩ => match compL m Γ body with
            | some ⟨b, h2⟩ => some ⟨_, s_for cold hn h0 h1 h2⟩
            | none => none
          | none => none
        | none => none
      else none else none
    | .AugAssign (.Subscript a i tp) o e pos => match binOf false o with
      | some ⟨o', ho⟩ => if hi : nslice i = true then match compE m Γ false a with
        | some ⟨j1, h1⟩ => match compE m Γ false i with
          | some ⟨j2, h2⟩ => match compE m Γ false e with
            | some ⟨j3, h3⟩ => some ⟨.augIx j1 j2 o' j3, ho ▸ s_augIx hi h1 h2 h3⟩
            | none => none
          | none => none
        | none => none
        else none
      | none => none
    | .AugAssign (.Name x p) o e pos => match binOf false o with
      | some ⟨o', ho⟩ => if hx : ownB Γ x = true then match ixOf Γ.N x with
        | some ⟨i, hi⟩ => match compE m Γ false e with
          | some ⟨j, h⟩ => some ⟨.aug i o' j, ho ▸ s_aug hi (ownB.of hx) h⟩
          | none => none
        | none => none
        else none
      | none => none
    | .Raise (some (.Call (.Name x p) [.Constant (.str t) j p2] [] cp)) none pos => if cold : Γ.hot = false then match ixOf Γ.xs.exs x with
      | some ⟨c, hc⟩ => if hm : Γ.xs.msg c = true then if hg : isGlob Γ x = true then if hd : (x == ("__debug__" : Str)) = false then some ⟨.rse c .nil, s_rse cold hc hm (of_decide_eq_true hg) hd⟩ else none else none else none
      | none => none
      else none
    | .Raise (some (.Call (.Name x p) [e] [] cp)) none pos => if cold : Γ.hot = false then match ixOf Γ.xs.exs x with
      | some ⟨c, hc⟩ => if hm : c ∈ Γ.xs.mks then if hg : isGlob Γ x = true then if hd : (x == ("__debug__" : Str)) = false then if hv : star e = false then
        match hf : Γ.xs.fls[c]? with
        | some (some f) => match compE m Γ false e with
          | some ⟨j, h⟩ => some ⟨.rse c (.cons j .nil), s_rseV cold hc hm hf (of_decide_eq_true hg) hd hv h⟩
          | none => none
        | _ => none
        else none else none else none else none
      | none => none
      else none
    | .Try body (h0 :: hs) [] [] pos => if cold : Γ.hot = false then match compSs m Γ body with
      | some ⟨b, h1⟩ => match compHs m Γ (h0 :: hs) with
        | some ⟨k, h2⟩ => some ⟨.tr b k, s_try cold h1 h2⟩
        | none => none
      | none => none
      else none
    | .Assign [.Name y py] (.ListComp elt [⟨tg, iter, ifs, 0⟩] scope pos) spos => if hz : (decide (Γ.sc.names.lookup y = some .local) && (py.line == pos.line) && !(scope.names.any fun (n, k) => n == y && (k == .local || k == .cell))) = false then
        match compE m Γ (Γ.mv.contains y) (.ListComp elt [⟨tg, iter, ifs, 0⟩] scope pos) with
        | some ⟨i, h1⟩ => if hx : noX i = true then match compG m Γ (.Name y py) with
          | some ⟨t, h2⟩ => some ⟨_, s_asgLc0 hz h1 (ev_nx hx) h2⟩
          | none => none
          else none
        | none => none
      else if hyl : decide (Γ.sc.names.lookup y = some .local) = true then if hl : (py.line == pos.line) = true then if ha : (scope.names.any fun (n, k) => n == y && (k == .local || k == .cell)) = false then
        match ixOf Γ.N y with
        | some ⟨j, hj⟩ => match compC m Γ elt tg iter ifs scope with
          | some ⟨(t, it, c, e, own), h⟩ => if cold : Γ.hot = false then if Γ.mv.contains y then some ⟨.asg (.nm j) (.comp t it c e), s_asgLc cold hj (of_decide_eq_true hyl) hl ha h.1 h.2.1 h.2.2.1 h.2.2.2.1 h.2.2.2.2.1 h.2.2.2.2.2.1 h.2.2.2.2.2.2⟩
              else some ⟨.asg (.nm j) (.lc t it c e), s_asgLv cold hj (of_decide_eq_true hyl) hl ha h.1 h.2.1 h.2.2.1 h.2.2.2.1 h.2.2.2.2.1 h.2.2.2.2.2.1 h.2.2.2.2.2.2⟩ else none
          | none => none
        | none => none
      else none else none else none
    | .Assign [.Name y py] e pos => if hc : ncomp e = true then match compX m Γ (Γ.mv.contains y) e with
        | some ⟨i, h1⟩ => match compG m Γ (.Name y py) with
          | some ⟨t, h2⟩ => some ⟨_, s_asg rfl (fun env _ => stores_no2 env) hc h1.1 h1.2 h2⟩
          | none => none
        | none => none
      else none
    | .Assign [.Subscript o k py] e pos => if hc : ncomp e = true then match compX m Γ false e with
        | some ⟨i, h1⟩ => match compG m Γ (.Subscript o k py) with
          | some ⟨t, h2⟩ => some ⟨_, s_asg rfl (fun env _ => stores_no3 env) hc h1.1 h1.2 h2⟩
          | none => none
        | none => none
      else none
    | .Assign [.Tuple [.Name x px, .Name y py] kt pt] (.Tuple [a, b] k2 pt2) pos => if hf : ([a, b].all (foldedForSure 8)) = true then match compX m Γ false (.Tuple [a, b] k2 pt2) with
        | some ⟨i, h1⟩ => match compG m Γ (.Tuple [.Name x px, .Name y py] kt pt) with
          | some ⟨t, h2⟩ => some ⟨_, s_asg rfl (fun env _ => stores_fold hf env) rfl h1.1 h1.2 h2⟩
          | none => none
        | none => none
      else if hce : (decide (Γ.sc.names.lookup x = some .local) && decide (Γ.sc.names.lookup y = some .local)) = false then match compX m Γ false (.Tuple [a, b] k2 pt2) with
        | some ⟨i, h1⟩ => match compG m Γ (.Tuple [.Name x px, .Name y py] kt pt) with
          | some ⟨t, h2⟩ => some ⟨_, s_asg rfl (fun env hs => stores_cell hce env hs) rfl h1.1 h1.2 h2⟩
          | none => none
        | none => none
      else if hc : ([a, b].all (constantsAlone 8)) = false then if hx : decide (Γ.sc.names.lookup x = some .local) = true then if hy : decide (Γ.sc.names.lookup y = some .local) = true then if hl : (py.line == px.line) = true then if hne : x ≠ y then
        if cold : Γ.hot = false then if ha : star a = false then if hb : star b = false then if hk : decide (Γ.sc.kind = .function) = true then match ixOf Γ.N x with
          | some ⟨i, hi⟩ => match ixOf Γ.N y with
            | some ⟨j, hj⟩ => match compE m Γ (Γ.mv.contains x) a with
              | some ⟨k, h1⟩ => match compE m Γ (Γ.mv.contains y) b with
                | some ⟨l, h2⟩ => some ⟨.two i j k l, s_two cold hi hj (fun z => by subst z; rw [hi] at hj; exact hne (Option.some.inj hj)) (of_decide_eq_true hx) (of_decide_eq_true hy) (fun env hs => stores_some (of_decide_eq_true hk) (of_decide_eq_true hx) (of_decide_eq_true hy) hl hne ha hb (by simpa using hf) hc env hs) ha hb h1 h2⟩
                | none => none
              | none => none
            | none => none
          | none => none
        else none else none else none else none else none else none else none else none else none
    | .While c body [] pos => match compT m Γ c with
      | some ⟨k, h0⟩ => match compSs m Γ body with
        | some ⟨b, h2⟩ => some ⟨_, s_while h0 h2⟩
        | none => none
      | none => none
    | .Assign [.Tuple [.Name x px, .Name y py, .Name z pz] kt pt] (.Tuple [a, b, c] k2 pt2) pos => if hf : ([a, b, c].all (foldedForSure 8)) = false then if hc : ([a, b, c].all (constantsAlone 8)) = false then
        if hx : decide (Γ.sc.names.lookup x = some .local) = true then if hy : decide (Γ.sc.names.lookup y = some .local) = true then if hz : decide (Γ.sc.names.lookup z = some .local) = true then
        if hl : ((py.line == px.line) && (pz.line == px.line)) = true then if hne : x ≠ y ∧ x ≠ z ∧ y ≠ z then if hst : star a = false ∧ star b = false ∧ star c = false then if cold : Γ.hot = false then if hk : decide (Γ.sc.kind = .function) = true then
        match ixOf Γ.N x with
        | some ⟨i, hi⟩ => match ixOf Γ.N y with
          | some ⟨j, hj⟩ => match ixOf Γ.N z with
            | some ⟨l, hl3⟩ => match compE m Γ (Γ.mv.contains x) a with
              | some ⟨ka, h1⟩ => match compE m Γ (Γ.mv.contains y) b with
                | some ⟨kb, h2⟩ => match compE m Γ (Γ.mv.contains z) c with
                  | some ⟨kc, h3⟩ => some ⟨.three i j l ka kb kc, s_three cold hi hj hl3 (fun q => by subst q; rw [hi] at hj; exact hne.1 (Option.some.inj hj)) (fun q => by subst q; rw [hi] at hl3; exact hne.2.1 (Option.some.inj hl3)) (fun q => by subst q; rw [hj] at hl3; exact hne.2.2 (Option.some.inj hl3))
                      (of_decide_eq_true hx) (of_decide_eq_true hy) (of_decide_eq_true hz) (fun env hs => stores_three (of_decide_eq_true hk) (of_decide_eq_true hx) (of_decide_eq_true hy) (of_decide_eq_true hz) (by simp only [Bool.and_eq_true] at hl; exact hl.1) (by simp only [Bool.and_eq_true] at hl; exact hl.2) hne.1 hne.2.1 hne.2.2 hst.1 hst.2.1 hst.2.2 hf hc env hs) hst.1 hst.2.1 hst.2.2 h1 h2 h3⟩
                  | none => none
                | none => none
              | none => none
            | none => none
          | none => none
        | none => none
        else none else none else none else none else none else none else none else none else none else none
    | .Assign [.Tuple es kt pt] e pos => if hc : ncomp e = true then if ht : ntup e = true then match compX m Γ false e with
        | some ⟨i, h1⟩ => match compG m Γ (.Tuple es kt pt) with
          | some ⟨t, h2⟩ => some ⟨_, s_asg rfl (fun env _ => stores_no1 ht env) hc h1.1 h1.2 h2⟩
          | none => none
        | none => none
      else none else none
    | _ => none
def compHs : Nat → (Γ : Ctx) → (l : List ExceptHandler) → Option {i : Hs // SimH Γ l i}
  | 0, _, _ => none
  | m + 1, Γ, [] => some ⟨.nil, h_nil⟩
  | m + 1, Γ, .ExceptHandler (some (.Name x p)) none (u :: us) q :: l => if cold : Γ.hot = false then if hg : isGlob Γ x = true then if hd : (x == ("__debug__" : Str)) = false then match ixTy Γ.tys x with
    | some ⟨cs, ht⟩ => match compSs m Γ.warm (u :: us) with
      | some ⟨b, h1⟩ => match compHs m Γ l with
        | some ⟨k, h2⟩ => some ⟨.cons cs none b k, h_cons cold (of_decide_eq_true hg) hd ht (.inl ⟨rfl, rfl⟩) h1 h2⟩
        | none => none
      | none => none
    | none => none
    else none else none else none
  | m + 1, Γ, .ExceptHandler (some (.Name x p)) (some y) (u :: us) q :: l => if cold : Γ.hot = false then if hg : isGlob Γ x = true then if hd : (x == ("__debug__" : Str)) = false then if hy : decide (Γ.sc.names.lookup y = some .local) = true then match ixTy Γ.tys x with
    | some ⟨cs, ht⟩ => match ixOf Γ.N y with
      | some ⟨j, hj⟩ => match compSs m Γ.warm (u :: us) with
        | some ⟨b, h1⟩ => match compHs m Γ l with
          | some ⟨k, h2⟩ => some ⟨.cons cs (some j) b k, h_cons cold (of_decide_eq_true hg) hd ht (.inr ⟨y, j, rfl, rfl, hj, of_decide_eq_true hy⟩) h1 h2⟩
          | none => none
        | none => none
      | none => none
    | none => none
    else none else none else none else none
  | _, _, _ => none
def compSs : Nat → (Γ : Ctx) → (cs : List Stmt) → Option {i : Ss // SimSs Γ cs i}
  | 0, _, _ => none
  | m + 1, Γ, [] => some ⟨.nil, sims_nil⟩
  | m + 1, Γ, c :: cs => match compS m Γ c with
    | some ⟨i, h1⟩ => match compSs m Γ cs with
      | some ⟨is, h2⟩ => some (frzAll Γ (c :: cs) (Γ.fz.filterMap fun p => if p.1 == lineOf c then some p.2 else none) ⟨.cons i is, sims_cons h1 h2⟩)
      | none => none
    | none => match compSs m Γ cs with
      | some ⟨is, h2⟩ => some ⟨.cons .never is, sims_cons s_never h2⟩
      | none => none
def compCt : Nat → (Γ : Ctx) → (cs : List Stmt) → Option {i : Ss // SimSsC Γ cs i}
  | 0, _, _ => none
  | m + 1, Γ, cs => match cs with
    | [] => none
    | [.Continue p] => some ⟨.nil, simsC_end⟩
    | c :: cs => match compS m Γ c with
      | some ⟨i, h1⟩ => match compCt m Γ cs with
        | some ⟨is, h2⟩ => some ⟨.cons i is, simsC_cons h1 h2⟩
        | none => none
      | none => none
def compL : Nat → (Γ : Ctx) → (cs : List Stmt) → Option {i : Ss // SimSsL Γ cs i}
  | 0, _, _ => none
  | m + 1, Γ, cs => if hasCont cs then match cs with
    | [] => some ⟨.nil, simsL_nil⟩
    | .If c a [] pos :: cs => if endsCont a then match compT m Γ c with
        | some ⟨i, h0⟩ => match compCt m Γ a with
          | some ⟨x, h1⟩ => match compL m Γ cs with
            | some ⟨is, h2⟩ => some ⟨_, simsL_if h0 h1 h2⟩
            | none => none
          | none => none
        | none => none
      else match compS m Γ (.If c a [] pos) with
        | some ⟨i, h1⟩ => match compL m Γ cs with
          | some ⟨is, h2⟩ => some ⟨.cons i is, simsL_cons h1 h2⟩
          | none => none
        | none => none
    | c :: cs => match compS m Γ c with
      | some ⟨i, h1⟩ => match compL m Γ cs with
        | some ⟨is, h2⟩ => some ⟨.cons i is, simsL_cons h1 h2⟩
        | none => none
      | none => none
    else match compSs m Γ cs with
      | some ⟨is, h⟩ => some ⟨is, simsL_of h⟩
      | none => none
end

/-- the check of one def -/
theorem row_ok {T : Tab} {r : Row} (h : (compSs 200 (T.ctx r) (defBody r.st)).map (·.1) = some r.fd.body) (S : FnScope r.N r.ps (defScope r.st)) (h1 : r.fd.np = r.ps.length) (h2 : r.fd.nn = r.N.length) : RowOk T r := by
  refine ⟨S, ?_, h1, h2⟩
  obtain ⟨⟨i, hi⟩, _, e⟩ := map_some h
  cases e
  exact hi
end RP

namespace RP
open PySem L2

/-! ### constants of the module's top -/
mutual
inductive GV (K : PySem.W.Frag) : D → Value → Prop where
  | non : GV K .non .none
  | bl (b : Bool) : GV K (.bl b) (.bool b)
  | int (i : Int) (t : Tok) : GV K (.int i) (.int i t)
  | str (x : Str) (t : Tok) : GV K (.str x) (.str x t)
  | tup {a : Addr} {od : Option Addr} {us : List Value} {n : Nat} {sl : Array (Option Value)} {ds : List D} (lk : K.lookup a = some ⟨.type "tuple", od, .seq us.toArray n, sl⟩) (hz : us.length ≤ sizeLine) (r : GVs K ds us) : GV K (.tup ds) (.ref a)
inductive GVs (K : PySem.W.Frag) : List D → List Value → Prop where
  | nil : GVs K [] []
  | cons {d : D} {u : Value} {ds : List D} {us : List Value} : GV K d u → GVs K ds us → GVs K (d :: ds) (u :: us)
end
mutual
theorem GV.rv {K : PySem.W.Frag} : ∀ {d : D} {u : Value}, GV K d u → ∃ v, RelV v u ∧ ∀ (z : Hz) ρ st H, RV ⟨z, K⟩ ρ st H d v
  | .non, _, .non => ⟨.non, rfl, fun _ _ _ _ => .non⟩
  | .bl _, _, .bl b => ⟨.bl b, rfl, fun _ _ _ _ => .bl b⟩
  | .int _, _, .int i t => ⟨.int i, ⟨t, rfl⟩, fun _ _ _ _ => .int i⟩
  | .str _, _, .str x t => ⟨.str x, ⟨t, rfl⟩, fun _ _ _ _ => .str x⟩
  | .tup _, _, .tup (a := a) (us := us) lk hz r => by
    obtain ⟨vs, h1, h2⟩ := GVs.rv r
    exact ⟨.ref a, rfl, fun z ρ L H => .tup (.inr ⟨_, us.toArray, _, lk, rfl, rfl, by simpa using hz, by simpa using h1⟩) (h2 z ρ L H)⟩
theorem GVs.rv {K : PySem.W.Frag} : ∀ {d : List D} {u : List Value}, GVs K d u → ∃ v, Vals v u ∧ ∀ (z : Hz) ρ st H, RVs ⟨z, K⟩ ρ st H d v
  | [], _, .nil => ⟨[], .nil, fun _ _ _ _ => .nil⟩
  | _ :: _, _, .cons h r => by
    obtain ⟨v, h1, h2⟩ := GV.rv h
    obtain ⟨vs, h3, h4⟩ := GVs.rv r
    exact ⟨v :: vs, .cons h1 h3, fun z ρ L H => .cons (h2 z ρ L H) (h4 z ρ L H)⟩
end
theorem gl_of_mem {gls : List (Str × D)} {K : PySem.W.Frag} {mg : Str → Option Value} (h : ∀ p ∈ gls, ∃ u, mg p.1 = some u ∧ GV K p.2 u) : ∀ (k : Nat) (x : Str) (d : D), gls[k]? = some (x, d) → ∃ v u, mg x = some u ∧ RelV v u ∧ ∀ (z : Hz) ρ st H, RV ⟨z, K⟩ ρ st H d v := fun k x d e => by
  obtain ⟨u, h1, h2⟩ := h (x, d) (List.mem_of_getElem? e)
  obtain ⟨v, h3, h4⟩ := h2.rv
  exact ⟨v, u, h1, h3, h4⟩
theorem fa_nil {α : Type} {p : α → Prop} : ∀ x ∈ ([] : List α), p x := fun _ h => nomatch h
theorem fa_cons {α : Type} {p : α → Prop} {a : α} {l : List α} (h : p a) (t : ∀ x ∈ l, p x) : ∀ x ∈ a :: l, p x := fun x hx => by
  rcases List.mem_cons.mp hx with rfl | hx
  · exact h
  · exact t x hx
theorem live_mk {K : PySem.W.Frag} {h : Heap} {mg : Str → Option Value} {r : Row} {f : Addr} {oc : Value} {od an : Option Addr} {osl : Array (Option Value)} {kV doc pm cdv ct : Value} (X : K.In h) (G : h.Ns mainGlobals mg) (a : PySem.W.nsIn K mainGlobals r.x = some (some (.ref f)))
    (l : K.lookup f = some ⟨oc, od, .func (PySem.W.fnOf r.x r.x (defArgs r.st) (defBody r.st) (defScope r.st) .none kV doc pm an cdv ct), osl⟩) (c : PySem.W.codeIn K cdv r.x = true) (k : PySem.W.keepIn K (.ref f) = true)
    (b : ∀ (kV doc pm : Value) (an : Option Addr) (cdv ct : Value) (us : List Value), us.length = r.ps.length → bindArgs (PySem.W.fnOf r.x r.x (defArgs r.st) (defBody r.st) (defScope r.st) .none kV doc pm an cdv ct) ⟨us, []⟩ = pure (r.ps.zip us)) : ∃ f fd, Live K mg r f fd := by
  have F := fun_mk (st := r.st) l c k
  exact ⟨f, _, F, PySem.W.mg_of X G a, F.binds b⟩
/-- a statement of a class body -/
def inC (s : Stmt) (j : Nat) : Stmt := match s with
  | .ClassDef _ _ _ body .. => body.getD j (.Pass ⟨0, 0, 0, 0⟩)
  | _ => .Pass ⟨0, 0, 0, 0⟩
theorem exmk_mk {K : PySem.W.Frag} {h : Heap} {mg : Str → Option Value} (X : K.In h) (G : h.Ns mainGlobals mg) {C fI : Addr} {B newId initId : String} {bmB : List Value} {f me p q : Str} {st : Stmt}
    {oc : Value} {od an : Option Addr} {osl : Array (Option Value)} {kV doc pm cdv ct : Value} (bb : BaseB B newId initId bmB) (hin : PySem.W.handedIn (.builtin initId) = true)
    (e : PySem.W.excInitIn K C bmB newId = true) (hd : PySem.W.hasDictIn K C = true) (sa : PySem.W.findIn K (.ref C) "__setattr__" = some (some (.builtin "object.__setattr__")))
    (no : PySem.W.findIn K (.ref C) f = some none) (ini : PySem.W.findIn K (.ref C) "__init__" = some (some (.ref fI))) (ty : PySem.W.typeIn K (.ref fI) = some (.type "function"))
    (l : K.lookup fI = some ⟨oc, od, .func (PySem.W.fnOf "__init__" q (defArgs st) (defBody st) (defScope st) .none kV doc pm an cdv ct), osl⟩) (c : PySem.W.codeIn K cdv q = true) (k : PySem.W.keepIn K (.ref fI) = true)
    (b : ∀ (kV doc pm : Value) (an : Option Addr) (cdv ct : Value) (us : List Value), us.length = [me, p].length → bindArgs (PySem.W.fnOf "__init__" q (defArgs st) (defBody st) (defScope st) .none kV doc pm an cdv ct) ⟨us, []⟩ = pure ([me, p].zip us))
    (sc : FnScope [me, p] [me, p] (defScope st)) (loc : (defScope st).names.lookup me = some .local ∧ (defScope st).names.lookup p = some .local)
    (blt : PySem.W.nsIn K mainGlobals (Str.ofString B) = some none) (gl : (defScope st).names.lookup (Str.ofString B) = some .globalImplicit) (body : InitBody B f me p (defBody st))
    (nm : (me == ("__debug__" : Str)) = false ∧ (me == ("__classdict__" : Str)) = false ∧ (p == ("__debug__" : Str)) = false ∧ (p == ("__classdict__" : Str)) = false) : ExMk K mg C f := by
  have F := fun_mk (st := st) l c k
  exact ⟨fI, _, B, newId, initId, bmB, me, p, q, st, { base := bb, hin := hin, made := ⟨e, hd, sa⟩, no := no, ini := ini, ty := ty, fn := F, bind := F.binds b, sc := sc, loc := loc, blt := PySem.W.mg_none_of X G blt, gl := gl, body := body, nm := nm }⟩
/-! ### exception classes -/
theorem exs_of {K : PySem.W.Frag} {mg : Str → Option Value} {xs : Xs} (h : ∀ p ∈ xs.exs.zipIdx, ExOk K mg xs p.2 p.1) : ∀ (k : Nat) (x : Str), xs.exs[k]? = some x → ExOk K mg xs k x := fun k x e =>
  h (x, k) (List.mem_iff_getElem?.mpr ⟨k, by rw [List.getElem?_zipIdx, e]; simp⟩)
theorem mg_same {mg : Str → Option Value} {x : Str} {C D : Addr} (h1 : mg x = some (.ref C)) (h2 : mg x = some (.ref D)) : C = D := Value.ref.inj (Option.some.inj (h1.symm.trans h2))
theorem ty_own {K : PySem.W.Frag} {C D : Addr} {b : Bool} (iC : PySem.W.isClsIn K C = true) (bC : PySem.W.subIn K (.ref C) (.type "BaseException") = some true) (tC : PySem.W.typeIn K (.ref C) = some (.type "type")) (sC : PySem.W.subIn K (.ref C) (.ref C) = some true)
    (h : PySem.W.subIn K (.ref D) (.ref C) = some b) : PySem.W.exmOne K (.ref D) (.ref C) = some b ∧ PySem.W.kitOne K (.ref D) (.ref C) = some b := by
  have e1 : PySem.W.exmOne K (.ref D) (.ref C) = some b := by
    have i2 : (PySem.W.clsIn K C).isSome = true := iC
    simp only [PySem.W.exmOne, PySem.W.kitCls, bC, tC, i2, h, beq_self_eq_true, Bool.and_self, if_true]
  refine ⟨e1, ?_⟩
  unfold PySem.W.kitOne
  by_cases q : D = C
  · subst q
    rw [sC] at h
    cases h
    rw [if_pos (beq_self_eq_true _)]
  · have n : (Value.ref D == Value.ref C) = false := beq_eq_false_iff_ne.mpr fun e => q (Value.ref.inj e)
    rw [n, if_neg Bool.false_ne_true]
    unfold PySem.W.exmOne at e1
    split at e1
    · exact e1
    · cases e1
theorem ty_bi {K : PySem.W.Frag} {T : String} {D : Addr} {b : Bool} (hm : PySem.W.kitMeta T = true) (bT : PySem.W.subIn K (.type T) (.type "BaseException") = some true) (h : PySem.W.subIn K (.ref D) (.type T) = some b) :
    PySem.W.exmOne K (.ref D) (.type T) = some b ∧ PySem.W.kitOne K (.ref D) (.type T) = some b := by
  have e : PySem.W.kitCls K (.ref D) (.type T) = some b := by unfold PySem.W.kitCls; simp only [hm, if_true, h]
  refine ⟨?_, ?_⟩
  · unfold PySem.W.exmOne
    rw [bT, if_pos (by rfl)]
    exact e
  · unfold PySem.W.kitOne
    rw [if_neg (by intro z; exact absurd (beq_iff_eq.mp z) (by intro q; cases q))]
    exact e
theorem ty_of {K : PySem.W.Frag} {mg : Str → Option Value} {exs : List Str} {t : Str} {cs : List Nat} {v : V} {c : Value} (h1 : ClsV v c) (h2 : mg t = some c ∨ (mg t = none ∧ bootBuiltins t = some c ∧ t ≠ "__name__"))
    (h3 : ∀ p ∈ exs.zipIdx, ∀ C, mg p.1 = some (.ref C) → PySem.W.exmOne K (.ref C) c = some (cs.contains p.2) ∧ PySem.W.kitOne K (.ref C) c = some (cs.contains p.2)) : TyF K mg exs (t, cs) :=
  ⟨v, c, h1, h2, fun k C ⟨x, hx, hC⟩ => h3 (x, k) (List.mem_iff_getElem?.mpr ⟨k, by rw [List.getElem?_zipIdx, hx]; simp⟩) C hC⟩
end RP

/-! plain data: no lists in it, texts of true signs -/
namespace RP
open PySem L2

/-! data without places in the store, texts of true signs -/
mutual
def pur : D → Bool
  | .non => true
  | .bl _ => true
  | .int _ => true
  | .str x => PyData.strOk x
  | .tup xs => purs xs
  | .lst xs => purs xs
  | .dct _ _ => false
  | .ref _ => false
  | .exn _ _ => false
def purs : List D → Bool
  | [] => true
  | x :: xs => pur x && purs xs
end
mutual
def pyP : D → PyData
  | .non => .none
  | .bl b => .bool b
  | .int i => .int i
  | .str x => .str x
  | .tup xs => .tuple (pyPs xs)
  | .lst xs => .list (pyPs xs)
  | .dct ks xs => .dict ((ks.map keyP).zip (pyPs xs))
  | .ref _ => .none
  | .exn _ _ => .none
def pyPs : List D → List PyData
  | [] => []
  | x :: xs => pyP x :: pyPs xs
end
mutual
theorem py_of {rd : Nat → Option PyData} : ∀ d : D, d.top = 0 → pyW rd d = some (pyP d)
  | .non, _ => rfl
  | .bl _, _ => rfl
  | .int _, _ => rfl
  | .str _, _ => rfl
  | .tup xs, h => by simp only [pyW, pyP, pys_of xs (by simpa [D.top] using h), Option.map_some]
  | .lst xs, h => by simp only [pyW, pyP, pys_of xs (by simpa [D.top] using h), Option.map_some]
  | .dct ks xs, h => by simp only [pyW, pyP, pys_of xs (by simpa [D.top] using h), Option.map_some]
  | .ref _, h => by simp [D.top] at h
  | .exn _ _, h => by simp [D.top] at h
theorem pys_of {rd : Nat → Option PyData} : ∀ d : List D, tops d = 0 → pysW rd d = some (pyPs d)
  | [], _ => rfl
  | x :: xs, h => by
    have h1 : x.top = 0 ∧ tops xs = 0 := by simp only [tops] at h; omega
    simp only [pysW, pyPs, py_of x h1.1, pys_of xs h1.2]
end
mutual
theorem pur_lay : ∀ d : D, pur d = true → (pyP d).canLay0 = true
  | .non, _ => rfl
  | .bl _, _ => rfl
  | .int _, _ => rfl
  | .str _, h => h
  | .tup xs, h => by simp only [pyP, PyData.canLay0]; exact purs_lay xs (by simpa [pur] using h)
  | .lst xs, h => by simp only [pyP, PyData.canLay0]; exact purs_lay xs (by simpa [pur] using h)
  | .dct _ _, h => by cases h
  | .ref _, h => by cases h
  | .exn _ _, h => by cases h
theorem purs_lay : ∀ d : List D, purs d = true → PyData.canLayAll0 (pyPs d) = true
  | [], _ => rfl
  | x :: xs, h => by
    simp only [purs, Bool.and_eq_true] at h
    simp only [pyPs, PyData.canLayAll0, Bool.and_eq_true]
    exact ⟨pur_lay x h.1, purs_lay xs h.2⟩
end
mutual
theorem pur_top : ∀ d : D, pur d = true → d.top = 0
  | .non, _ => rfl
  | .bl _, _ => rfl
  | .int _, _ => rfl
  | .str _, _ => rfl
  | .tup xs, h => by simp only [D.top]; exact purs_top xs (by simpa [pur] using h)
  | .lst xs, h => by simp only [D.top]; exact purs_top xs (by simpa [pur] using h)
  | .dct _ _, h => by cases h
  | .ref _, h => by cases h
  | .exn _ _, h => by cases h
theorem purs_top : ∀ d : List D, purs d = true → tops d = 0
  | [], _ => rfl
  | x :: xs, h => by
    simp only [purs, Bool.and_eq_true] at h
    simp only [tops, pur_top x h.1, purs_top xs h.2]; rfl
end
theorem pur_mem : ∀ {xs : List D}, purs xs = true → ∀ x ∈ xs, pur x = true
  | y :: ys, h, x, hx => by
    simp only [purs, Bool.and_eq_true] at h
    rcases List.mem_cons.mp hx with rfl | hx
    · exact h.1
    · exact pur_mem h.2 x hx
theorem purs_of : ∀ {xs : List D}, (∀ x ∈ xs, pur x = true) → purs xs = true
  | [], _ => rfl
  | x :: xs, h => by simp only [purs, Bool.and_eq_true]; exact ⟨h x List.mem_cons_self, purs_of fun y hy => h y (List.mem_cons_of_mem _ hy)⟩
theorem tops_of : ∀ {xs : List D}, (∀ x ∈ xs, x.top = 0) → tops xs = 0
  | [], _ => rfl
  | x :: xs, h => by simp only [tops, h x List.mem_cons_self, tops_of fun y hy => h y (List.mem_cons_of_mem _ hy)]; rfl
theorem tops_mem : ∀ {xs : List D}, tops xs = 0 → ∀ x ∈ xs, x.top = 0
  | y :: ys, h, x, hx => by
    have h1 : y.top = 0 ∧ tops ys = 0 := by simp only [tops] at h; omega
    rcases List.mem_cons.mp hx with rfl | hx
    · exact h1.1
    · exact tops_mem h1.2 x hx
theorem toPy_of {d : D} (h : d.top = 0) (st : Sto) : toPy st d = some (pyP d) := py_of d h
theorem eq_int {i j : Int} {st : Sto} : eqD (.int i) (.int j) st = some (i == j) := rfl
/-- == of pure data -/
def eqv (x y : D) : Bool := PyData.eqv (pyP x) (pyP y)
theorem eqP_of {x y : D} {st : Sto} (hx : pur x = true) (hy : pur y = true) (hd : (pyP x).depth ≤ 64 ∨ (pyP y).depth ≤ 64) : eqP x y st = some (eqv x y) := by
  unfold eqP
  rw [toPy_of (pur_top _ hx), toPy_of (pur_top _ hy)]
  simp only [pur_lay _ hx, pur_lay _ hy]
  rw [if_pos ⟨trivial, trivial, by omega⟩]
  rfl

theorem atI_lit {α : Type} {xs : List α} {i : Nat} {a : α} (h : xs[i]? = some a) : L2.atI xs (i : Int) = some a := by
  have hl : i < xs.length := (List.getElem?_eq_some_iff.mp h).1
  unfold L2.atI L2.ixN
  rw [if_pos (by omega), if_pos (by omega)]
  simpa using h
theorem ix0 {a : D} {r : List D} {st : Sto} : ixD (.tup (a :: r)) (.int 0) st = .ok a st := by
  have h : L2.atI (a :: r) (0 : Int) = some a := atI_lit (i := 0) rfl
  simp only [ixD, seqOf, h]
theorem ix1 {a b : D} {r : List D} {st : Sto} : ixD (.tup (a :: b :: r)) (.int 1) st = .ok b st := by
  have h : L2.atI (a :: b :: r) (1 : Int) = some b := atI_lit (i := 1) rfl
  simp only [ixD, seqOf, h]
theorem ix2 {a b c : D} {r : List D} {st : Sto} : ixD (.tup (a :: b :: c :: r)) (.int 2) st = .ok c st := by
  have h : L2.atI (a :: b :: c :: r) (2 : Int) = some c := atI_lit (i := 2) rfl
  simp only [ixD, seqOf, h]
theorem ixL {n i : Nat} {o : O} {d : D} {st : Sto} (h : st[n]? = some o) (h2 : o.items[i]? = some d) : ixD (.ref n) (.int (i : Int)) st = .ok d st := by
  simp only [ixD, seqOf, h, Option.map_some, atI_lit h2]

/-- sizes for products -/
theorem log_lt {i : Int} {k : Nat} (h : i.natAbs < 2 ^ (k + 1)) : i.natAbs.log2 < k + 1 := by
  by_cases h0 : i.natAbs = 0
  · rw [h0]; simp
  · exact (Nat.log2_lt h0).mpr h
theorem mulOk_of {i j : Int} (h1 : i.natAbs < 2 ^ 9000) (h2 : j.natAbs < 2 ^ 9000) : mulOk i j = true := by
  have a := log_lt (k := 8999) h1
  have b := log_lt (k := 8999) h2
  unfold mulOk
  exact decide_eq_true (by omega)
theorem divOk_of {j : Int} (h1 : 0 < j) (h2 : j.natAbs < 2 ^ 8999) : divOk j = true := by
  have a := log_lt (k := 8998) h2
  unfold divOk
  exact decide_eq_true ⟨h1, by omega⟩
theorem powOk_of {i j : Int} (h1 : i.natAbs < 2 ^ 1000) (h2 : 0 ≤ j) (h3 : j ≤ 1000) : powOk i j = true := by
  have a := log_lt (k := 999) h1
  have b : Builtin.Int.intBits i ≤ 1000 := by
    unfold Builtin.Int.intBits
    split <;> omega
  unfold powOk
  refine decide_eq_true ⟨h2, ?_⟩
  have c : (Builtin.Int.intBits i : Int) * j ≤ 1000 * 1000 := Int.mul_le_mul (by omega) h3 h2 (by omega)
  omega

/-! ### the evaluation, step by step -/
section
variable {gl : List D} {cf : CallF} {env : Env} {st : Sto}
theorem e_v {i : Nat} : ev gl cf (.v i) env st = lkV (env[i]?) st := by simp only [ev]
theorem lkV_some {d : D} : lkV (some (some d)) st = .ok d st := rfl
theorem lkG_some {d : D} : lkG (some d) st = .ok d st := rfl
theorem e_k {d : D} : ev gl cf (.k d) env st = .ok d st := by simp only [ev]
theorem e_g {x : Nat} : ev gl cf (.g x) env st = lkG (gl[x]?) st := by simp only [ev]
theorem e_tup {es : Es} : ev gl cf (.tup es) env st = (evs gl cf es env st).bind fun ds st => if ds.length ≤ sizeLine then .ok (.tup ds) st else .bad := by simp only [ev]
theorem e_lstM {es : Es} : ev gl cf (.lst true es) env st = (evs gl cf es env st).bind fun ds st => if ds.length ≤ sizeLine then .ok (.ref st.length) (st ++ [.lst ds]) else .bad := by simp only [ev]
theorem e_lst {es : Es} : ev gl cf (.lst false es) env st = (evs gl cf es env st).bind fun ds st => if ds.length ≤ sizeLine then .ok (.lst ds) st else .bad := by simp only [ev]
theorem e_dct {ks : List L2.Key} {es : Es} : ev gl cf (.dct ks es) env st = (evs gl cf es env st).bind fun ds st => .ok (.dct ks ds) st := by simp only [ev]
theorem e_lc {t : Tg} {it : It} {c e : E} : ev gl cf (.lc t it c e) env st = (evI gl cf it env st).bind fun r st =>
      (lcLoop (asg gl cf t) (ev gl cf c) (ev gl cf e) r.1 st.length (wipeE env t.slots) r.2 [] st).bind fun xs st' => .ok (.lst xs) st' := by simp only [ev]
theorem e_bin {o : Bin} {a b : E} : ev gl cf (.bin o a b) env st = (ev gl cf a env st).bind fun x st => (ev gl cf b env st).bind fun y st => bin o x y st := by simp only [ev]
theorem e_cmp {o : Cmp} {a b : E} : ev gl cf (.cmp o a b) env st = (ev gl cf a env st).bind fun x st => (ev gl cf b env st).bind fun y st => cmp o x y st := by simp only [ev]
theorem e_chain {o p : Cmp} {a b c : E} : ev gl cf (.chain o p a b c) env st = (ev gl cf a env st).bind fun x st => (ev gl cf b env st).bind fun y st => (cmp o x y st).bind fun z st => br (isB z) ((ev gl cf c env st).bind fun w st => cmp p y w st) (.ok (.bl false) st) := by simp only [ev]
theorem e_neg {a : E} : ev gl cf (.neg a) env st = (ev gl cf a env st).bind fun x st => negD x st := by simp only [ev]
theorem e_not {a : E} : ev gl cf (.not a) env st = (ev gl cf a env st).bind fun x st => br (tru x st) (.ok (.bl false) st) (.ok (.bl true) st) := by simp only [ev]
theorem e_and {a b : E} : ev gl cf (.and a b) env st = (ev gl cf a env st).bind fun x st => br (tru x st) (ev gl cf b env st) (.ok x st) := by simp only [ev]
theorem e_or {a b : E} : ev gl cf (.or a b) env st = (ev gl cf a env st).bind fun x st => br (tru x st) (.ok x st) (ev gl cf b env st) := by simp only [ev]
theorem e_ife {a b c : E} : ev gl cf (.ife c a b) env st = (ev gl cf c env st).bind fun x st => br (tru x st) (ev gl cf a env st) (ev gl cf b env st) := by simp only [ev]
theorem e_ix {a b : E} : ev gl cf (.ix a b) env st = (ev gl cf a env st).bind fun x st => (ev gl cf b env st).bind fun y st => ixD x y st := by simp only [ev]
theorem e_call {f : Nat} {es : Es} : ev gl cf (.call f es) env st = (evs gl cf es env st).bind fun ds st => cf f ds st := by simp only [ev]
theorem e_bi {b : Bi} {es : Es} : ev gl cf (.bi b es) env st = (evs gl cf es env st).bind fun ds st => bi b ds st := by simp only [ev]
theorem e_isi {a : E} {t : Ty} : ev gl cf (.isi a t) env st = (ev gl cf a env st).bind fun x st => isiD t x st := by simp only [ev]
theorem e_mt {m : Mt} {a : E} {es : Es} : ev gl cf (.mt m a es) env st = (ev gl cf a env st).bind fun x st => (evs gl cf es env st).bind fun ds st => mt m x ds st := by simp only [ev]
theorem e_comp {t : Tg} {it : It} {c e : E} : ev gl cf (.comp t it c e) env st = (evI gl cf it env st).bind fun r st =>
      (compLoop (asg gl cf t) (ev gl cf c) (ev gl cf e) r.1 st.length (wipeE env t.slots) r.2 (st ++ [.lst []])).bind fun _ st' => .ok (.ref st.length) st' := by simp only [ev]
theorem e_comp2 {t u : Tg} {it iu : It} {e : E} : ev gl cf (.comp2 t it u iu e) env st = (evI gl cf it env st).bind fun r st =>
      (out2Loop (asg gl cf t) (evI gl cf iu) (asg gl cf u) (ev gl cf e) (fun e => wipeE e u.slots) r.1 st.length (wipeE env (t.slots ++ u.slots)) r.2 (st ++ [.lst []])).bind fun _ st' => .ok (.ref st.length) st' := by simp only [ev]
theorem es_nil : evs gl cf .nil env st = .ok [] st := by simp only [evs]
theorem es_cons {e : E} {es : Es} : evs gl cf (.cons e es) env st = (ev gl cf e env st).bind fun x st => (evs gl cf es env st).bind fun xs st => .ok (x :: xs) st := by simp only [evs]
theorem i_seq {e : E} : evI gl cf (.seq e) env st = (ev gl cf e env st).bind fun x st => itOf x st := by simp only [evI]
theorem i_enum {e : E} : evI gl cf (.enum e) env st = (ev gl cf e env st).bind fun x st => enumOf x st := by simp only [evI]
theorem i_zip {a b : E} : evI gl cf (.zip a b) env st = (ev gl cf a env st).bind fun x st => (ev gl cf b env st).bind fun y st => zipOf x y st := by simp only [evI]
theorem i_rng {a b : E} : evI gl cf (.rng a b) env st = (ev gl cf a env st).bind fun x st => (ev gl cf b env st).bind fun y st => rngOf x y st := by simp only [evI]
theorem a_nm {i : Nat} {d : D} : asg gl cf (.nm i) d env st = .ok (env.set i (some d)) st := by simp only [asg]
theorem a_two {a b : Tg} {d : D} : asg gl cf (.two a b) d env st = asgTup (asg gl cf a) (asg gl cf b) d env st := by simp only [asg]
theorem a_tup {f g : D → Env → Sto → Res Env} {a b : D} : asgTup f g (.tup [a, b]) env st = (f a env st).bind fun env st => g b env st := by simp only [asgTup]
theorem a_lst {f g : D → Env → Sto → Res Env} {a b : D} : asgTup f g (.lst [a, b]) env st = (f a env st).bind fun env st => g b env st := by simp only [asgTup, lstOf]
theorem a_sub {a i : E} {d : D} : asg gl cf (.sub a i) d env st = (ev gl cf a env st).bind fun o st => (ev gl cf i env st).bind fun k st => putTo (putIx o k d st) env := by simp only [asg]
theorem s_ex' {e : E} : evS gl cf (.ex e) env st = (ev gl cf e env st).thn env fun _ st => .ok (.nx env) st := by simp only [evS]
theorem s_asg' {t : Tg} {e : E} : evS gl cf (.asg t e) env st = (ev gl cf e env st).thn env fun d st => (asg gl cf t d env st).bind fun env st => .ok (.nx env) st := by simp only [evS]
theorem s_two' {i j : Nat} {a b : E} : evS gl cf (.two i j a b) env st = (ev gl cf a env st).bind fun x st => (ev gl cf b env st).bind fun y st => .ok (.nx ((env.set i (some x)).set j (some y))) st := by simp only [evS]
theorem s_three' {i j k : Nat} {a b c : E} : evS gl cf (.three i j k a b c) env st = (ev gl cf a env st).bind fun x st => (ev gl cf b env st).bind fun y st => (ev gl cf c env st).bind fun z st => .ok (.nx (((env.set i (some x)).set j (some y)).set k (some z))) st := by simp only [evS]
theorem s_whl' {c : E} {b : Ss} : evS gl cf (.whl c b) env st = whileLoop (ev gl cf c) (evSs gl cf b) st.length 100000 env st := by simp only [evS]
theorem a_many {is : List Nat} {d : D} : asg gl cf (.many is) d env st = asgMany is d env st := by simp only [asg]
theorem a_manyT {is : List Nat} {xs : List D} : asgMany is (.tup xs) env st = if xs.length = is.length then .ok (setAll is xs env) st else .bad := rfl
theorem s_augIx' {a i e : E} {o : Bin} : evS gl cf (.augIx a i o e) env st = (ev gl cf a env st).bind fun x st => (ev gl cf i env st).bind fun y st => (ixD x y st).bind fun v st => (ev gl cf e env st).bind fun u st => (augD o v u st).bind fun w st => (putTo (putIx x y w st) env).bind fun env st => .ok (.nx env) st := by simp only [evS]
theorem s_aug' {i : Nat} {o : Bin} {e : E} : evS gl cf (.aug i o e) env st = (lkV (env[i]?) st).bind fun x st => (ev gl cf e env st).bind fun y st => (augD o x y st).bind fun z st => .ok (.nx (env.set i (some z))) st := by simp only [evS]
theorem s_ret' {e : E} : evS gl cf (.ret e) env st = (ev gl cf e env st).thn env fun d st => .ok (.rt d) st := by simp only [evS]
theorem s_ife' {c : E} {a b : Ss} : evS gl cf (.ife c a b) env st = (ev gl cf c env st).bind fun x st => br (tru x st) (evSs gl cf a env st) (evSs gl cf b env st) := by simp only [evS]
theorem s_for' {t : Tg} {it : It} {b : Ss} : evS gl cf (.for_ t it b) env st = (evI gl cf it env st).bind fun r st => forLoop (asg gl cf t) (evSs gl cf b) r.1 st.length r.2 env st := by simp only [evS]
theorem s_rse' {c : Nat} {es : Es} : evS gl cf (.rse c es) env st = (evs gl cf es env st).bind fun ds st => .ok (.xc ⟨c, ds⟩ env) st := by simp only [evS]
theorem s_tr' {b : Ss} {hs : Hs} : evS gl cf (.tr b hs) env st = (evSs gl cf b env st).bind fun f st => trEnd (evH gl cf hs) f st := by simp only [evS]
theorem h_nil' {x : Exn} : evH gl cf .nil x env st = .ok (.xc x env) st := by simp only [evH]
theorem h_cons' {cs : List Nat} {i : Option Nat} {b : Ss} {hs : Hs} {x : Exn} : evH gl cf (.cons cs i b hs) x env st = if cs.contains x.cls = true then (evSs gl cf b (putX i x env) st).bind fun f st' => sutEnd i st f st' else evH gl cf hs x env st := by simp only [evH]
theorem tr_nx {h : Exn → Env → Sto → Res Fl} : trEnd h (.nx env) st = .ok (.nx env) st := rfl
theorem tr_rt {h : Exn → Env → Sto → Res Fl} {d : D} : trEnd h (.rt d) st = .ok (.rt d) st := rfl
theorem tr_xc {h : Exn → Env → Sto → Res Fl} {x : Exn} : trEnd h (.xc x env) st = h x env st := rfl
theorem e_xis {a : E} {cs : List Nat} : ev gl cf (.xis a cs) env st = (ev gl cf a env st).bind fun x st => xisD cs x st := by simp only [ev]
theorem e_xat {a : E} {cs : List Nat} : ev gl cf (.xat a cs) env st = (ev gl cf a env st).bind fun x st => xatD cs x st := by simp only [ev]
theorem e_fnl {fs : List Nat} {i : E} {es : Es} : ev gl cf (.fnl fs i es) env st = (ev gl cf i env st).bind fun x st => (evs gl cf es env st).bind fun ds st => fnlD cf fs x ds st := by simp only [ev]
theorem s_skip' : evS gl cf .skip env st = .ok (.nx env) st := by simp only [evS]
theorem ss_nil : evSs gl cf .nil env st = .ok (.nx env) st := by simp only [evSs]
theorem ss_cons {s : S} {ss : Ss} : evSs gl cf (.cons s ss) env st = (evS gl cf s env st).bind fun f st => nxt f st (evSs gl cf ss) := by simp only [evSs]
end
theorem it_tup {xs : List D} {st : Sto} : itOf (.tup xs) st = .ok ([], xs) st := rfl
theorem it_lst {xs : List D} {st : Sto} : itOf (.lst xs) st = .ok ([], xs) st := rfl
theorem en_lst {xs : List D} {st : Sto} : enumOf (.lst xs) st = .ok ([], enumd 0 xs) st := rfl
theorem zp_lst {xs ys : List D} {st : Sto} : zipOf (.lst xs) (.lst ys) st = .ok ([], zipd xs ys) st := rfl
theorem zp_tup {xs ys : List D} {st : Sto} : zipOf (.tup xs) (.tup ys) st = .ok ([], zipd xs ys) st := rfl
theorem it_ref {n : Nat} {o : O} {st : Sto} (h : st[n]? = some o) : itOf (.ref n) st = .ok ([(n, o.items)], o.items) st := by simp only [itOf, seqOf, srcOf, h, Option.map_some, Option.toList]
theorem rng_of {i j : Int} {st : Sto} (h : -(2 ^ 62) ≤ i ∧ i < 2 ^ 62 ∧ -(2 ^ 62) ≤ j ∧ j < 2 ^ 62) : rngOf (.int i) (.int j) st = .ok ([], numb i (j - i).toNat) st := by simp only [rngOf, if_pos h]
theorem neg_int {i : Int} {st : Sto} : negD (.int i) st = .ok (.int (-i)) st := rfl
theorem putTo_some {env : Env} {st : Sto} : putTo (some st) env = .ok env st := rfl
theorem bi_len_tup {xs : List D} {st : Sto} : bi .len [.tup xs] st = .ok (.int xs.length) st := rfl
theorem bi_len_lst {xs : List D} {st : Sto} : bi .len [.lst xs] st = .ok (.int xs.length) st := rfl
theorem bi_len_ref {n : Nat} {o : O} {st : Sto} (h : st[n]? = some o) : bi .len [.ref n] st = .ok (.int o.items.length) st := by simp only [bi, seqOf, h, Option.map_some]
theorem bi_tuple_lst {xs : List D} {st : Sto} : bi .tuple [.lst xs] st = .ok (.tup xs) st := rfl
theorem bi_tuple_tup {xs : List D} {st : Sto} : bi .tuple [.tup xs] st = .ok (.tup xs) st := rfl
theorem bi_list_tup {xs : List D} {st : Sto} : bi .list [.tup xs] st = .ok (.lst xs) st := rfl
theorem bi_list_lst {xs : List D} {st : Sto} : bi .list [.lst xs] st = .ok (.lst xs) st := rfl
theorem bi_min2 {a b : Int} {st : Sto} : bi .min [.int a, .int b] st = .ok (.int (if b < a then b else a)) st := rfl
theorem bi_max2 {a b : Int} {st : Sto} : bi .max [.int a, .int b] st = .ok (.int (if b > a then b else a)) st := rfl
theorem bi_abs {a : Int} {st : Sto} : bi .abs [.int a] st = .ok (.int (if a < 0 then -a else a)) st := rfl
theorem bi_intB {b : Bool} {st : Sto} : bi .int [.bl b] st = .ok (.int (if b then 1 else 0)) st := rfl
theorem bi_intI {b : Int} {st : Sto} : bi .int [.int b] st = .ok (.int b) st := rfl
theorem ints_map : ∀ ns : List Int, intsOf (ns.map D.int) = some ns
  | [] => rfl
  | n :: r => by simp [intsOf, ints_map r]
theorem bi_sum_ints {ns : List Int} {st : Sto} : bi .sum [.lst (ns.map D.int)] st = .ok (.int ns.sum) st := by simp only [bi, lstOf, ints_map]
theorem bi_min_ints {n : Int} {ns : List Int} {st : Sto} : bi .min [.lst ((n :: ns).map D.int)] st = .ok (.int (minL n ns)) st := by simp only [bi, lstOf, ints_map]
theorem aug_add {a b : Int} {st : Sto} : augD .add (.int a) (.int b) st = .ok (.int (a + b)) st := rfl
theorem aug_sub {a b : Int} {st : Sto} : augD .sub (.int a) (.int b) st = .ok (.int (a - b)) st := rfl
theorem b_add {i j : Int} {st : Sto} : bin .add (.int i) (.int j) st = .ok (.int (i + j)) st := rfl
theorem b_sub {i j : Int} {st : Sto} : bin .sub (.int i) (.int j) st = .ok (.int (i - j)) st := rfl
theorem b_mul {i j : Int} {st : Sto} (h : mulOk i j = true) : bin .mul (.int i) (.int j) st = .ok (.int (i * j)) st := by simp only [bin, h, if_true]
theorem b_fdiv {i j : Int} {st : Sto} (h : divOk j = true) : bin .fdiv (.int i) (.int j) st = .ok (.int (i / j)) st := by simp only [bin, h, if_true]
theorem b_mod {i j : Int} {st : Sto} (h : 0 < j) : bin .mod (.int i) (.int j) st = .ok (.int (i % j)) st := by simp only [bin, h, if_true]
theorem b_pow {i j : Int} {st : Sto} (h : powOk i j = true) : bin .pow (.int i) (.int j) st = .ok (.int (i ^ j.toNat)) st := by simp only [bin, h, if_true]
theorem c_lt {i j : Int} {st : Sto} : cmp .lt (.int i) (.int j) st = .ok (.bl (decide (i < j))) st := rfl
theorem c_le {i j : Int} {st : Sto} : cmp .le (.int i) (.int j) st = .ok (.bl (decide (i ≤ j))) st := rfl
theorem c_gt {i j : Int} {st : Sto} : cmp .gt (.int i) (.int j) st = .ok (.bl (decide (j < i))) st := rfl
theorem c_ge {i j : Int} {st : Sto} : cmp .ge (.int i) (.int j) st = .ok (.bl (decide (j ≤ i))) st := rfl
theorem c_eqi {i j : Int} {st : Sto} : cmp .eq (.int i) (.int j) st = .ok (.bl (i == j)) st := rfl
theorem c_nei {i j : Int} {st : Sto} : cmp .ne (.int i) (.int j) st = .ok (.bl (!(i == j))) st := rfl
theorem c_eqnil {xs : List D} {st : Sto} : cmp .eq (.tup xs) (.tup []) st = .ok (.bl xs.isEmpty) st := by simp only [cmp, eqD, ofB]
theorem c_nenil {xs : List D} {st : Sto} : cmp .ne (.tup xs) (.tup []) st = .ok (.bl (!xs.isEmpty)) st := by simp only [cmp, eqD, ofB, Option.map_some]
theorem c_eqnilL {xs : List D} {st : Sto} : cmp .eq (.lst xs) (.lst []) st = .ok (.bl xs.isEmpty) st := by simp only [cmp, eqD, ofB]
theorem c_nenilL {xs : List D} {st : Sto} : cmp .ne (.lst xs) (.lst []) st = .ok (.bl (!xs.isEmpty)) st := by simp only [cmp, eqD, ofB, Option.map_some]
def isNon : D → Bool
  | .non => true
  | _ => false
theorem c_isN {x : D} {st : Sto} : cmp .isN x .non st = .ok (.bl (isNon x)) st := by cases x <;> rfl
theorem c_notN {x : D} {st : Sto} : cmp .notN x .non st = .ok (.bl (!isNon x)) st := by cases x <;> rfl
theorem c_in {x : D} {ys : List D} {st : Sto} (h1 : flat x = true) (h2 : ys.all flat = true) : cmp .isin x (.tup ys) st = .ok (.bl (ys.any fun y => eqF y x)) st := by simp [cmp, inD, seqOf, h1, h2, ofB]
theorem sz0 : (([] : List D).length ≤ sizeLine) = True := eq_true (by show 0 ≤ sizeLine; decide)
theorem sz1 {a : D} : (([a] : List D).length ≤ sizeLine) = True := eq_true (by show 1 ≤ sizeLine; decide)
theorem sz2 {a b : D} : (([a, b] : List D).length ≤ sizeLine) = True := eq_true (by show 2 ≤ sizeLine; decide)
theorem sz3 {a b c : D} : (([a, b, c] : List D).length ≤ sizeLine) = True := eq_true (by show 3 ≤ sizeLine; decide)
theorem sz4 {a b c d : D} : (([a, b, c, d] : List D).length ≤ sizeLine) = True := eq_true (by show 4 ≤ sizeLine; decide)
theorem sz5 {a b c d e : D} : (([a, b, c, d, e] : List D).length ≤ sizeLine) = True := eq_true (by show 5 ≤ sizeLine; decide)
theorem sz6 {a b c d e f : D} : (([a, b, c, d, e, f] : List D).length ≤ sizeLine) = True := eq_true (by show 6 ≤ sizeLine; decide)
theorem sz7 {a b c d e f g : D} : (([a, b, c, d, e, f, g] : List D).length ≤ sizeLine) = True := eq_true (by show 7 ≤ sizeLine; decide)
theorem isB_bl {b : Bool} : isB (.bl b) = some b := rfl

/-! ### a store without places in it -/
def FS (st : Sto) : Prop := ∀ o ∈ st, o.top = 0
theorem FS.app {st : Sto} {o : O} (h : FS st) (ho : o.top = 0) : FS (st ++ [o]) := fun u hu => by
  rcases List.mem_append.mp hu with h1 | h1
  · exact h u h1
  · obtain rfl : u = o := by simpa using h1
    exact ho
theorem FS.set {st : Sto} {p : Nat} {o : O} (h : FS st) (ho : o.top = 0) : FS (st.set p o) := fun u hu => by
  rcases List.mem_or_eq_of_mem_set hu with h1 | h1
  · exact h u h1
  · rw [h1]; exact ho
theorem FS.take {st : Sto} (h : FS st) (n : Nat) : FS (st.take n) := fun u hu => h u (List.mem_of_mem_take hu)
theorem FS.all {st : Sto} (h : FS st) (n : Nat) : (st.take n).all (fun o => decide (o.top ≤ n)) = true := List.all_eq_true.mpr fun o ho => decide_eq_true (by rw [h o (List.mem_of_mem_take ho)]; exact Nat.zero_le _)
theorem trim_fs {st : Sto} {n t : Nat} (h : FS st) (ht : t ≤ n) : trim n t st = st.take n := by
  unfold trim
  rw [if_pos ⟨ht, h.all n⟩]
theorem trim_same {st : Sto} {n t : Nat} (h : FS st) (ht : t ≤ n) (hn : n = st.length) : trim n t st = st := by
  rw [trim_fs h ht, hn, List.take_length]
theorem fin_same {mr : Bool} {st : Sto} {n : Nat} {d : D} (h : FS st) (ht : d.top = 0) (hn : n = st.length) : fin mr n (.rt d) st = .ok d st := by
  rw [fin_rt (by omega), trim_same h (by omega) hn]
theorem sut_rt {i : Option Nat} {st : Sto} {d : D} (h : FS st) (hx : d.nox = true) (ht : d.top = 0) : sutEnd i st (.rt d) st = .ok (.rt d) st := by
  unfold sutEnd
  have c : cuts st.length st = true := by
    unfold cuts
    rw [List.take_length]
    exact List.all_eq_true.mpr fun o ho => decide_eq_true (by rw [h o ho]; exact Nat.zero_le _)
  rw [List.take_length, stoSame_refl, c]
  simp only [Bool.and_self, if_true, hx, ht, Nat.zero_le, decide_true]
theorem fin_none {mr : Bool} {st : Sto} {n : Nat} {env : Env} (h : FS st) (hn : n = st.length) : fin mr n (.nx env) st = .ok .non st := by
  rw [fin_nx, trim_same h (Nat.zero_le _) hn]
mutual
theorem frz_pure {st : Sto} {n : Nat} : ∀ (k : Nat) (d : D), d.top = 0 → sizeOf d < k → frz st n k d = some d
  | 0, _, _, h => by omega
  | _ + 1, .non, _, _ => rfl
  | _ + 1, .bl _, _, _ => rfl
  | _ + 1, .int _, _, _ => rfl
  | _ + 1, .str _, _, _ => rfl
  | k + 1, .tup xs, ht, h => by simp only [frz]; rw [frzs_pure k xs (by simpa [D.top] using ht) (by simp at h; omega)]; rfl
  | k + 1, .lst xs, ht, h => by simp only [frz]; rw [frzs_pure k xs (by simpa [D.top] using ht) (by simp at h; omega)]; rfl
  | k + 1, .dct ks xs, ht, h => by simp only [frz]; rw [frzs_pure k xs (by simpa [D.top] using ht) (by simp at h; omega)]; rfl
  | k + 1, .ref m, ht, h => by simp [D.top] at ht
theorem frzs_pure {st : Sto} {n : Nat} : ∀ (k : Nat) (d : List D), tops d = 0 → sizeOf d < k → frzs st n k d = some d
  | 0, _, _, h => by omega
  | _ + 1, [], _, _ => rfl
  | k + 1, x :: xs, ht, h => by
    have h1 : x.top = 0 ∧ tops xs = 0 := by simp only [tops] at ht; omega
    simp only [frzs]
    rw [frz_pure k x h1.1 (by simp at h; omega), frzs_pure k xs h1.2 (by simp at h; omega)]
end
/-! ### comprehensions -/
theorem tops_app : ∀ (xs ys : List D), tops (xs ++ ys) = max (tops xs) (tops ys)
  | [], ys => by simp [tops]
  | x :: xs, ys => by simp only [List.cons_append, tops, tops_app xs ys, Nat.max_assoc]
theorem get_last {st : Sto} {o : O} : (st ++ [o])[st.length]? = some o := by simp
theorem lc_gen {tg : D → Env → Sto → Res Env} {cnd elt : Env → Sto → Res D} {st : Sto} {env : Env} (F : FS st) (E : D → Env) (p : D → Bool) (f : D → D) : ∀ (xs acc : List D),
    (∀ x ∈ xs, tg x env st = .ok (E x) st ∧ cnd (E x) st = .ok (.bl (p x)) st ∧ (p x = true → elt (E x) st = .ok (f x) st ∧ (f x).top = 0)) → tops acc = 0 → acc.length + xs.length ≤ sizeLine →
    lcLoop tg cnd elt [] st.length env xs acc st = .ok (acc ++ (xs.filter p).map f) st
  | [], acc, _, _, _ => by simp [lcLoop, still]
  | x :: xs, acc, h, ha, hz => by
    obtain ⟨h1, h2, h3⟩ := h x List.mem_cons_self
    simp only [lcLoop, still, if_true, h1, Res.bind_ok, h2, tru_bl, br_some]
    cases hp : p x with
    | true =>
      obtain ⟨h4, h5⟩ := h3 hp
      have ta : tops (acc ++ [f x]) = 0 := by rw [tops_app]; simp only [tops, ha, h5]; rfl
      simp only [if_true, h4, Res.bind_ok]
      rw [if_pos (by simp at hz; omega), trim_same F (by omega) rfl, lc_gen F E p f xs (acc ++ [f x]) (fun y hy => h y (List.mem_cons_of_mem _ hy)) ta (by simp at hz ⊢; omega)]
      simp [hp]
    | false =>
      simp only [Bool.false_eq_true, if_false]
      rw [trim_same F (by omega) rfl, lc_gen F E p f xs acc (fun y hy => h y (List.mem_cons_of_mem _ hy)) ha (by simp at hz ⊢; omega)]
      simp [hp]
/-- without a condition, one name -/
theorem lc_map {gl : List D} {cf : CallF} {elt : Env → Sto → Res D} {st : Sto} {env : Env} {i : Nat} (F : FS st) (f : D → D) {xs : List D}
    (h : ∀ x ∈ xs, elt (env.set i (some x)) st = .ok (f x) st ∧ (f x).top = 0) (hz : xs.length ≤ sizeLine) :
    lcLoop (asg gl cf (.nm i)) (ev gl cf (.k (.bl true))) elt [] st.length env xs [] st = .ok (xs.map f) st := by
  have := lc_gen (tg := asg gl cf (.nm i)) (cnd := ev gl cf (.k (.bl true))) (elt := elt) (env := env) F (fun x => env.set i (some x)) (fun _ => true) f xs [] (fun x hx => ⟨a_nm, e_k, fun _ => h x hx⟩) rfl (by simpa using hz)
  rw [show xs.filter (fun _ => true) = xs from List.filter_eq_self.mpr (fun _ _ => rfl)] at this
  simpa using this
/-- with a condition, the item itself -/
theorem lc_filter {gl : List D} {cf : CallF} {cnd elt : Env → Sto → Res D} {st : Sto} {env : Env} {i : Nat} (F : FS st) (p : D → Bool) (f : D → D) {xs : List D}
    (h : ∀ x ∈ xs, cnd (env.set i (some x)) st = .ok (.bl (p x)) st ∧ (p x = true → elt (env.set i (some x)) st = .ok (f x) st ∧ (f x).top = 0)) (hz : xs.length ≤ sizeLine) :
    lcLoop (asg gl cf (.nm i)) cnd elt [] st.length env xs [] st = .ok ((xs.filter p).map f) st := by
  have := lc_gen (tg := asg gl cf (.nm i)) (cnd := cnd) (elt := elt) (env := env) F (fun x => env.set i (some x)) p f xs [] (fun x hx => ⟨a_nm, h x hx⟩) rfl (by simpa using hz)
  simpa using this

/-! ### a list changed by place -/
theorem put_at {st : Sto} {p i : Nat} {xs : List D} {v : D} (h : st[p]? = some (.lst xs)) (hi : i < xs.length) (hz : xs.length ≤ sizeLine) : putIx (.ref p) (.int (i : Int)) v st = some (st.set p (.lst (xs.set i v))) := by
  have e : L2.ixN xs.length (i : Int) = some i := by
    unfold L2.ixN
    rw [if_pos (by omega), if_pos (by omega)]
    simp
  simp only [putIx, setL, h, e, Option.map_some, List.length_set, hz, if_true]
theorem get_set {st : Sto} {p : Nat} {o o' : O} (h : st[p]? = some o) : (st.set p o')[p]? = some o' := by
  rw [List.getElem?_set_self (List.getElem?_eq_some_iff.mp h).1]
theorem natAbs_lt {a : Int} {k n : Nat} (h0 : 0 ≤ a) (h : a < 2 ^ k) (hk : k ≤ n) : a.natAbs < 2 ^ n := by
  have h1 : a.natAbs < 2 ^ k := by
    have : (a.natAbs : Int) < ((2 ^ k : Nat) : Int) := by rw [Int.natAbs_of_nonneg h0]; exact_mod_cast h
    exact_mod_cast this
  exact Nat.lt_of_lt_of_le h1 (Nat.pow_le_pow_right (by decide) hk)
/-- a pot of draws stands at p; at most m draws were mixed -/
structure Pt (p m : Nat) (st : Sto) : Prop where
  fs : FS st
  ex : ∃ a b c : Int, st[p]? = some (.lst [.int a, .int b, .int c]) ∧ 0 ≤ a ∧ a < 2 ^ 3000 ∧ 0 ≤ b ∧ b < 2 ^ 62 ∧ 0 ≤ c ∧ c ≤ m
/-- what draws leave: all but the pot as it was -/
structure Dr (p m : Nat) (st st' : Sto) : Prop where
  pt : Pt p m st'
  len : st'.length = st.length
  oth : ∀ i, i ≠ p → st'[i]? = st[i]?
theorem Pt.mono {p m m' : Nat} {st : Sto} (h : Pt p m st) (hm : m ≤ m') : Pt p m' st := by
  obtain ⟨a, b, c, h1, h2, h3, h4, h5, h6, h7⟩ := h.ex
  exact ⟨h.fs, a, b, c, h1, h2, h3, h4, h5, h6, by omega⟩
theorem Pt.dr {p m : Nat} {st : Sto} (h : Pt p m st) : Dr p m st st := ⟨h, rfl, fun _ _ => rfl⟩
theorem Dr.trans {p m m' : Nat} {a b c : Sto} (h : Dr p m a b) (k : Dr p m' b c) : Dr p m' a c := ⟨k.pt, k.len.trans h.len, fun i hi => (k.oth i hi).trans (h.oth i hi)⟩
theorem Dr.mono {p m m' : Nat} {a b : Sto} (h : Dr p m a b) (hm : m ≤ m') : Dr p m' a b := ⟨h.pt.mono hm, h.len, h.oth⟩
theorem Dr.fin {p m : Nat} {a b : Sto} (h : Dr p m a b) {mr : Bool} {d : D} (hd : d.top = 0) : RP.fin mr a.length (.rt d) b = .ok d b := fin_same h.pt.fs hd h.len.symm
theorem Dr.trim {p m : Nat} {a b : Sto} (h : Dr p m a b) {t : Nat} (ht : t ≤ a.length) : RP.trim a.length t b = b := trim_same h.pt.fs ht h.len.symm
/-- a comprehension whose elements draw -/
theorem lc_draw {gl : List D} {cf : CallF} {elt : Env → Sto → Res D} {env : Env} {i p T M : Nat} {Q : D → Prop}
    (hel : ∀ (st : Sto) (m : Nat) (x : D), Pt p m st → m + T ≤ M → ∃ y st', elt (env.set i (some x)) st = .ok y st' ∧ Q y ∧ y.top = 0 ∧ Dr p (m + T) st st') :
    ∀ (xs acc : List D) (st : Sto) (m n : Nat), Pt p m st → n = st.length → m + T * xs.length ≤ M → tops acc = 0 → acc.length + xs.length ≤ sizeLine →
      ∃ ys st', lcLoop (asg gl cf (.nm i)) (ev gl cf (.k (.bl true))) elt [] n env xs acc st = .ok (acc ++ ys) st' ∧ ys.length = xs.length ∧ (∀ y ∈ ys, Q y) ∧ tops ys = 0 ∧ Dr p (m + T * xs.length) st st'
  | [], acc, st, m, n, h, hn, _, _, _ => ⟨[], st, by simp [lcLoop, still], rfl, (fun y hy => nomatch hy), rfl, by simpa using h.dr⟩
  | x :: xs, acc, st, m, n, h, hn, hM, ha, hz => by
    have hlen : T * (x :: xs).length = T + T * xs.length := by rw [List.length_cons, Nat.mul_add, Nat.mul_one, Nat.add_comm]
    obtain ⟨y, s1, e1, q1, t1, d1⟩ := hel st m x h (by omega)
    have ta : tops (acc ++ [y]) = 0 := by rw [tops_app]; simp only [tops, ha, t1]; rfl
    obtain ⟨ys, s2, e2, l2, q2, t2, d2⟩ := lc_draw hel xs (acc ++ [y]) s1 (m + T) n d1.pt (by rw [hn, d1.len]) (by omega) ta (by simp at hz ⊢; omega)
    refine ⟨y :: ys, s2, ?_, by simp [l2], fun z hz' => ?_, by simp only [tops, t1, t2]; rfl, by rw [hlen, ← Nat.add_assoc]; exact d1.trans d2⟩
    · simp only [lcLoop, still, if_true, a_nm, Res.bind_ok, e_k, tru_bl, br_some, e1]
      rw [if_pos (by simp at hz; omega), trim_same d1.pt.fs (by omega) (by rw [hn, d1.len]), e2]
      simp
    · rcases List.mem_cons.mp hz' with rfl | hz'
      · exact q1
      · exact q2 z hz'

theorem c_nestr {a b : Str} {st : Sto} : cmp .ne (.str a) (.str b) st = .ok (.bl (!decide (a = b))) st := rfl
theorem c_eqstr {a b : Str} {st : Sto} : cmp .eq (.str a) (.str b) st = .ok (.bl (decide (a = b))) st := rfl
/-! ### repr -/
theorem int_len {i : Int} (h : i.natAbs < 2 ^ 1900) : (PyData.shown (.int i)).length ≤ 1921 := by
  have a := log_lt (k := 1899) h
  exact PyProof.Rows.int_text_len_1921 (by omega)
theorem showable_int {i : Int} (h : i.natAbs < 2 ^ 1900) : PyData.showable (.int i) = true := by
  have a := log_lt (k := 1899) h
  exact decide_eq_true (by omega)
theorem repr_two {i j : Int} (hi : i.natAbs < 2 ^ 1900) (hj : j.natAbs < 2 ^ 1900) : reprOk (.list [.int i, .int j]) = true := by
  unfold reprOk
  simp only [Bool.and_eq_true, decide_eq_true_eq]
  refine ⟨⟨?_, by simp [PyData.depth, PyData.depthAll]⟩, ?_⟩
  · simp only [PyData.showable, PyData.showableAll, Bool.and_eq_true]
    exact ⟨showable_int hi, showable_int hj, trivial⟩
  · have a := listText_len_le [PyData.shown (.int i), PyData.shown (.int j)]
    have b := int_len hi
    have c := int_len hj
    simp only [List.map_cons, List.map_nil, List.sum_cons, List.sum_nil, List.length_cons, List.length_nil] at a
    have e : (PyData.shown (.list [.int i, .int j])) = listText [PyData.shown (.int i), PyData.shown (.int j)] := by simp only [PyData.shown, PyData.shownAll]
    rw [e]
    have z : (4000 : Nat) ≤ sizeLine := by decide
    omega
end RP
namespace RP
open PySem L2
section
variable {gl : List D} {cf : CallF} {env : Env} {st : Sto}
theorem e_sl {a lo hi : E} : ev gl cf (.sl a lo hi) env st = (ev gl cf a env st).bind fun x st => (ev gl cf lo env st).bind fun l st => (ev gl cf hi env st).bind fun h st => slD x l h st := by simp only [ev]
theorem e_rev {a : E} : ev gl cf (.rev a) env st = (ev gl cf a env st).bind fun x st => revD x st := by simp only [ev]
theorem rev_lst {xs : List D} : revD (.lst xs) st = .ok (.lst xs.reverse) st := rfl
theorem sl_two {a b c : D} : slD (.tup [a, b, c]) .non (.int 2) st = .ok (.tup [a, b]) st := rfl
theorem b_catL {xs ys : List D} (h : xs.length + ys.length ≤ sizeLine) : bin .add (.lst xs) (.lst ys) st = .ok (.lst (xs ++ ys)) st := by simp only [bin, ownOf, h, if_true]
theorem b_cat {xs ys : List D} (h : xs.length + ys.length ≤ sizeLine) : bin .add (.tup xs) (.tup ys) st = .ok (.tup (xs ++ ys)) st := by simp only [bin, h, if_true]
end
end RP

/-! what may come; values of many kinds and their texts -/
namespace RP
open PySem L2

def Wp {α : Type} (r : Res α) (Q : α → Sto → Prop) : Prop := ∃ a st, r = .ok a st ∧ Q a st
theorem wp_ok {α : Type} {a : α} {st : Sto} {Q : α → Sto → Prop} (h : Q a st) : Wp (.ok a st) Q := ⟨a, st, rfl, h⟩
theorem wp_bind {α β : Type} {r : Res α} {f : α → Sto → Res β} {Q : β → Sto → Prop} (h : Wp r fun a st => Wp (f a st) Q) : Wp (r.bind f) Q := by
  obtain ⟨a, st, rfl, b, s2, e, q⟩ := h
  exact ⟨b, s2, e, q⟩
theorem wp_use {α β : Type} {r : Res α} {f : α → Sto → Res β} {R : α → Sto → Prop} {Q : β → Sto → Prop} (h : Wp r R) (k : ∀ a st, R a st → Wp (f a st) Q) : Wp (r.bind f) Q := by
  obtain ⟨a, st, rfl, q⟩ := h
  exact k a st q
theorem wp_mono {α : Type} {r : Res α} {R Q : α → Sto → Prop} (h : Wp r R) (k : ∀ a st, R a st → Q a st) : Wp r Q := by
  obtain ⟨a, st, e, q⟩ := h
  exact ⟨a, st, e, k a st q⟩
/-- a loop by its invariant; what is unreachable goes at each turn's end -/
theorem wp_for {tg : D → Env → Sto → Res Env} {body : Env → Sto → Res Fl} {n : Nat} (I : List D → Env → Sto → Prop) (R : D → Sto → Prop)
    (h : ∀ x xs e s, I (x :: xs) e s → Wp (tg x e s) fun e1 s1 => Wp (body e1 s1) fun f s2 => match f with | .nx e' => I xs e' (trim n (envTop e') s2) | .rt d => R d s2 | .xc _ _ => False) :
    ∀ xs e s, I xs e s → Wp (forLoop tg body [] n xs e s) fun f s2 => match f with | .nx e' => I [] e' s2 | .rt d => R d s2 | .xc _ _ => False
  | [], e, s, hi => ⟨.nx e, s, by simp [forLoop, still], hi⟩
  | x :: xs, e, s, hi => by
    obtain ⟨e1, s1, h1, f, s2, h2, q⟩ := h x xs e s hi
    simp only [forLoop, still, if_true, h1, Res.bind_ok, h2]
    cases f with
    | nx e' => simp only [nxt_nx]; exact wp_for I R h xs e' _ q
    | rt d => simp only [nxt_rt]; exact wp_ok q
    | xc y e' => exact q.elim

/-! values of many kinds -/
mutual
def nv (b : Nat) : D → Bool
  | .non => true
  | .bl _ => true
  | .int i => decide (i.natAbs < 2 ^ b)
  | .str x => PyData.strOk x
  | .tup xs => nvs b xs
  | .lst xs => nvs b xs
  | .dct ks xs => ks.isEmpty && xs.isEmpty
  | .ref _ => false
  | .exn _ _ => false
def nvs (b : Nat) : List D → Bool
  | [] => true
  | x :: xs => nv b x && nvs b xs
end
mutual
def bk : D → Nat
  | .non => 0
  | .bl _ => 0
  | .int _ => 0
  | .str x => x.cps.size
  | .tup xs => bks xs
  | .lst xs => bks xs
  | .dct _ _ => 0
  | .ref _ => 0
  | .exn _ _ => 0
def bks : List D → Nat
  | [] => 0
  | x :: xs => bk x + 1 + bks xs
end
mutual
def dp : D → Nat
  | .non => 0
  | .bl _ => 0
  | .int _ => 0
  | .str _ => 0
  | .tup xs => dps xs + 1
  | .lst xs => dps xs + 1
  | .dct _ _ => 1
  | .ref _ => 0
  | .exn _ _ => 0
def dps : List D → Nat
  | [] => 0
  | x :: xs => max (dp x) (dps xs)
end
theorem nvs_iff {b : Nat} : ∀ {xs : List D}, nvs b xs = true ↔ ∀ x ∈ xs, nv b x = true
  | [] => by simp [nvs]
  | x :: xs => by simp [nvs, nvs_iff (xs := xs)]
theorem dps_le {h : Nat} : ∀ {xs : List D}, dps xs ≤ h ↔ ∀ x ∈ xs, dp x ≤ h
  | [] => by simp [dps]
  | x :: xs => by
    simp only [dps, List.mem_cons, forall_eq_or_imp, ← dps_le (xs := xs)]
    omega
theorem bks_app : ∀ (xs ys : List D), bks (xs ++ ys) = bks xs + bks ys
  | [], ys => by simp [bks]
  | x :: xs, ys => by simp only [List.cons_append, bks, bks_app xs ys]; omega
theorem bks_rev : ∀ (xs : List D), bks xs.reverse = bks xs
  | [] => rfl
  | x :: xs => by rw [List.reverse_cons, bks_app, bks_rev xs]; simp only [bks]; omega
theorem bks_split (xs : List D) (n : Nat) : bks (xs.take n) + bks (xs.drop n) = bks xs := by rw [← bks_app, List.take_append_drop]
theorem bks_mem : ∀ {xs : List D} {x : D}, x ∈ xs → bk x + 1 ≤ bks xs
  | y :: ys, x, h => by
    simp only [bks]
    rcases List.mem_cons.mp h with rfl | h
    · omega
    · have := bks_mem h; omega
mutual
theorem nv_top {b : Nat} : ∀ d : D, nv b d = true → d.top = 0
  | .non, _ => rfl
  | .bl _, _ => rfl
  | .int _, _ => rfl
  | .str _, _ => rfl
  | .tup xs, h => by simp only [D.top]; exact nvs_top xs (by simpa [nv] using h)
  | .lst xs, h => by simp only [D.top]; exact nvs_top xs (by simpa [nv] using h)
  | .dct ks xs, h => by
    simp only [nv, Bool.and_eq_true, List.isEmpty_iff] at h
    rw [h.2]; rfl
  | .ref _, h => by cases h
theorem nvs_top {b : Nat} : ∀ d : List D, nvs b d = true → tops d = 0
  | [], _ => rfl
  | x :: xs, h => by
    simp only [nvs, Bool.and_eq_true] at h
    simp only [tops, nv_top x h.1, nvs_top xs h.2]; rfl
end
mutual
theorem nv_mono {b c : Nat} (hbc : b ≤ c) : ∀ d : D, nv b d = true → nv c d = true
  | .non, _ => rfl
  | .bl _, _ => rfl
  | .int i, h => by
    simp only [nv, decide_eq_true_eq] at h ⊢
    exact Nat.lt_of_lt_of_le h (Nat.pow_le_pow_right (by decide) hbc)
  | .str _, h => h
  | .tup xs, h => by simp only [nv] at h ⊢; exact nvs_mono hbc xs h
  | .lst xs, h => by simp only [nv] at h ⊢; exact nvs_mono hbc xs h
  | .dct _ _, h => h
  | .ref _, h => by cases h
theorem nvs_mono {b c : Nat} (hbc : b ≤ c) : ∀ d : List D, nvs b d = true → nvs c d = true
  | [], _ => rfl
  | x :: xs, h => by
    simp only [nvs, Bool.and_eq_true] at h ⊢
    exact ⟨nv_mono hbc x h.1, nvs_mono hbc xs h.2⟩
end
/-- small enough to be written -/
structure Nv (b h w : Nat) (d : D) : Prop where
  ok : nv b d = true
  dp : dp d ≤ h
  bk : bk d ≤ w
structure Nvs (b h w : Nat) (xs : List D) : Prop where
  ok : ∀ x ∈ xs, nv b x = true
  dp : ∀ x ∈ xs, RP.dp x + 1 ≤ h
  bk : bks xs ≤ w
  h1 : 1 ≤ h
theorem Nv.mono {b h w b' h' w' : Nat} {d : D} (n : Nv b h w d) (hb : b ≤ b') (hh : h ≤ h') (hw : w ≤ w') : Nv b' h' w' d := ⟨nv_mono hb d n.ok, Nat.le_trans n.dp hh, Nat.le_trans n.bk hw⟩
theorem Nvs.mono {b h w b' h' w' : Nat} {d : List D} (n : Nvs b h w d) (hb : b ≤ b') (hh : h ≤ h') (hw : w ≤ w') : Nvs b' h' w' d := ⟨fun x hx => nv_mono hb x (n.ok x hx), fun x hx => Nat.le_trans (n.dp x hx) hh, Nat.le_trans n.bk hw, Nat.le_trans n.h1 hh⟩
theorem Nv.top {b h w : Nat} {d : D} (n : Nv b h w d) : d.top = 0 := nv_top d n.ok
theorem Nvs.tup {b h w : Nat} {xs : List D} (n : Nvs b h w xs) : Nv b h w (.tup xs) := by
  refine ⟨by simp only [nv]; exact nvs_iff.mpr n.ok, ?_, by simp only [RP.bk]; exact n.bk⟩
  have h1 := n.h1
  have : dps xs ≤ h - 1 := dps_le.mpr fun x hx => by have := n.dp x hx; omega
  simp only [RP.dp]; omega
theorem Nvs.lst {b h w : Nat} {xs : List D} (n : Nvs b h w xs) : Nv b h w (.lst xs) := by
  refine ⟨by simp only [nv]; exact nvs_iff.mpr n.ok, ?_, by simp only [RP.bk]; exact n.bk⟩
  have h1 := n.h1
  have : dps xs ≤ h - 1 := dps_le.mpr fun x hx => by have := n.dp x hx; omega
  simp only [RP.dp]; omega
theorem Nv.items {b h w : Nat} {xs : List D} (n : Nv b h w (.tup xs)) : Nvs b h w xs := by
  have h1 := n.dp
  simp only [RP.dp] at h1
  refine ⟨nvs_iff.mp (by simpa [nv] using n.ok), fun x hx => ?_, by simpa [RP.bk] using n.bk, by omega⟩
  have := dps_le.mp (Nat.le_refl (dps xs)) x hx
  omega
theorem Nvs.app {b h w w' : Nat} {xs ys : List D} (n : Nvs b h w xs) (m : Nvs b h w' ys) : Nvs b h (w + w') (xs ++ ys) := by
  refine ⟨fun x hx => ?_, fun x hx => ?_, by rw [bks_app]; exact Nat.add_le_add n.bk m.bk, n.h1⟩
  · rcases List.mem_append.mp hx with h | h
    · exact n.ok x h
    · exact m.ok x h
  · rcases List.mem_append.mp hx with h | h
    · exact n.dp x h
    · exact m.dp x h
theorem Nvs.one {b h w : Nat} {x : D} (n : Nv b h w x) : Nvs b (h + 1) (w + 1) [x] := by
  refine ⟨fun y hy => ?_, fun y hy => ?_, by simp only [bks]; have := n.bk; omega, by omega⟩
  · obtain rfl : y = x := by simpa using hy
    exact n.ok
  · obtain rfl : y = x := by simpa using hy
    have := n.dp; omega
theorem Nvs.nil {b h : Nat} (h1 : 1 ≤ h) : Nvs b h 0 [] := ⟨(fun _ h => nomatch h), (fun _ h => nomatch h), Nat.le_refl _, h1⟩
theorem Nvs.sub {b h w w' : Nat} {xs ys : List D} (n : Nvs b h w xs) (hs : ∀ y ∈ ys, y ∈ xs) (hw : bks ys ≤ w') : Nvs b h w' ys := ⟨fun x hx => n.ok x (hs x hx), fun x hx => n.dp x (hs x hx), hw, n.h1⟩
theorem Nvs.rev {b h w : Nat} {xs : List D} (n : Nvs b h w xs) : Nvs b h w xs.reverse := n.sub (fun y hy => by simpa using hy) (by rw [bks_rev]; exact n.bk)
theorem Nvs.take {b h w : Nat} {xs : List D} (n : Nvs b h w xs) (k : Nat) : Nvs b h w (xs.take k) := n.sub (fun y hy => List.mem_of_mem_take hy) (by have := bks_split xs k; have := n.bk; omega)
theorem Nvs.drop {b h w : Nat} {xs : List D} (n : Nvs b h w xs) (k : Nat) : Nvs b h w (xs.drop k) := n.sub (fun y hy => List.mem_of_mem_drop hy) (by have := bks_split xs k; have := n.bk; omega)
theorem Nvs.item {b h w : Nat} {xs : List D} {x : D} (n : Nvs b h w xs) (hx : x ∈ xs) : Nv b (h - 1) w x := ⟨n.ok x hx, by have := n.dp x hx; omega, by have := bks_mem hx; have := n.bk; omega⟩
theorem Nvs.cons {b h w w' : Nat} {x : D} {xs : List D} (n : Nv b h w x) (m : Nvs b (h + 1) w' xs) : Nvs b (h + 1) (w + 1 + w') (x :: xs) := (Nvs.one n).app m

/-! texts -/
theorem int_txt {i : Int} {b : Nat} (hb0 : 0 < b) (hb : b ≤ 1900) (h : i.natAbs < 2 ^ b) : i.natAbs.log2 < 1920 ∧ (PyData.shown (.int i)).length ≤ b + 1 := by
  have a : i.natAbs.log2 < b := by
    obtain ⟨c, rfl⟩ : ∃ c, b = c + 1 := ⟨b - 1, by omega⟩
    exact log_lt (k := c) h
  refine ⟨by omega, ?_⟩
  show (PySem.Str.ofString (toString i)).length ≤ _
  rw [PySem.ofString_length]
  exact PySem.int_text_length_le hb0 a
mutual
theorem nv_show {b : Nat} (hb0 : 0 < b) (hb : b ≤ 1900) : ∀ d : D, nv b d = true → (pyP d).showable = true ∧ (pyP d).leavesShort (b + 8) = true ∧ (pyP d).depth = dp d ∧ (pyP d).bulk = bk d
  | .non, _ => ⟨rfl, rfl, rfl, rfl⟩
  | .bl _, _ => ⟨rfl, rfl, rfl, rfl⟩
  | .int i, h => by
    obtain ⟨h1, h2⟩ := int_txt hb0 hb (by simpa [nv] using h)
    refine ⟨by simp only [pyP, PyData.showable]; exact decide_eq_true h1, ?_, by simp only [pyP, PyData.depth, dp], by simp only [pyP, PyData.bulk, bk]⟩
    simp only [pyP, PyData.leavesShort]
    exact decide_eq_true (by omega)
  | .str x, h => by
    refine ⟨by simp only [pyP, PyData.showable], ?_, by simp only [pyP, PyData.depth, dp], by simp only [pyP, PyData.bulk, bk]⟩
    simp only [nv, PyData.strOk, Array.all_eq_true_iff_forall_mem, decide_eq_true_eq] at h
    simp only [pyP, PyData.leavesShort, List.all_eq_true, decide_eq_true_eq]
    intro c hc
    have := h c (by simpa using hc)
    exact Nat.lt_of_lt_of_le this (by decide)
  | .tup xs, h => by
    obtain ⟨h1, h2, h3, h4⟩ := nvs_show hb0 hb xs (by simpa [nv] using h)
    exact ⟨by simp only [pyP, PyData.showable]; exact h1, by simp only [pyP, PyData.leavesShort]; exact h2, by simp only [pyP, PyData.depth, dp, h3], by simp only [pyP, PyData.bulk, bk, h4]⟩
  | .lst xs, h => by
    obtain ⟨h1, h2, h3, h4⟩ := nvs_show hb0 hb xs (by simpa [nv] using h)
    exact ⟨by simp only [pyP, PyData.showable]; exact h1, by simp only [pyP, PyData.leavesShort]; exact h2, by simp only [pyP, PyData.depth, dp, h3], by simp only [pyP, PyData.bulk, bk, h4]⟩
  | .dct ks xs, h => by
    simp only [nv, Bool.and_eq_true, List.isEmpty_iff] at h
    obtain ⟨rfl, rfl⟩ := h
    exact ⟨rfl, rfl, rfl, rfl⟩
  | .ref _, h => by cases h
theorem nvs_show {b : Nat} (hb0 : 0 < b) (hb : b ≤ 1900) : ∀ d : List D, nvs b d = true → PyData.showableAll (pyPs d) = true ∧ PyData.leavesShortAll (b + 8) (pyPs d) = true ∧ PyData.depthAll (pyPs d) = dps d ∧ PyData.bulkAll (pyPs d) = bks d
  | [], _ => ⟨rfl, rfl, rfl, rfl⟩
  | x :: xs, h => by
    simp only [nvs, Bool.and_eq_true] at h
    obtain ⟨h1, h2, h3, h4⟩ := nv_show hb0 hb x h.1
    obtain ⟨k1, k2, k3, k4⟩ := nvs_show hb0 hb xs h.2
    exact ⟨by simp only [pyPs, PyData.showableAll, h1, k1, Bool.and_self], by simp only [pyPs, PyData.leavesShortAll, h2, k2, Bool.and_self], by simp only [pyPs, PyData.depthAll, dps, h3, k3], by simp only [pyPs, PyData.bulkAll, bks, h4, k4]⟩
end
theorem repr_nv {b h w : Nat} {d : D} {st : Sto} (n : Nv b h w d) (hb0 : 0 < b) (hb : b ≤ 1900) (hh : h ≤ 64) (hw : (b + 10) * w + b + 8 ≤ sizeLine) : bi .repr [d] st = .ok (.str (pyP d).shown) st := by
  obtain ⟨h1, h2, h3, h4⟩ := nv_show hb0 hb d n.ok
  have l := PyData.shown_le_bulk (b + 8) (by omega) (pyP d) h2
  have hd := n.dp
  have hk := n.bk
  have hm : (b + 8 + 2) * (pyP d).bulk ≤ (b + 10) * w := by rw [h4]; exact Nat.mul_le_mul (by omega) hk
  have ok : reprOk (pyP d) = true := by
    unfold reprOk
    simp only [Bool.and_eq_true, decide_eq_true_eq]
    exact ⟨⟨h1, by omega⟩, by omega⟩
  simp only [bi, reprD, toPy_of n.top, ok, if_true]
/-- an item that is drawn -/
theorem ix_mem {xs : List D} {i : Int} {st : Sto} (h0 : 0 ≤ i) (h1 : i < xs.length) : ∃ x ∈ xs, ixD (.lst xs) (.int i) st = .ok x st := by
  obtain ⟨k, rfl⟩ := Int.eq_ofNat_of_zero_le h0
  have hk : k < xs.length := by omega
  refine ⟨xs[k], List.getElem_mem hk, ?_⟩
  simp only [ixD, seqOf, atI_lit (List.getElem?_eq_getElem hk)]
theorem ix_at {xs : List D} {k : Nat} {st : Sto} (hk : k < xs.length) : ixD (.tup xs) (.int (k : Int)) st = .ok xs[k] st := by
  simp only [ixD, seqOf, atI_lit (List.getElem?_eq_getElem hk)]
theorem sl_to {xs : List D} {k : Nat} {st : Sto} (hk : k ≤ xs.length) : slD (.tup xs) .non (.int (k : Int)) st = .ok (.tup (xs.take k)) st := by
  simp only [slD, partD, cutD, HT.sIx_none, HT.sIx_nat, List.drop_zero, Nat.sub_zero, Nat.min_eq_left hk]
theorem sl_from {xs : List D} {k : Nat} {st : Sto} (hk : k ≤ xs.length) : slD (.tup xs) (.int (k : Int)) .non st = .ok (.tup (xs.drop k)) st := by
  simp only [slD, partD, cutD, HT.sIx_none, HT.sIx_nat, Nat.min_eq_left hk]
  rw [List.take_of_length_le (by simp)]
theorem sl_last {xs : List D} {st : Sto} : ∃ k, slD (.tup xs) (.int (-1)) .non st = .ok (.tup (xs.drop k)) st := by
  refine ⟨HT.sIx xs.length 0 (some (-1)), ?_⟩
  simp only [slD, partD, cutD, HT.sIx_none]
  rw [List.take_of_length_le (by simp)]
theorem rev_tup {xs : List D} {st : Sto} : revD (.tup xs) st = .ok (.tup xs.reverse) st := rfl
theorem isi_top {t : Ty} {d : D} {st : Sto} (h : d.top = 0) : isiD t d st = .ok (.bl (tyB t d)) st := isi_eq (by rw [h]; exact Nat.zero_le _) (fun c xs e => by rw [e] at h; simp [D.top] at h)
end RP
namespace RP
open PySem L2
/-! valleys -/
def isI : D → Bool
  | .int _ => true
  | _ => false
def isPr : D → Bool
  | .tup [.int _, .int _] => true
  | _ => false
theorem isPr_tup {xs : List D} : isPr (.tup xs) = (decide (xs.length = 2) && xs.all isI) := by
  rcases xs with _ | ⟨x, _ | ⟨y, _ | ⟨z, r⟩⟩⟩
  · simp [isPr]
  · cases x <;> simp [isPr]
  · cases x <;> cases y <;> simp [isPr, isI]
  · cases x <;> cases y <;> simp [isPr]
def adjB : D → Bool
  | .tup [.tup [.int a, .int b], .tup [.int c, .int d]] => decide (a < c) && decide (d < b)
  | _ => false
def isVl : D → Bool
  | .tup xs => decide (1 ≤ xs.length) && decide (xs.length ≤ 400) && xs.all isPr && (zipd xs (xs.drop 1)).all adjB
  | _ => false
def stB : D → Bool
  | .tup (.tup [.int a, .int b] :: _) => a == 0 && decide (b ≤ 0)
  | _ => false
def isSt (d : D) : Bool := isVl d && stB d
end RP
namespace RP
open PySem L2
def headS : Ss → S
  | .cons s _ => s
  | .nil => .skip
def tailS : Ss → Ss
  | .cons _ ss => ss
  | .nil => .nil
theorem shown_strOk (i : Int) : PyData.strOk (PyData.shown (.int i)) = true := by
  unfold PyData.strOk
  rw [Array.all_eq_true_iff_forall_mem]
  intro c hc
  have h : PyData.shown (.int i) = PySem.Str.ofString (toString i) := rfl
  rw [h, PySem.Str.ofString_eq_toList] at hc
  simp only [List.mem_toArray, List.mem_map] at hc
  obtain ⟨a, _, rfl⟩ := hc
  exact decide_eq_true (by
    have := a.valid
    rcases this with h | h
    · exact Nat.lt_trans h (by decide)
    · exact h.2)
end RP

/-! profiles: walks over usages; two in sequence -/
namespace PP
/-- usages with the greatest so far -/
def fr (hi : Int) : List Int → Vs
  | [] => []
  | h :: r => (max hi h, h) :: fr (max hi h) r
def mx (hi : Int) : List Int → Int
  | [] => hi
  | h :: r => mx (max hi h) r
/-- the usages of steps -/
def scan (h : Int) : List Int → List Int
  | [] => [h]
  | s :: r => h :: scan (h + s) r
structure Pf where
  net : Int
  peak : Int
  st : Vs
  en : Vs
theorem fr_app : ∀ (l m : List Int) (hi : Int), fr hi (l ++ m) = fr hi l ++ fr (mx hi l) m
  | [], m, hi => rfl
  | h :: l, m, hi => by simp only [List.cons_append, fr, mx, fr_app l m]
theorem mx_app : ∀ (l m : List Int) (hi : Int), mx hi (l ++ m) = mx (mx hi l) m
  | [], m, hi => rfl
  | h :: l, m, hi => by simp only [List.cons_append, mx, mx_app l m]
theorem mx_ge : ∀ (l : List Int) (hi : Int), hi ≤ mx hi l
  | [], hi => Int.le_refl _
  | h :: l, hi => by simp only [mx]; have := mx_ge l (max hi h); omega
theorem mx_mem : ∀ {l : List Int} {hi x : Int}, x ∈ l → x ≤ mx hi l
  | h :: l, hi, x, hx => by
    simp only [mx]
    rcases List.mem_cons.mp hx with rfl | hx
    · have := mx_ge l (max hi x); omega
    · exact mx_mem hx
theorem mx_le : ∀ {l : List Int} {hi b : Int}, hi ≤ b → (∀ x ∈ l, x ≤ b) → mx hi l ≤ b
  | [], hi, b, h, _ => h
  | x :: l, hi, b, h, k => by
    simp only [mx]
    exact mx_le (by have := k x List.mem_cons_self; omega) fun y hy => k y (List.mem_cons_of_mem _ hy)
theorem mx_rev {l : List Int} {hi : Int} : mx hi l.reverse = mx hi l := by
  refine Int.le_antisymm (mx_le (mx_ge _ _) fun x hx => mx_mem (List.mem_reverse.mp hx)) (mx_le (mx_ge _ _) fun x hx => mx_mem (List.mem_reverse.mpr hx))
theorem mx_max : ∀ (l : List Int) (a b : Int), mx (max a b) l = max a (mx b l)
  | [], a, b => rfl
  | x :: l, a, b => by
    simp only [mx]
    rw [show max (max a b) x = max a (max b x) by omega, mx_max l]
theorem mx_sh : ∀ (l : List Int) (n a : Int), mx (a + n) (l.map (· + n)) = mx a l + n
  | [], n, a => rfl
  | x :: l, n, a => by
    simp only [mx, List.map_cons]
    rw [show max (a + n) (x + n) = max a x + n by omega, mx_sh l]
theorem fr_len : ∀ (l : List Int) (hi : Int), (fr hi l).length = l.length
  | [], _ => rfl
  | _ :: l, hi => by simp only [fr, List.length_cons, fr_len l]
theorem fr_snd : ∀ (l : List Int) (hi : Int), (fr hi l).map (·.2) = l
  | [], _ => rfl
  | _ :: l, hi => by simp only [fr, List.map_cons, fr_snd l]
theorem fr_cap : ∀ {l : List Int} {hi : Int} {p : Int × Int}, p ∈ fr hi l → hi ≤ p.1 ∧ p.1 ≤ mx hi l ∧ p.2 ≤ p.1 ∧ p.2 ∈ l
  | h :: l, hi, p, hp => by
    simp only [fr] at hp
    simp only [mx]
    have g := mx_ge l (max hi h)
    rcases List.mem_cons.mp hp with rfl | hp
    · simp; omega
    · obtain ⟨a, b, c, d⟩ := fr_cap hp
      exact ⟨by omega, b, c, List.mem_cons_of_mem _ d⟩
/-- raised -/
def rz (a : Int) (l : Vs) : Vs := l.map fun p => (max a p.1, p.2)
/-- moved -/
def mv (n : Int) (l : Vs) : Vs := l.map fun p => (p.1 + n, p.2 + n)
theorem fr_rz : ∀ (l : List Int) (a b : Int), rz a (fr b l) = fr (max a b) l
  | [], _, _ => rfl
  | h :: l, a, b => by
    have e : max a (max b h) = max (max a b) h := by omega
    have := fr_rz l a (max b h)
    simp only [rz, fr, List.map_cons] at this ⊢
    rw [this, e]
theorem fr_mv : ∀ (l : List Int) (n a : Int), mv n (fr a l) = fr (a + n) (l.map (· + n))
  | [], _, _ => rfl
  | h :: l, n, a => by
    have e : max a h + n = max (a + n) (h + n) := by omega
    have := fr_mv l n (max a h)
    simp only [mv, fr, List.map_cons] at this ⊢
    rw [this, e]
theorem scan_sh : ∀ (s : List Int) (h n : Int), (scan h s).map (· + n) = scan (h + n) s
  | [], h, n => rfl
  | x :: s, h, n => by
    simp only [scan, List.map_cons, scan_sh s]
    rw [show h + x + n = h + n + x by omega]
theorem scan_split : ∀ (s t : List Int) (h : Int), ∃ i : List Int, scan h s = i ++ [h + s.sum] ∧ scan h (s ++ t) = i ++ scan (h + s.sum) t
  | [], t, h => ⟨[], by simp [scan], by simp⟩
  | x :: s, t, h => by
    obtain ⟨i, e1, e2⟩ := scan_split s t (h + x)
    refine ⟨h :: i, ?_, ?_⟩
    · simp only [scan, e1, List.cons_append, List.sum_cons, List.cons.injEq, true_and]; rw [Int.add_assoc]
    · simp only [List.cons_append, scan, e2, List.sum_cons, List.cons.injEq, true_and]; rw [Int.add_assoc]
theorem scan_head (s : List Int) (h : Int) : ∃ r, scan h s = h :: r := by cases s <;> exact ⟨_, rfl⟩
theorem scan_len : ∀ (s : List Int) (h : Int), (scan h s).length = s.length + 1
  | [], _ => rfl
  | x :: s, h => by simp only [scan, List.length_cons, scan_len s]
theorem scan_ne (s : List Int) (h : Int) : scan h s ≠ [] := by
  obtain ⟨r, e⟩ := scan_head s h
  rw [e]; exact fun z => nomatch z
/-- the profile of steps one after another -/
def due (s : List Int) : Pf := ⟨s.sum, mx 0 (scan 0 s), desc (fr 0 (scan 0 s)), desc (fr s.sum (scan 0 s).reverse)⟩
def lastU (l : Vs) : Int := (l.getLast?.map (·.2)).getD 0
def lastC (l : Vs) : Int := (l.getLast?.map (·.1)).getD 0
/-- two in sequence -/
def stB (a b : Pf) : Vs := desc ((a.st.filter fun p => decide (p.1 < a.peak)) ++ [(a.peak, lastU a.st)] ++ rz a.peak (mv a.net b.st))
def enB (a b : Pf) : Vs := desc ((((mv a.net b.en).filter fun p => decide (p.1 < a.net + b.peak)) ++ [(a.net + b.peak, a.net + lastU b.en)]) ++ rz (a.net + b.peak) a.en)
def two (a b : Pf) : Pf := ⟨a.net + b.net, max a.peak (a.net + b.peak), stB a b, enB a b⟩
def seqs (l : List Pf) : Pf := l.foldl two (due [])

/-- the last of canonical ones is the least usage, behind the greatest capacity -/
theorem can_last {l : Vs} (h : Can l) (ne : l ≠ []) : (∃ p ∈ l, p.2 = lastU l ∧ p.1 = lastC l) ∧ ∀ p ∈ l, lastU l ≤ p.2 ∧ p.1 ≤ lastC l := by
  have e : ∀ {l : Vs}, Can l → l ≠ [] → ∃ q, l.getLast? = some q ∧ q ∈ l ∧ ∀ p ∈ l, q.2 ≤ p.2 ∧ p.1 ≤ q.1 := by
    intro l
    induction l with
    | nil => intro _ z; exact absurd rfl z
    | cons p r ih =>
      intro h _
      have h' := List.pairwise_cons.mp h
      cases r with
      | nil => exact ⟨p, rfl, List.mem_cons_self, fun x hx => by obtain rfl : x = p := by simpa using hx
                                                                 omega⟩
      | cons y r =>
        obtain ⟨q, e1, e2, e3⟩ := ih h'.2 (fun z => nomatch z)
        refine ⟨q, by simpa using e1, List.mem_cons_of_mem _ e2, fun x hx => ?_⟩
        rcases List.mem_cons.mp hx with rfl | hx
        · have := h'.1 q e2; omega
        · exact e3 x hx
  obtain ⟨q, e1, e2, e3⟩ := e h ne
  have a : lastU l = q.2 := by simp [lastU, e1]
  have b : lastC l = q.1 := by simp [lastC, e1]
  exact ⟨⟨q, e2, a.symm, b.symm⟩, fun p hp => by rw [a, b]; exact e3 p hp⟩
theorem mem_rz {a : Int} {l : Vs} {p : Int × Int} : p ∈ rz a l ↔ ∃ q ∈ l, p = (max a q.1, q.2) := by
  unfold rz; rw [List.mem_map]; exact ⟨fun ⟨q, h, e⟩ => ⟨q, h, e.symm⟩, fun ⟨q, h, e⟩ => ⟨q, h, e.symm⟩⟩
theorem mem_mv {a : Int} {l : Vs} {p : Int × Int} : p ∈ mv a l ↔ ∃ q ∈ l, p = (q.1 + a, q.2 + a) := by
  unfold mv; rw [List.mem_map]; exact ⟨fun ⟨q, h, e⟩ => ⟨q, h, e.symm⟩, fun ⟨q, h, e⟩ => ⟨q, h, e.symm⟩⟩
/-- what is behind a bound may be put at the bound, with the least usage -/
theorem cov_cut {F G : Vs} {pk : Int} (ne : F ≠ []) (hc : ∀ p ∈ F, p.1 ≤ pk) {c u : Int} :
    Cov (((desc F).filter fun p => decide (p.1 < pk)) ++ [(pk, lastU (desc F))] ++ rz pk (desc G)) c u ↔ Cov (F ++ rz pk G) c u := by
  obtain ⟨⟨w, hw, hw1, _⟩, hl⟩ := can_last (desc_can F) (desc_ne ne)
  constructor
  · rintro ⟨p, hp, h1, h2⟩
    rcases List.mem_append.mp hp with hp | hp
    · rcases List.mem_append.mp hp with hp | hp
      · exact ⟨p, List.mem_append_left _ (desc_sub (List.mem_filter.mp hp).1), h1, h2⟩
      · obtain rfl : p = (pk, lastU (desc F)) := by simpa using hp
        have := hc w (desc_sub hw)
        exact ⟨w, List.mem_append_left _ (desc_sub hw), by simp at h1; omega, by simp at h2; omega⟩
    · obtain ⟨q, hq, rfl⟩ := mem_rz.mp hp
      exact ⟨_, List.mem_append_right _ (mem_rz.mpr ⟨q, desc_sub hq, rfl⟩), h1, h2⟩
  · rintro ⟨p, hp, h1, h2⟩
    rcases List.mem_append.mp hp with hp | hp
    · obtain ⟨q, hq, q1, q2⟩ := desc_cov hp
      by_cases hk : q.1 < pk
      · exact ⟨q, List.mem_append_left _ (List.mem_append_left _ (List.mem_filter.mpr ⟨hq, by simpa using hk⟩)), by omega, by omega⟩
      · have := hl q hq
        exact ⟨(pk, lastU (desc F)), List.mem_append_left _ (List.mem_append_right _ (by simp)), by simp; omega, by simp; omega⟩
    · obtain ⟨q, hq, rfl⟩ := mem_rz.mp hp
      obtain ⟨x, hx, x1, x2⟩ := desc_cov hq
      exact ⟨_, List.mem_append_right _ (mem_rz.mpr ⟨x, hx, rfl⟩), by simp at h1 ⊢; omega, by simp at h2 ⊢; omega⟩
theorem cov_mv {l : Vs} {n c u : Int} : Cov (mv n l) c u ↔ Cov l (c - n) (u - n) := by
  constructor
  · rintro ⟨p, hp, h1, h2⟩
    obtain ⟨q, hq, rfl⟩ := mem_mv.mp hp
    exact ⟨q, hq, by simp at h1; omega, by simp at h2; omega⟩
  · rintro ⟨q, hq, h1, h2⟩
    exact ⟨_, mem_mv.mpr ⟨q, hq, rfl⟩, by simp; omega, by simp; omega⟩
theorem can_mv {l : Vs} {n : Int} (h : Can l) : Can (mv n l) := by
  unfold mv Can
  rw [List.pairwise_map]
  exact List.Pairwise.imp (fun {a b} q => by simp; omega) h
theorem desc_mv {l : Vs} {n : Int} : mv n (desc l) = desc (mv n l) :=
  can_uniq (can_mv (desc_can l)) (desc_can _) fun c u => by rw [cov_mv, cov_desc, cov_desc, cov_mv]
theorem last_mv {l : Vs} {n : Int} (ne : l ≠ []) : lastU (mv n l) = n + lastU l := by
  obtain ⟨q, hq⟩ : ∃ q, l.getLast? = some q := by
    cases h : l.getLast? with
    | none => exact absurd (List.getLast?_eq_none_iff.mp h) ne
    | some q => exact ⟨q, rfl⟩
  have e : (mv n l).getLast? = some (q.1 + n, q.2 + n) := by unfold mv; rw [List.getLast?_map, hq]; rfl
  simp only [lastU, e, hq, Option.map_some, Option.getD_some]; omega
theorem fr_ne {l : List Int} {a : Int} (h : l ≠ []) : fr a l ≠ [] := by cases l <;> first | exact absurd rfl h | exact fun z => nomatch z

theorem two_due (s t : List Int) : two (due s) (due t) = due (s ++ t) := by
  obtain ⟨i, e1, e2⟩ := scan_split s t 0
  rw [Int.zero_add] at e1 e2
  have hmx : mx 0 (scan 0 s) = mx (mx 0 i) [s.sum] := by rw [e1, mx_app]
  have hn : s.sum ≤ mx 0 (scan 0 s) := mx_mem (by rw [e1]; simp)
  have h0 : 0 ≤ mx 0 (scan 0 s) := mx_ge _ _
  have h0t : 0 ≤ mx 0 (scan 0 t) := mx_ge _ _
  have htt : t.sum ≤ mx 0 (scan 0 t) := by
    obtain ⟨j, e3, _⟩ := scan_split t [] 0
    rw [Int.zero_add] at e3
    exact mx_mem (by rw [e3]; simp)
  have sh : scan s.sum t = (scan 0 t).map (· + s.sum) := by rw [scan_sh, Int.zero_add]
  have late : mx s.sum (scan s.sum t) = s.sum + mx 0 (scan 0 t) := by
    rw [sh]
    have := mx_sh (scan 0 t) s.sum 0
    rw [Int.zero_add] at this
    rw [this, Int.add_comm]
  obtain ⟨r, er⟩ := scan_head t s.sum
  have hsum : (s ++ t).sum = s.sum + t.sum := by simp
  unfold two
  show Pf.mk _ _ _ _ = due (s ++ t)
  unfold due
  have peak : mx 0 (scan 0 (s ++ t)) = max (mx 0 (scan 0 s)) (s.sum + mx 0 (scan 0 t)) := by
    rw [e2, mx_app, er, hmx]
    rw [er] at late
    simp only [mx] at late ⊢
    rw [mx_max]
    rw [Int.max_self] at late
    have g := mx_ge r s.sum
    omega
  congr 1
  · exact hsum.symm
  · exact peak.symm
  · -- the start
    unfold stB
    simp only []
    refine desc_eq fun c u => ?_
    rw [desc_mv, cov_cut (fr_ne (scan_ne _ _)) (fun p hp => (fr_cap hp).2.1), fr_mv, ← sh, Int.zero_add, fr_rz, Int.max_eq_left hn]
    unfold Cov
    refine exists_congr fun p => and_congr_left fun _ => ?_
    rw [e2, fr_app, e1, fr_app]
    rw [er]
    simp only [fr, List.mem_append, List.mem_cons, List.not_mem_nil, or_false]
    rw [show max (mx 0 (i ++ [s.sum])) s.sum = max (mx 0 i) s.sum by rw [mx_app]; show max (max (mx 0 i) s.sum) s.sum = _; omega]
    constructor
    · rintro ((h | h) | h | h)
      · exact .inl h
      · exact .inr (.inl h)
      · exact .inr (.inl h)
      · exact .inr (.inr h)
    · rintro (h | h | h)
      · exact .inl (.inl h)
      · exact .inl (.inr h)
      · exact .inr (.inr h)
  · -- the end
    unfold enB
    simp only []
    have nb : fr t.sum (scan 0 t).reverse ≠ [] := fr_ne (by simpa using scan_ne t 0)
    have e3 : mv s.sum (desc (fr t.sum (scan 0 t).reverse)) = desc (fr (s ++ t).sum (scan s.sum t).reverse) := by
      rw [desc_mv, fr_mv, hsum, Int.add_comm t.sum, sh, List.map_reverse]
    rw [← last_mv (desc_ne nb), e3]
    have nb2 : fr (s ++ t).sum (scan s.sum t).reverse ≠ [] := fr_ne (by simpa using scan_ne t s.sum)
    have hlt : mx (s ++ t).sum (scan s.sum t).reverse = s.sum + mx 0 (scan 0 t) := by
      rw [mx_rev, ← late]
      refine Int.le_antisymm (mx_le ?_ fun x hx => mx_mem hx) (mx_le ?_ fun x hx => mx_mem hx)
      · rw [late, hsum]; omega
      · exact mx_mem (by rw [er]; exact List.mem_cons_self)
    refine desc_eq fun c u => ?_
    rw [cov_cut nb2 (fun p hp => by have := (fr_cap hp).2.1; omega), fr_rz, e2, e1, List.reverse_append, List.reverse_append, fr_app (scan s.sum t).reverse, hlt, show max (s.sum + mx 0 (scan 0 t)) s.sum = s.sum + mx 0 (scan 0 t) by omega]
    unfold Cov
    refine exists_congr fun p => and_congr_left fun _ => ?_
    have lastm : (s.sum + mx 0 (scan 0 t), s.sum) ∈ fr (s ++ t).sum (scan s.sum t).reverse := by
      rw [er, List.reverse_cons, fr_app]
      refine List.mem_append_right _ ?_
      have hl2 := hlt
      rw [er, List.reverse_cons, mx_app] at hl2
      simp only [mx] at hl2
      rw [hsum] at hl2
      simp [fr, hl2]
    simp only [List.reverse_cons, List.reverse_nil, List.nil_append, List.cons_append, fr, List.mem_append, List.mem_cons]
    rw [show max (s.sum + mx 0 (scan 0 t)) s.sum = s.sum + mx 0 (scan 0 t) by omega]
    constructor
    · rintro (h | h | h)
      · exact .inl h
      · exact .inl (h ▸ lastm)
      · exact .inr h
    · rintro (h | h)
      · exact .inl h
      · exact .inr (.inr h)
theorem seqs_due : ∀ (l : List (List Int)) (s : List Int), (l.map due).foldl two (due s) = due (s ++ l.flatten)
  | [], s => by simp
  | t :: l, s => by
    simp only [List.map_cons, List.foldl_cons, two_due, List.flatten_cons]
    rw [seqs_due l (s ++ t), List.append_assoc]
theorem seqs_eq (l : List (List Int)) : seqs (l.map due) = due l.flatten := by
  unfold seqs; rw [seqs_due]; rfl
end PP

namespace PP
theorem due_one (v : Int) : due [v] = if 0 < v then ⟨v, v, [(0, 0)], [(v, 0)]⟩ else ⟨v, 0, [(0, v)], [(v, v)]⟩ := by
  have e0 : max (0 : Int) 0 = 0 := rfl
  by_cases h : 0 < v
  · rw [if_pos h]
    have e1 : max (0 : Int) v = v := by omega
    have e2 : max v (0 : Int) = v := by omega
    simp only [due, scan, mx, fr, desc, sortP, insP, List.sum_cons, List.sum_nil, Int.zero_add, Int.add_zero, List.reverse_cons, List.reverse_nil, List.nil_append, List.singleton_append, e0, e1, e2, Int.max_self]
    have b1 : ltB (v, v) (0, 0) = false := by rw [ltB_false]; simp; omega
    have b2 : ltB (v, 0) (v, v) = true := by rw [ltB_true]; simp; omega
    have c1 : ¬ (v : Int) < 0 := by omega
    simp [b1, b2, dsc, c1]
  · rw [if_neg h]
    have e1 : max (0 : Int) v = 0 := by omega
    have e2 : max v (0 : Int) = 0 := by omega
    simp only [due, scan, mx, fr, desc, sortP, insP, List.sum_cons, List.sum_nil, Int.zero_add, Int.add_zero, List.reverse_cons, List.reverse_nil, List.nil_append, List.singleton_append, e0, e1, e2, Int.max_self]
    by_cases hv : v = 0
    · subst hv
      rfl
    · have b1 : ltB (0, v) (0, 0) = true := by rw [ltB_true]; simp; omega
      have b2 : ltB (0, 0) (v, v) = false := by rw [ltB_false]; simp; omega
      have c1 : ¬ (0 : Int) < v := by omega
      simp [b1, b2, dsc, c1]

theorem desc_head {F : Vs} {c0 u0 : Int} (hm : (c0, u0) ∈ F) (hc : ∀ p ∈ F, c0 ≤ p.1) : ∃ u r, desc F = (c0, u) :: r ∧ u ≤ u0 := by
  obtain ⟨q, hq, q1, q2⟩ := desc_cov hm
  have cn := desc_can F
  cases e : desc F with
  | nil => rw [e] at hq; cases hq
  | cons p r =>
    rw [e] at hq cn
    have a := can_head cn hq
    have b := hc p (desc_sub (by rw [e]; exact List.mem_cons_self))
    have e1 : p.1 = c0 := by simp at q1; omega
    rcases List.mem_cons.mp hq with rfl | hq
    · exact ⟨q.2, r, by rw [← e1], by simpa using q2⟩
    · have := (List.pairwise_cons.mp cn).1 q hq
      simp at q1
      omega
structure GoodPf (p : Pf) : Prop where
  c1 : Can p.st
  c2 : Can p.en
  l1 : p.st.length ≤ 400
  l2 : p.en.length ≤ 400
  h1 : ∃ u r, p.st = (0, u) :: r ∧ u ≤ 0
  h2 : ∃ u r, p.en = (p.net, u) :: r ∧ u ≤ p.net
  e : lastU p.st = lastU p.en
  k0 : 0 ≤ p.peak
  k1 : p.net ≤ p.peak
  k2 : lastC p.st ≤ p.peak
  k3 : lastC p.en ≤ p.peak
theorem lastU_fr {l : List Int} {a : Int} (h : l ≠ []) : lastU (desc (fr a l)) ∈ l ∧ ∀ x ∈ l, lastU (desc (fr a l)) ≤ x := by
  obtain ⟨⟨w, w1, w2, w3⟩, hl⟩ := can_last (desc_can (fr a l)) (desc_ne (fr_ne h))
  constructor
  · rw [← w2]; exact (fr_cap (desc_sub w1)).2.2.2
  · intro x hx
    have : x ∈ (fr a l).map (·.2) := by rw [fr_snd]; exact hx
    obtain ⟨p, hp, rfl⟩ := List.mem_map.mp this
    obtain ⟨q, hq, _, q2⟩ := desc_cov hp
    have := (hl q hq).1
    omega
theorem due_good {s : List Int} (hs : s.length ≤ 399) : GoodPf (due s) := by
  obtain ⟨i, e1, _⟩ := scan_split s [] 0
  rw [Int.zero_add] at e1
  obtain ⟨r, er⟩ := scan_head s 0
  have hn : s.sum ≤ mx 0 (scan 0 s) := mx_mem (by rw [e1]; simp)
  have h0 : 0 ≤ mx 0 (scan 0 s) := mx_ge _ _
  have nb : (scan 0 s).reverse ≠ [] := by simpa using scan_ne s 0
  have q1 := lastU_fr (a := 0) (scan_ne s 0)
  have q2 := lastU_fr (a := s.sum) nb
  refine ⟨desc_can _, desc_can _, ?_, ?_, ?_, ?_, ?_, h0, hn, ?_, ?_⟩
  · have := desc_len (fr 0 (scan 0 s))
    rw [fr_len, scan_len] at this
    show (desc _).length ≤ 400
    omega
  · have := desc_len (fr s.sum (scan 0 s).reverse)
    rw [fr_len, List.length_reverse, scan_len] at this
    show (desc _).length ≤ 400
    omega
  · refine desc_head (u0 := 0) ?_ fun p hp => (fr_cap hp).1
    rw [er]
    exact List.mem_cons_self
  · refine desc_head (u0 := s.sum) ?_ fun p hp => (fr_cap hp).1
    rw [e1, List.reverse_append]
    show (s.sum, s.sum) ∈ (max s.sum s.sum, s.sum) :: _
    rw [Int.max_self]
    exact List.mem_cons_self
  · refine Int.le_antisymm (q1.2 _ (List.mem_reverse.mp q2.1)) (q2.2 _ (List.mem_reverse.mpr q1.1))
  · obtain ⟨⟨w, w1, w2, w3⟩, _⟩ := can_last (desc_can (fr 0 (scan 0 s))) (desc_ne (fr_ne (scan_ne s 0)))
    show lastC (desc _) ≤ mx 0 (scan 0 s)
    rw [← w3]; exact (fr_cap (desc_sub w1)).2.1
  · obtain ⟨⟨w, w1, w2, w3⟩, _⟩ := can_last (desc_can (fr s.sum (scan 0 s).reverse)) (desc_ne (fr_ne nb))
    show lastC (desc _) ≤ mx 0 (scan 0 s)
    rw [← w3]
    refine Int.le_trans (fr_cap (desc_sub w1)).2.1 ?_
    rw [mx_rev]
    exact mx_le hn fun x hx => mx_mem hx
theorem GoodPf.ne1 {p : Pf} (g : GoodPf p) : p.st ≠ [] := by obtain ⟨u, r, e, _⟩ := g.h1; rw [e]; exact fun z => nomatch z
theorem GoodPf.ne2 {p : Pf} (g : GoodPf p) : p.en ≠ [] := by obtain ⟨u, r, e, _⟩ := g.h2; rw [e]; exact fun z => nomatch z
theorem due_len (s : List Int) : (due s).st ≠ [] ∧ (due s).en ≠ [] ∧ (due s).st.length ≤ s.length + 1 ∧ (due s).en.length ≤ s.length + 1 := by
  refine ⟨desc_ne (fr_ne (scan_ne _ _)), desc_ne (fr_ne (by simpa using scan_ne s 0)), ?_, ?_⟩
  · have := desc_len (fr 0 (scan 0 s))
    rw [fr_len, scan_len] at this
    exact this
  · have := desc_len (fr s.sum (scan 0 s).reverse)
    rw [fr_len, List.length_reverse, scan_len] at this
    exact this
end PP

/-! pairs, valleys, profiles in the machine: rules, and loops over written bodies -/
namespace RP
open PySem L2 PP
theorem a_many3 {i j k : Nat} {a b c : D} {env : Env} {st : Sto} : asgMany [i, j, k] (.tup [a, b, c]) env st = .ok (((env.set i (some a)).set j (some b)).set k (some c)) st := rfl
theorem a_many4 {i j k l : Nat} {a b c d : D} {env : Env} {st : Sto} : asgMany [i, j, k, l] (.tup [a, b, c, d]) env st = .ok ((((env.set i (some a)).set j (some b)).set k (some c)).set l (some d)) st := rfl
theorem bi_mx2 {i j : Int} {st : Sto} : bi .max [.int i, .int j] st = .ok (.int (max i j)) st := by
  have : (if j > i then j else i) = max i j := by omega
  simp only [bi, this]
theorem bi_mn2 {i j : Int} {st : Sto} : bi .min [.int i, .int j] st = .ok (.int (min i j)) st := by
  have : (if j < i then j else i) = min i j := by omega
  simp only [bi, this]
theorem bi_max4 {i j k l : Int} {st : Sto} : bi .max [.int i, .int j, .int k, .int l] st = .ok (.int (max (max (max i j) k) l)) st := by
  have : maxL i [j, k, l] = max (max (max i j) k) l := by
    simp only [maxL, List.foldl_cons, List.foldl_nil]
    omega
  simp only [bi, this]
theorem ix3 {a b c d : D} {r : List D} {st : Sto} : ixD (.tup (a :: b :: c :: d :: r)) (.int 3) st = .ok d st := by
  have h : L2.atI (a :: b :: c :: d :: r) (3 : Int) = some d := atI_lit (i := 3) rfl
  simp only [ixD, seqOf, h]
theorem b_powS {i : Int} {k : Nat} {st : Sto} (h1 : i.natAbs < 2 ^ 20) (h2 : k ≤ 1000) : bin .pow (.int i) (.int (k : Int)) st = .ok (.int (i ^ k)) st := by
  have p : powOk i (k : Int) = true := powOk_of (Nat.lt_of_lt_of_le h1 (Nat.pow_le_pow_right (by decide) (by decide))) (by omega) (by omega)
  rw [b_pow p]; rfl
theorem b_pow9 {st : Sto} : bin .pow (.int 10) (.int 9) st = .ok (.int (10 ^ 9)) st := b_powS (k := 9) (by decide) (by decide)
theorem b_pow15 {st : Sto} : bin .pow (.int 10) (.int 15) st = .ok (.int (10 ^ 15)) st := b_powS (k := 15) (by decide) (by decide)
theorem b_pow12 {st : Sto} : bin .pow (.int 10) (.int 12) st = .ok (.int (10 ^ 12)) st := b_powS (k := 12) (by decide) (by decide)
theorem b_pow6 {st : Sto} : bin .pow (.int 10) (.int 6) st = .ok (.int (10 ^ 6)) st := b_powS (k := 6) (by decide) (by decide)
theorem b_pow18 {st : Sto} : bin .pow (.int 10) (.int 18) st = .ok (.int (10 ^ 18)) st := b_powS (k := 18) (by decide) (by decide)
theorem b_pow30 {st : Sto} : bin .pow (.int 10) (.int 30) st = .ok (.int (10 ^ 30)) st := b_powS (k := 30) (by decide) (by decide)
theorem b_pow45 {st : Sto} : bin .pow (.int 10) (.int 45) st = .ok (.int (10 ^ 45)) st := b_powS (k := 45) (by decide) (by decide)
theorem b_pow60 {st : Sto} : bin .pow (.int 10) (.int 60) st = .ok (.int (10 ^ 60)) st := b_powS (k := 60) (by decide) (by decide)
theorem b_pow61 {st : Sto} : bin .pow (.int 10) (.int 61) st = .ok (.int (10 ^ 61)) st := b_powS (k := 61) (by decide) (by decide)

def encVs (l : Vs) : D := .tup (l.map prD)
def encPf (p : Pf) : D := .tup [.int p.net, .int p.peak, encVs p.st, encVs p.en]
theorem tops_prs : ∀ l : Vs, tops (l.map prD) = 0
  | [] => rfl
  | p :: l => by simp only [List.map_cons, tops, tops_prs l]; rfl
theorem encVs_top (l : Vs) : (encVs l).top = 0 := by simp only [encVs, D.top, tops_prs]
theorem encPf_top (p : Pf) : (encPf p).top = 0 := by simp only [encPf, D.top, tops, encVs_top]; rfl
theorem purs_prs : ∀ l : Vs, purs (l.map prD) = true
  | [] => rfl
  | p :: l => by simp only [List.map_cons, purs, purs_prs l, Bool.and_true]; rfl
theorem prsOf_map : ∀ l : Vs, prsOf (l.map prD) = some l
  | [] => rfl
  | p :: l => by
    show (prsOf (l.map prD)).map ((p.1, p.2) :: ·) = _
    rw [prsOf_map l]; rfl
theorem bi_sorted {d : D} {l : Vs} {st : Sto} (h : lstOf d st = some (l.map prD)) : bi .sorted [d] st = .ok (.lst ((sortP l).map prD)) st := by
  simp only [bi, h, prsOf_map]
theorem eq_nil_ref {n : Nat} {o : O} {st : Sto} (h : st[n]? = some o) (hp : purs o.items = true) : cmp .eq (.ref n) (.lst []) st = .ok (.bl o.items.isEmpty) st := by
  have t1 : toPy st (.ref n) = some (.list (pyPs o.items)) := by
    show rdN st 4 n = _
    simp only [rdN, h, pys_of o.items (purs_top _ hp), Option.map_some]
  have t2 : toPy st (.lst []) = some (.list []) := rfl
  have e : PyData.eqv (.list (pyPs o.items)) (.list []) = o.items.isEmpty := by
    cases o.items <;> simp [pyPs, PyData.eqv, PyData.eqvAll]
  have l1 : (PyData.list (pyPs o.items)).canLay0 = true := by simp only [PyData.canLay0]; exact purs_lay _ hp
  have l2 : (PyData.list []).canLay0 = true := rfl
  have dm : min (PyData.list (pyPs o.items)).depth (PyData.list []).depth ≤ 64 := Nat.le_trans (Nat.min_le_right _ _) (by simp [PyData.depth, PyData.depthAll])
  show ofB (eqP (.ref n) (.lst []) st) st = _
  unfold eqP
  rw [t1, t2]
  simp only [l1, l2, dm, e, and_self, if_true, ofB]
theorem last_at {α : Type} {xs : List α} {x : α} (h : xs.getLast? = some x) : L2.atI xs (-1) = some x := by
  have ne : xs ≠ [] := by intro z; rw [z] at h; cases h
  have hl : 0 < xs.length := List.length_pos_iff.mpr ne
  unfold L2.atI L2.ixN
  rw [if_neg (by omega), if_pos (by omega)]
  have e : ((xs.length : Int) + -1).toNat = xs.length - 1 := by omega
  rw [List.getLast?_eq_getElem?] at h
  simp only [Option.bind_some]
  first
    | (rw [e]; exact h)
    | (have e2 : (-1 + (xs.length : Int)).toNat = xs.length - 1 := by omega
       rw [e2]; exact h)
theorem ix_lastT {xs : List D} {x : D} {st : Sto} (h : xs.getLast? = some x) : ixD (.tup xs) (.int (-1)) st = .ok x st := by simp only [ixD, seqOf, last_at h]
theorem ix_lastR {n : Nat} {o : O} {x : D} {st : Sto} (e : st[n]? = some o) (h : o.items.getLast? = some x) : ixD (.ref n) (.int (-1)) st = .ok x st := by simp only [ixD, seqOf, e, Option.map_some, last_at h]
theorem last_vs {l : Vs} (h : l ≠ []) (st : Sto) : ixD (encVs l) (.int (-1)) st = .ok (prD (lastC l, lastU l)) st := by
  obtain ⟨q, hq⟩ : ∃ q, l.getLast? = some q := by
    cases e : l.getLast? with
    | none => exact absurd (List.getLast?_eq_none_iff.mp e) h
    | some q => exact ⟨q, rfl⟩
  have : prD (lastC l, lastU l) = prD q := by simp [lastC, lastU, hq]
  rw [this]
  exact ix_lastT (by rw [List.getLast?_map, hq]; rfl)
theorem ap_last {st : Sto} {xs : List D} {x : D} (hz : xs.length + 1 ≤ sizeLine) : mt .append (.ref st.length) [x] (st ++ [.lst xs]) = .ok .non (st ++ [.lst (xs ++ [x])]) := by
  have e : setL st.length (fun ys => some (ys ++ [x])) (st ++ [.lst xs]) = some (st ++ [.lst (xs ++ [x])]) := by
    simp only [setL, get_last, List.length_append, List.length_cons, List.length_nil]
    rw [if_pos (by omega)]
    simp
  simp only [mt, e]
theorem ext_last {st : Sto} {xs ys : List D} (hz : xs.length + ys.length ≤ sizeLine) : mt .extend (.ref st.length) [.lst ys] (st ++ [.lst xs]) = .ok .non (st ++ [.lst (xs ++ ys)]) := by
  have e : setL st.length (fun zs => some (zs ++ ys)) (st ++ [.lst xs]) = some (st ++ [.lst (xs ++ ys)]) := by
    simp only [setL, get_last, List.length_append]
    rw [if_pos (by omega)]
    simp
  simp only [mt, extOf, ownOf, e]
theorem b_catM {xs ys : List D} {st : Sto} (h : xs.length + ys.length ≤ sizeLine) : bin .addM (.lst xs) (.lst ys) st = .ok (.ref st.length) (st ++ [.lst (xs ++ ys)]) := by simp only [bin, ownOf, h, if_true]
theorem tup_ref {n : Nat} {o : O} {st : Sto} (h : st[n]? = some o) : bi .tuple [.ref n] st = .ok (.tup o.items) st := by simp only [bi, seqOf, h, Option.map_some]
theorem FS.cut {st : Sto} {xs : List D} (F : FS st) (h : tops xs = 0) : FS (st ++ [.lst xs]) := F.app h
theorem trim_cut {st : Sto} {xs : List D} (F : FS st) (h : tops xs = 0) {t : Nat} (ht : t ≤ st.length + 1) : trim (st.length + 1) t (st ++ [.lst xs]) = st ++ [.lst xs] := trim_same (F.cut h) ht (by simp)
theorem fin_cut {mr : Bool} {st : Sto} {xs : List D} {d : D} (F : FS st) (h : tops xs = 0) (hd : d.top = 0) : fin mr st.length (.rt d) (st ++ [.lst xs]) = .ok d st := by
  rw [fin_rt (by omega), trim_fs (F.cut h) (by omega)]
  simp

/-! ### the loop of descending -/
local macro_rules | `(tactic| walk_at "ev") => `(tactic| simp only [e_v, lkV_some, lkG_some, e_k, e_g, e_tup, e_lst, e_lstM, e_dct, e_bin, e_cmp, e_chain, e_neg, e_not, e_and, e_or, e_ife, e_ix, e_call, e_bi, e_isi, e_mt, e_sl, e_rev, e_lc, es_nil, es_cons, i_seq, i_rng, i_zip, i_enum, a_nm, a_two, a_tup, a_lst, a_sub, s_ex', s_asg', s_two', s_aug', s_ret', s_ife', s_for', s_skip', ss_nil, ss_cons, it_tup, it_lst, zp_tup, zp_lst, en_lst, rev_lst, rev_tup, RP.neg_int, putTo_some, bi_len_tup, bi_len_lst, bi_list_tup, bi_tuple_lst, b_add, b_sub, c_lt, c_le, c_gt, c_ge, c_eqi, c_nei, c_isN, c_notN, c_eqnil, c_nenil, c_eqnilL, c_nenilL, c_eqstr, c_nestr, isB_bl, sz0, sz1, sz2, sz3, sz4, sz5, sz6, sz7, ix0, ix1, ix2, Tg.slots, wipeE, List.map_cons, List.map_nil, List.cons_append, List.nil_append, Nat.sub_self, List.replicate, List.getElem?_cons_zero, List.getElem?_cons_succ, List.set_cons_zero, List.set_cons_succ, Res.bind_ok, Res.thn_ok, Res.thn_exc, nxt_xc, nxt_nx, nxt_rt, br_some, tru_bl, if_true, if_false, Bool.false_eq_true, Bool.not_true, Bool.not_false, a_many, a_many3, a_many4, s_three', bi_mx2, bi_max4, ix3, b_pow18, b_pow30, b_pow45, b_pow60, b_pow61, b_pow9])
def descB : Ss := (.cons (.ife (.or (.cmp .eq (.v 1) (.lst false .nil)) (.cmp .lt (.v 3) (.ix (.ix (.v 1) (.neg (.k (.int (1))))) (.k (.int (1)))))) (.cons (.ex (.mt .append (.v 1) (.cons (.tup (.cons (.v 2) (.cons (.v 3) .nil))) .nil))) .nil) .nil) .nil)
def lastO (l : Vs) : Option Int := l.getLast?.map (·.2)
theorem lastO_app (l : Vs) (p : Int × Int) : lastO (l ++ [p]) = some p.2 := by simp [lastO]
section
variable {gl : List D} {cf : CallF} {st : Sto}
theorem desc_turn (F : FS st) {acc : Vs} {c u : Int} {d0 : D} (hz : acc.length + 1 ≤ sizeLine) :
    evSs gl cf descB [some d0, some (.ref st.length), some (.int c), some (.int u)] (st ++ [.lst (acc.map prD)]) =
      .ok (.nx [some d0, some (.ref st.length), some (.int c), some (.int u)]) (st ++ [.lst ((acc ++ (match lastO acc with | none => [(c, u)] | some v => if u < v then [(c, u)] else [])).map prD)]) := by
  simp only [descB]
  walk_at "ev"
  rw [eq_nil_ref (o := .lst (acc.map prD)) get_last (purs_prs acc)]
  walk_at "ev"
  have ap : mt .append (.ref st.length) [.tup [.int c, .int u]] (st ++ [.lst (acc.map prD)]) = .ok .non (st ++ [.lst ((acc ++ [(c, u)]).map prD)]) := by
    rw [ap_last (by simpa using hz), List.map_append]; rfl
  cases hl : acc.getLast? with
  | none =>
    have en := List.getLast?_eq_none_iff.mp hl
    have ie : (O.lst (acc.map prD)).items.isEmpty = true := by rw [en]; rfl
    simp only [ie]
    walk_at "ev"
    rw [ap]
    walk_at "ev"
    simp only [lastO, hl, Option.map_none]
  | some q =>
    have ne : acc ≠ [] := by intro z; rw [z] at hl; cases hl
    have ie : (O.lst (acc.map prD)).items.isEmpty = false := by cases acc <;> first | exact absurd rfl ne | rfl
    simp only [ie]
    walk_at "ev"
    rw [ix_lastR (o := .lst (acc.map prD)) (x := prD q) get_last (by show (acc.map prD).getLast? = _; rw [List.getLast?_map, hl]; rfl)]
    simp only [prD]
    walk_at "ev"
    simp only [lastO, hl, Option.map_some]
    by_cases h : u < q.2
    · simp only [h, decide_true]
      walk_at "ev"
      rw [ap]
      walk_at "ev"
    · simp only [h, decide_false]
      walk_at "ev"
      simp
theorem desc_loop (F : FS st) {d0 : D} (h0 : d0.top ≤ st.length) : ∀ (l acc : Vs) (e2 e3 : Option D), acc.length + l.length ≤ sizeLine → (∀ v, e2 = some v → v.top = 0) → (∀ v, e3 = some v → v.top = 0) →
    ∃ e2' e3', forLoop (asg gl cf (.two (.nm 2) (.nm 3))) (evSs gl cf descB) [] (st.length + 1) (l.map prD) [some d0, some (.ref st.length), e2, e3] (st ++ [.lst (acc.map prD)]) =
      .ok (.nx [some d0, some (.ref st.length), e2', e3']) (st ++ [.lst ((acc ++ dsc (lastO acc) l).map prD)])
  | [], acc, e2, e3, _, _, _ => ⟨e2, e3, by cases h : lastO acc <;> simp [forLoop, still, dsc]⟩
  | (c, u) :: l, acc, e2, e3, hz, _, _ => by
    simp only [List.map_cons, prD, forLoop, still, if_true]
    walk_at "ev"
    rw [desc_turn F (by simp at hz; omega)]
    walk_at "ev"
    have et : envTop [some d0, some (.ref st.length), some (.int c), some (.int u)] ≤ st.length + 1 := by
      simp only [envTop, D.top]; omega
    rw [trim_cut F (tops_prs _) et]
    have key : ∀ acc' : Vs, acc'.length + l.length ≤ sizeLine → acc' ++ dsc (lastO acc') l = acc ++ dsc (lastO acc) ((c, u) :: l) →
        ∃ e2' e3', forLoop (asg gl cf (.two (.nm 2) (.nm 3))) (evSs gl cf descB) [] (st.length + 1) (l.map prD) [some d0, some (.ref st.length), some (.int c), some (.int u)] (st ++ [.lst (acc'.map prD)]) =
          .ok (.nx [some d0, some (.ref st.length), e2', e3']) (st ++ [.lst ((acc ++ dsc (lastO acc) ((c, u) :: l)).map prD)]) := fun acc' hz' he => by
      obtain ⟨a, b, e⟩ := desc_loop F h0 l acc' (some (.int c)) (some (.int u)) hz' (fun v h => by cases h; rfl) (fun v h => by cases h; rfl)
      exact ⟨a, b, by rw [e, he]⟩
    refine key _ ?_ ?_
    · cases h : lastO acc with
      | none => simp at hz ⊢; omega
      | some v => simp only []; split <;> simp at hz ⊢ <;> omega
    · cases h : lastO acc with
      | none => simp only [lastO_app, dsc, List.append_assoc, List.singleton_append]
      | some v =>
        simp only [dsc]
        split
        · simp only [lastO_app, List.append_assoc, List.singleton_append]
        · rw [List.append_nil, h]
end
section
variable {gl : List D}
/-- the pairs of one list, in a comprehension -/
theorem filt_eq {cf : CallF} {st : Sto} {env : Env} {i j : Nat} {l : Vs} {k : Int} (F : FS st) (hj : ∀ x : D, (env.set i (some x))[j]? = some (some (.int k))) (hi : ∀ x : D, (env.set i (some x))[i]? = some (some x)) (hz : l.length ≤ sizeLine) :
    lcLoop (asg gl cf (.nm i)) (ev gl cf (.cmp .lt (.ix (.v i) (.k (.int (0)))) (.v j))) (ev gl cf (.v i)) [] st.length env (l.map prD) [] st = .ok ((l.filter fun p => decide (p.1 < k)).map prD) st := by
  rw [lc_filter F (fun z => match z with | .tup [.int x, _] => decide (x < k) | _ => false) id (fun x hx => by
    obtain ⟨p, _, rfl⟩ := List.mem_map.mp hx
    refine ⟨?_, fun _ => ⟨?_, rfl⟩⟩
    · walk_at "ev"
      rw [hi]
      walk_at "ev"
      simp only [prD]
      walk_at "ev"
      rw [hj]
      walk_at "ev"
    · walk_at "ev"
      rw [hi]
      rfl) (by simpa using hz)]
  rw [List.map_id, List.filter_map]
  rfl
theorem raise_eq {cf : CallF} {st : Sto} {env : Env} {i j k : Nat} {l : Vs} {a : Int} (F : FS st) (hi : ∀ x y : D, ((env.set i (some x)).set j (some y))[i]? = some (some x)) (hj : ∀ x y : D, ((env.set i (some x)).set j (some y))[j]? = some (some y))
    (hk : ∀ x y : D, ((env.set i (some x)).set j (some y))[k]? = some (some (.int a))) (hz : l.length ≤ sizeLine) :
    lcLoop (asg gl cf (.two (.nm i) (.nm j))) (ev gl cf (.k (.bl true))) (ev gl cf (.tup (.cons (.bi .max (.cons (.v k) (.cons (.v i) .nil))) (.cons (.v j) .nil)))) [] st.length env (l.map prD) [] st = .ok ((rz a l).map prD) st := by
  have g := lc_gen (tg := asg gl cf (.two (.nm i) (.nm j))) (cnd := ev gl cf (.k (.bl true))) (elt := ev gl cf (.tup (.cons (.bi .max (.cons (.v k) (.cons (.v i) .nil))) (.cons (.v j) .nil)))) (env := env) F
    (fun z => match z with | .tup [x, y] => (env.set i (some x)).set j (some y) | _ => []) (fun _ => true) (fun z => match z with | .tup [.int x, .int y] => .tup [.int (max a x), .int y] | _ => .non) (l.map prD) [] (fun z hz => by
      obtain ⟨p, _, rfl⟩ := List.mem_map.mp hz
      simp only [prD]
      refine ⟨by walk_at "ev", e_k, fun _ => ⟨?_, rfl⟩⟩
      walk_at "ev"
      rw [hk, hi, hj]
      walk_at "ev") rfl (by simpa using hz)
  rw [List.filter_eq_self.mpr (fun _ _ => rfl), List.map_map] at g
  rw [g]
  simp only [rz, List.map_map]
  rfl
end

/-! valleys are valleys -/
theorem prs_isPr (l : Vs) : (l.map prD).all isPr = true := List.all_eq_true.mpr fun x hx => by
  obtain ⟨p, _, rfl⟩ := List.mem_map.mp hx
  rfl
theorem prs_adj : ∀ {l : Vs}, Can l → (zipd (l.map prD) ((l.map prD).drop 1)).all adjB = true
  | [], _ => rfl
  | [p], _ => rfl
  | p :: q :: l, h => by
    have h' := List.pairwise_cons.mp h
    have a := h'.1 q List.mem_cons_self
    have ih := prs_adj h'.2
    simp only [List.map_cons, List.drop_succ_cons, List.drop_zero, zipd, List.all_cons] at ih ⊢
    rw [ih]
    simp [prD, adjB, a.1, a.2]
theorem vs_isVl {l : Vs} (h : Can l) (h1 : l ≠ []) (h2 : l.length ≤ 400) : isVl (encVs l) = true := by
  have := List.length_pos_iff.mpr h1
  simp only [encVs, isVl, List.length_map, prs_isPr, prs_adj h, Bool.and_true, Bool.and_eq_true, decide_eq_true_eq]
  omega

/-! how great the numbers of a profile are -/
theorem scan_bd : ∀ {s : List Int} {h B : Int} {k : Nat}, (∀ x ∈ s, 0 - B ≤ x ∧ x ≤ B) → s.length ≤ k → 0 ≤ B → ∀ {C : Int}, 0 - C ≤ h → h ≤ C → ∀ y ∈ scan h s, 0 - (C + k * B) ≤ y ∧ y ≤ C + k * B
  | [], h, B, k, _, _, hB, C, h1, h2, y, hy => by
    have e : y = h := by simpa [scan] using hy
    subst e
    have : 0 ≤ (k : Int) * B := Int.mul_nonneg (by omega) hB
    omega
  | x :: s, h, B, k, hx, hl, hB, C, h1, h2, y, hy => by
    have hx0 := hx x List.mem_cons_self
    cases k with
    | zero => simp at hl
    | succ k =>
      have e : ((k + 1 : Nat) : Int) * B = k * B + B := by rw [Int.natCast_succ, Int.add_mul, Int.one_mul]
      rw [e]
      have kb : 0 ≤ (k : Int) * B := Int.mul_nonneg (by omega) hB
      rcases List.mem_cons.mp hy with rfl | hy
      · omega
      · have := scan_bd (k := k) (fun z hz => hx z (List.mem_cons_of_mem _ hz)) (by simpa using hl) hB (C := C + B) (h := h + x) (by omega) (by omega) y hy
        omega
theorem nv_prs {b : Nat} : ∀ {l : Vs}, (∀ p ∈ l, p.1.natAbs < 2 ^ b ∧ p.2.natAbs < 2 ^ b) → Nvs b 2 (3 * l.length) (l.map prD)
  | [], _ => Nvs.nil (by omega)
  | p :: l, h => by
    have hp := h p List.mem_cons_self
    have a : Nv b 1 2 (prD p) := ⟨by simp [prD, nv, nvs, hp.1, hp.2], by simp [prD, dp, dps], by simp [prD, bk, bks]⟩
    have r := nv_prs fun q hq => h q (List.mem_cons_of_mem _ hq)
    exact (Nvs.cons a r).mono (Nat.le_refl _) (Nat.le_refl _) (by simp only [List.length_cons]; omega)
theorem abs_lt {x C : Int} {b : Nat} (h1 : 0 - C ≤ x) (h2 : x ≤ C) (hC : C < 2 ^ b) : x.natAbs < 2 ^ b := by
  have : (x.natAbs : Int) < ((2 ^ b : Nat) : Int) := by
    have e : ((2 ^ b : Nat) : Int) = 2 ^ b := by simp
    rw [e]; omega
  exact_mod_cast this
theorem due_nv {s : List Int} {B : Int} {k b : Nat} (hs : ∀ x ∈ s, 0 - B ≤ x ∧ x ≤ B) (hl : s.length ≤ k) (hB : 0 ≤ B) (hb : k * B < 2 ^ b) : Nv b 3 (10 + 6 * (k + 1)) (encPf (due s)) := by
  have bd : ∀ y ∈ scan 0 s, 0 - k * B ≤ y ∧ y ≤ k * B := fun y hy => by
    have := scan_bd hs hl hB (C := 0) (h := 0) (by omega) (by omega) y hy
    omega
  have kb : 0 ≤ (k : Int) * B := Int.mul_nonneg (by omega) hB
  obtain ⟨i, e1, _⟩ := scan_split s [] 0
  rw [Int.zero_add] at e1
  have sm : s.sum ∈ scan 0 s := by rw [e1]; simp
  have m0 : 0 ≤ mx 0 (scan 0 s) := mx_ge _ _
  have m1 : mx 0 (scan 0 s) ≤ k * B := mx_le kb fun x hx => (bd x hx).2
  have vs : ∀ {a : Int} {l : List Int}, (∀ y ∈ l, y ∈ scan 0 s) → 0 - k * B ≤ a → a ≤ k * B → l.length ≤ k + 1 → Nvs b 2 (3 * (k + 1)) ((desc (fr a l)).map prD) := fun {a l} hl2 a1 a2 hlen => by
    have ln : (desc (fr a l)).length ≤ k + 1 := Nat.le_trans (desc_len _) (by rw [fr_len]; exact hlen)
    refine (nv_prs fun p hp => ?_).mono (Nat.le_refl _) (Nat.le_refl _) (by omega)
    obtain ⟨c1, c2, c3, c4⟩ := fr_cap (desc_sub hp)
    have d := bd _ (hl2 _ c4)
    have mm : mx a l ≤ k * B := mx_le a2 fun x hx => (bd x (hl2 x hx)).2
    exact ⟨abs_lt (by omega) (by omega) hb, abs_lt d.1 d.2 hb⟩
  have ln : (scan 0 s).length ≤ k + 1 := by rw [scan_len]; omega
  have v1 := (vs (a := 0) (l := scan 0 s) (fun y hy => hy) (by omega) kb ln).tup
  have v2 := (vs (a := s.sum) (l := (scan 0 s).reverse) (fun y hy => List.mem_reverse.mp hy) (bd _ sm).1 (bd _ sm).2 (by simpa using ln)).tup
  have i1 : Nv b 2 0 (.int s.sum) := ⟨decide_eq_true (abs_lt (bd _ sm).1 (bd _ sm).2 hb), Nat.zero_le _, Nat.zero_le _⟩
  have i2 : Nv b 2 0 (.int (mx 0 (scan 0 s))) := ⟨decide_eq_true (abs_lt (by omega) m1 hb), Nat.zero_le _, Nat.zero_le _⟩
  have all := Nvs.cons i1 (Nvs.cons i2 (Nvs.cons v1 (Nvs.cons v2 (Nvs.nil (by omega)))))
  exact all.tup.mono (Nat.le_refl _) (Nat.le_refl _) (by omega)
theorem nvs_list {b h w : Nat} : ∀ {xs : List D}, (∀ x ∈ xs, Nv b h w x) → Nvs b (h + 1) ((w + 1) * xs.length) xs
  | [], _ => Nvs.nil (by omega)
  | x :: xs, hx => by
    have r := nvs_list fun y hy => hx y (List.mem_cons_of_mem _ hy)
    exact (Nvs.cons (hx x List.mem_cons_self) r).mono (Nat.le_refl _) (Nat.le_refl _) (by simp only [List.length_cons, Nat.mul_succ]; omega)
/-! several lists at the end of the store -/
theorem tops_ints : ∀ l : List Int, tops (l.map D.int) = 0
  | [] => rfl
  | p :: l => by simp only [List.map_cons, tops, tops_ints l]; rfl
theorem ap_at {st : Sto} {n : Nat} {xs : List D} {x : D} (h : st[n]? = some (.lst xs)) (hz : xs.length + 1 ≤ sizeLine) : mt .append (.ref n) [x] st = .ok .non (st.set n (.lst (xs ++ [x]))) := by
  have e : setL n (fun ys => some (ys ++ [x])) st = some (st.set n (.lst (xs ++ [x]))) := by
    simp only [setL, h, List.length_append, List.length_cons, List.length_nil]
    rw [if_pos (by omega)]
  simp only [mt, e]
theorem g3_0 {st : Sto} {a b c : O} : (st ++ [a, b, c])[st.length]? = some a := by simp
theorem g3_1 {st : Sto} {a b c : O} : (st ++ [a, b, c])[st.length + 1]? = some b := by simp
theorem g3_2 {st : Sto} {a b c : O} : (st ++ [a, b, c])[st.length + 2]? = some c := by simp
theorem s3_1 {st : Sto} {a b c y : O} : (st ++ [a, b, c]).set (st.length + 1) y = st ++ [a, y, c] := by simp [List.set_append]
theorem s3_2 {st : Sto} {a b c y : O} : (st ++ [a, b, c]).set (st.length + 2) y = st ++ [a, b, y] := by simp [List.set_append]
theorem fs3 {st : Sto} {a b c : List D} (F : FS st) (ha : tops a = 0) (hb : tops b = 0) (hc : tops c = 0) : FS (st ++ [.lst a, .lst b, .lst c]) := fun o ho => by
  rcases List.mem_append.mp ho with h | h
  · exact F o h
  · simp only [List.mem_cons, List.not_mem_nil, or_false] at h
    rcases h with rfl | rfl | rfl <;> assumption
theorem last_scan (s : List Int) (h : Int) : (scan h s).getLast? = some (h + s.sum) := by
  obtain ⟨i, e, _⟩ := scan_split s [] h
  rw [e]; simp
theorem still_it {st : Sto} {n : Nat} {o : O} (h : st[n]? = some o) : still [(n, o.items)] st = true := by
  simp only [still, h, sames_self, Bool.and_self]
theorem rev_ref {n : Nat} {o : O} {st : Sto} (h : st[n]? = some o) : revD (.ref n) st = .ok (.lst o.items.reverse) st := by simp only [revD, lstOf, h, Option.map_some]

/-! texts of whole numbers and tuples have true signs -/
theorem strOk_app {a b : Str} (ha : PyData.strOk a = true) (hb : PyData.strOk b = true) : PyData.strOk (a ++ b) = true := by
  have e : (a ++ b).cps = a.cps ++ b.cps := rfl
  unfold PyData.strOk at *
  rw [e, Array.all_append, ha, hb]; rfl
theorem strOk_join {s : Str} (hs : PyData.strOk s = true) : ∀ {ts : List Str}, (∀ t ∈ ts, PyData.strOk t = true) → PyData.strOk (Str.join s ts) = true
  | [], _ => by
    show PyData.strOk (Str.join s []) = true
    simp only [Str.join]; decide +kernel
  | [x], h => by
    show PyData.strOk (Str.join s [x]) = true
    simp only [Str.join]
    first | exact h x List.mem_cons_self | exact strOk_app (h x List.mem_cons_self) rfl
  | x :: y :: r, h => by
    have ih := strOk_join hs (ts := y :: r) fun t ht => h t (List.mem_cons_of_mem _ ht)
    show PyData.strOk (x ++ s ++ Str.join s (y :: r)) = true
    exact strOk_app (strOk_app (h x List.mem_cons_self) hs) ih
mutual
def iT : D → Bool
  | .int _ => true
  | .tup xs => iTs xs
  | _ => false
def iTs : List D → Bool
  | [] => true
  | x :: xs => iT x && iTs xs
end
mutual
theorem iT_str : ∀ d : D, iT d = true → PyData.strOk (pyP d).shown = true
  | .int i, _ => shown_strOk i
  | .tup xs, h => by
    have r := iTs_str xs (by simpa [iT] using h)
    simp only [pyP, PyData.shown, tupleText]
    refine strOk_app (strOk_app (by decide +kernel) (strOk_join (by decide +kernel) r)) ?_
    split <;> decide +kernel
  | .non, h => by cases h
  | .bl _, h => by cases h
  | .str _, h => by cases h
  | .lst _, h => by cases h
  | .dct _ _, h => by cases h
  | .ref _, h => by cases h
theorem iTs_str : ∀ ds : List D, iTs ds = true → ∀ t ∈ PyData.shownAll (pyPs ds), PyData.strOk t = true
  | [], _, t, ht => by simp [pyPs, PyData.shownAll] at ht
  | x :: xs, h, t, ht => by
    simp only [iTs, Bool.and_eq_true] at h
    simp only [pyPs, PyData.shownAll, List.mem_cons] at ht
    rcases ht with rfl | ht
    · exact iT_str x h.1
    · exact iTs_str xs h.2 t ht
end
theorem iTs_prs : ∀ l : Vs, iTs (l.map prD) = true
  | [] => rfl
  | p :: l => by simp only [List.map_cons, iTs, iTs_prs l, Bool.and_true]; rfl
theorem pf_str (p : Pf) : PyData.strOk (pyP (encPf p)).shown = true := iT_str _ (by simp only [encPf, iT, iTs, encVs, iTs_prs]; rfl)
theorem c_neL {xs : List D} {st : Sto} (hp : purs xs = true) (hd : (pyP (.lst xs)).depth ≤ 64) (h0 : xs ≠ []) : cmp .ne (.lst xs) (.lst xs) st = .ok (.bl false) st := by
  have t1 : toPy st (.lst xs) = some (.list (pyPs xs)) := by
    show (pysW (rdN st 4) xs).map PyData.list = _
    rw [pys_of xs (purs_top _ hp)]; rfl
  have l1 : (PyData.list (pyPs xs)).canLay0 = true := by simp only [PyData.canLay0]; exact purs_lay _ hp
  have eq : eqD (.lst xs) (.lst xs) st = some true := by
    cases xs with
    | nil => exact absurd rfl h0
    | cons x r =>
      show eqP (.lst (x :: r)) (.lst (x :: r)) st = _
      unfold eqP
      rw [t1]
      simp only [l1, true_and, Nat.min_self]
      rw [if_pos (by simpa [pyP] using hd), SeqAt.eqv_refl _ l1]
  simp only [cmp, eq, Option.map_some, ofB, Bool.not_true]
theorem sl_toL {xs : List D} {k : Nat} {st : Sto} (hk : k ≤ xs.length) : slD (.lst xs) .non (.int (k : Int)) st = .ok (.lst (xs.take k)) st := by
  have := sl_to (st := st) hk
  simp only [slD, partD] at this ⊢
  simp only [Res.ok.injEq, D.tup.injEq, and_true] at this
  simp only [lstOf, this]
theorem sl_fromL {xs : List D} {k : Nat} {st : Sto} (hk : k ≤ xs.length) : slD (.lst xs) (.int (k : Int)) .non st = .ok (.lst (xs.drop k)) st := by
  have := sl_from (st := st) hk
  simp only [slD, partD] at this ⊢
  simp only [Res.ok.injEq, D.tup.injEq, and_true] at this
  simp only [lstOf, this]
end RP

/-! jobs, in plain words -/
namespace RP
open PySem

inductive J where
  | step (i : Int)
  | grp (w : Bool) (xs : List J)
  | mul (w : Bool) (n : Nat) (x : J)
def gw (w : Bool) : Str := if w then "par" else "seq"
def mw (w : Bool) : Str := if w then "copies" else "repeat"
abbrev big : Int := 1000000000000000000000000000000
mutual
def enc : J → D
  | .step i => .int i
  | .grp w xs => .tup [.str (gw w), .tup (encs xs)]
  | .mul w n x => .tup [.str (mw w), .int n, enc x]
def encs : List J → List D
  | [] => []
  | x :: xs => enc x :: encs xs
end
theorem encs_map : ∀ xs : List J, encs xs = xs.map enc
  | [] => rfl
  | x :: xs => by simp [encs, encs_map xs]
theorem encs_len (xs : List J) : (encs xs).length = xs.length := by simp [encs_map]
theorem gw_ok (w : Bool) : PyData.strOk (gw w) = true := by cases w <;> decide +kernel
theorem mw_ok (w : Bool) : PyData.strOk (mw w) = true := by cases w <;> decide +kernel
mutual
theorem enc_pur : ∀ j : J, pur (enc j) = true
  | .step i => rfl
  | .grp w xs => by simp only [enc, pur, purs, gw_ok, encs_pur xs, Bool.and_self]
  | .mul w n x => by simp only [enc, pur, purs, mw_ok, enc_pur x, Bool.and_self]
theorem encs_pur : ∀ j : List J, purs (encs j) = true
  | [] => rfl
  | x :: xs => by simp only [encs, purs, enc_pur x, encs_pur xs, Bool.and_self]
end
theorem enc_top (j : J) : (enc j).top = 0 := pur_top _ (enc_pur j)
theorem encs_top (j : List J) : tops (encs j) = 0 := purs_top _ (encs_pur j)
mutual
def dep : J → Nat
  | .step _ => 1
  | .grp _ xs => 1 + deps xs
  | .mul _ _ x => 1 + dep x
def deps : List J → Nat
  | [] => 0
  | x :: xs => max (dep x) (deps xs)
end
mutual
def nodes : J → Nat
  | .step _ => 1
  | .grp _ xs => 1 + nodess xs
  | .mul _ _ x => 1 + nodes x
def nodess : List J → Nat
  | [] => 0
  | x :: xs => nodes x + nodess xs
end
mutual
def steps : J → Nat
  | .step _ => 1
  | .grp _ xs => stepss xs
  | .mul _ n x => n * steps x
def stepss : List J → Nat
  | [] => 0
  | x :: xs => steps x + stepss xs
end
mutual
def net : J → Int
  | .step i => i
  | .grp _ xs => nets xs
  | .mul _ n x => n * net x
def nets : List J → Int
  | [] => 0
  | x :: xs => net x + nets xs
end
mutual
def low : J → Int
  | .step i => min 0 i
  | .grp true xs => lowsP xs
  | .grp false xs => lowsS xs
  | .mul true n x => n * low x
  | .mul false n x => if n = 0 then 0 else low x + min 0 ((n - 1 : Int) * net x)
def lowsP : List J → Int
  | [] => 0
  | x :: xs => low x + lowsP xs
def lowsS : List J → Int
  | [] => 0
  | x :: xs => min (low x) (net x + lowsS xs)
end
mutual
/-- within the limits -/
def Sm : J → Prop
  | .step i => 0 - big ≤ i ∧ i ≤ big
  | .grp w xs => xs.length ≤ 400 ∧ nodes (.grp w xs) ≤ 400 ∧ (steps (.grp w xs) : Int) ≤ big ∧ Sms xs
  | .mul w n x => (n : Int) ≤ big ∧ nodes (.mul w n x) ≤ 400 ∧ (steps (.mul w n x) : Int) ≤ big ∧ Sm x
def Sms : List J → Prop
  | [] => True
  | x :: xs => Sm x ∧ Sms xs
end
theorem Sms_mem : ∀ {xs : List J}, Sms xs → ∀ x ∈ xs, Sm x
  | _ :: _, h, x, hx => by
    rcases List.mem_cons.mp hx with rfl | hx
    · exact h.1
    · exact Sms_mem h.2 x hx
mutual
theorem low_le : ∀ j : J, low j ≤ 0 ∧ low j ≤ net j
  | .step i => by simp only [low, net]; omega
  | .grp true xs => by simp only [low, net]; exact lowsP_le xs
  | .grp false xs => by simp only [low, net]; exact lowsS_le xs
  | .mul true n x => by
    simp only [low, net]
    obtain ⟨h1, h2⟩ := low_le x
    have a := Int.mul_le_mul_of_nonneg_left h1 (Int.natCast_nonneg n)
    have b := Int.mul_le_mul_of_nonneg_left h2 (Int.natCast_nonneg n)
    rw [Int.mul_zero] at a
    exact ⟨a, b⟩
  | .mul false n x => by
    simp only [low, net]
    obtain ⟨h1, h2⟩ := low_le x
    split
    · rename_i h; subst h; simp
    · rename_i h
      have e : ((n : Int) - 1) * net x = n * net x - net x := by rw [Int.sub_mul, Int.one_mul]
      rw [e]
      generalize (n : Int) * net x = q
      omega
theorem lowsP_le : ∀ xs : List J, lowsP xs ≤ 0 ∧ lowsP xs ≤ nets xs
  | [] => by simp [lowsP, nets]
  | x :: xs => by
    simp only [lowsP, nets]
    have := low_le x
    have := lowsP_le xs
    omega
theorem lowsS_le : ∀ xs : List J, lowsS xs ≤ 0 ∧ lowsS xs ≤ nets xs
  | [] => by simp [lowsS, nets]
  | x :: xs => by
    simp only [lowsS, nets]
    have := low_le x
    have := lowsS_le xs
    omega
end
mutual
/-- sizes -/
theorem net_bd : ∀ j : J, Sm j → -(steps j * big) ≤ low j ∧ net j ≤ steps j * big
  | .step i, h => by simp only [Sm] at h; simp only [low, net, steps]; omega
  | .grp true xs, h => by simp only [low, net, steps]; exact ⟨(nets_bd xs h.2.2.2).1, (nets_bd xs h.2.2.2).2.2⟩
  | .grp false xs, h => by simp only [low, net, steps]; exact (nets_bd xs h.2.2.2).2
  | .mul true n x, h => by
    obtain ⟨h1, h2⟩ := net_bd x h.2.2.2
    simp only [low, net, steps]
    have a := Int.mul_le_mul_of_nonneg_left h1 (Int.natCast_nonneg n)
    have b := Int.mul_le_mul_of_nonneg_left h2 (Int.natCast_nonneg n)
    rw [Int.mul_neg] at a
    push_cast
    rw [Int.mul_assoc]
    exact ⟨a, b⟩
  | .mul false n x, h => by
    obtain ⟨h1, h2⟩ := net_bd x h.2.2.2
    obtain ⟨h3, h4⟩ := low_le x
    simp only [low, net, steps]
    push_cast
    rw [Int.mul_assoc]
    have b := Int.mul_le_mul_of_nonneg_left h2 (Int.natCast_nonneg n)
    refine ⟨?_, b⟩
    split
    · rename_i hn; subst hn; simp
    · rename_i hn
      have hn1 : 0 ≤ (n : Int) - 1 := by omega
      have c := Int.mul_le_mul_of_nonneg_left (show -(steps x * big) ≤ net x by omega) hn1
      have e1 : ((n : Int) - 1) * -(steps x * big) = -(n * (steps x * big)) + steps x * big := by rw [Int.mul_neg, Int.sub_mul, Int.one_mul]; omega
      have z : 0 ≤ (n : Int) * (steps x * big) - steps x * big := by
        have := Int.mul_nonneg hn1 (show 0 ≤ (steps x : Int) * big from Int.mul_nonneg (Int.natCast_nonneg _) (by decide))
        rw [Int.sub_mul, Int.one_mul] at this
        exact this
      rw [e1] at c
      generalize (n : Int) * (steps x * big) = q at *
      generalize ((n : Int) - 1) * net x = r at *
      generalize (steps x : Int) * big = s at *
      omega
theorem nets_bd : ∀ xs : List J, Sms xs → -(stepss xs * big) ≤ lowsP xs ∧ -(stepss xs * big) ≤ lowsS xs ∧ nets xs ≤ stepss xs * big
  | [], _ => by simp [lowsP, lowsS, nets, stepss]
  | x :: xs, h => by
    obtain ⟨h1, h2⟩ := net_bd x h.1
    obtain ⟨h3, h4, h5⟩ := nets_bd xs h.2
    obtain ⟨h6, h7⟩ := low_le x
    simp only [lowsP, lowsS, nets, stepss]
    push_cast
    rw [Int.add_mul]
    have z : 0 ≤ (stepss xs : Int) * big := Int.mul_nonneg (Int.natCast_nonneg _) (by decide)
    generalize (steps x : Int) * big = a at *
    generalize (stepss xs : Int) * big = b at *
    omega
end
theorem Sm.steps {j : J} (h : Sm j) : (RP.steps j : Int) ≤ big := by
  cases j with
  | step i => simp only [RP.steps]; decide
  | grp w xs => exact h.2.2.1
  | mul w n x => exact h.2.2.1
theorem Sm.bits {j : J} (h : Sm j) : (net j).natAbs < 2 ^ 250 ∧ (low j).natAbs < 2 ^ 250 := by
  obtain ⟨h1, h2⟩ := net_bd j h
  obtain ⟨h3, h4⟩ := low_le j
  have m : (RP.steps j : Int) * big ≤ big * big := Int.mul_le_mul_of_nonneg_right h.steps (by decide)
  have q : big * big < 2 ^ 250 := by decide
  generalize (RP.steps j : Int) * big = a at *
  generalize big * big = b at *
  omega

/-! ### what the program measures -/
def isG (x : D) : Bool := [D.str "seq", D.str "par"].any fun y => eqF y x
def isM (x : D) : Bool := [D.str "repeat", D.str "copies"].any fun y => eqF y x
def foldM (f : D → Option (Int × Int)) : List D → Int → Int → Option (Int × Int)
  | [], n, s => some (n, s)
  | p :: ps, n, s => match f p with
    | none => none
    | some (a, b) => if n + a > 400 ∨ s + b > big then none else foldM f ps (n + a) (s + b)
def partsM (f : D → Option (Int × Int)) : D → Option (Int × Int)
  | .tup xs => if 400 < xs.length then none else foldM f xs 1 0
  | _ => none
def multM (f : D → Option (Int × Int)) (c x : D) : Option (Int × Int) :=
  match c with
  | .int i => if 0 ≤ i ∧ i ≤ big then match f x with
    | some (a, b) => if a = 400 ∨ i * b > big then none else some (1 + a, i * b)
    | none => none
    else none
  | _ => none
def measM : Nat → D → Option (Int × Int)
  | 0, _ => none
  | k + 1, .int i => if 0 - big ≤ i ∧ i ≤ big then some (1, 1) else none
  | k + 1, .tup [.str w, x] => if isG (.str w) then partsM (measM k) x else none
  | k + 1, .tup [.str w, c, x] => if isM (.str w) then multM (measM k) c x else none
  | _, _ => none
def encM : Option (Int × Int) → D
  | none => .non
  | some (a, b) => .tup [.int a, .int b]
def okP (p : Int × Int) : Prop := 1 ≤ p.1 ∧ p.1 ≤ 400 ∧ 0 ≤ p.2 ∧ p.2 ≤ big
theorem isG_gw (w : Bool) : isG (.str (gw w)) = true := by cases w <;> decide +kernel
theorem isM_mw (w : Bool) : isM (.str (mw w)) = true := by cases w <;> decide +kernel
theorem isG_mw (w : Bool) : isG (.str (mw w)) = false := by cases w <;> decide +kernel
theorem isM_gw (w : Bool) : isM (.str (gw w)) = false := by cases w <;> decide +kernel
theorem isG_inv {t : Str} (h : isG (.str t) = true) : ∃ w, t = gw w := by
  simp [isG, eqF] at h
  rcases h with h | h
  · exact ⟨false, h.symm⟩
  · exact ⟨true, h.symm⟩
theorem isM_inv {t : Str} (h : isM (.str t) = true) : ∃ w, t = mw w := by
  simp [isM, eqF] at h
  rcases h with h | h
  · exact ⟨false, h.symm⟩
  · exact ⟨true, h.symm⟩
mutual
theorem nodes_pos : ∀ j : J, 1 ≤ nodes j
  | .step _ => by simp [nodes]
  | .grp _ xs => by simp [nodes]
  | .mul _ _ x => by simp [nodes]
theorem len_nodess : ∀ xs : List J, xs.length ≤ nodess xs
  | [] => by simp
  | x :: xs => by
    have := nodes_pos x
    have := len_nodess xs
    simp only [nodess, List.length_cons]; omega
end
theorem foldM_enc {k : Nat} : ∀ (xs : List J) (n s : Nat) (p : Int × Int), (∀ x ∈ xs, ∀ p, measM k (enc x) = some p ↔ dep x ≤ k ∧ Sm x ∧ p = (((nodes x : Nat) : Int), ((steps x : Nat) : Int))) → n ≤ 400 → (s : Int) ≤ big →
    (foldM (measM k) (encs xs) n s = some p ↔ deps xs ≤ k ∧ Sms xs ∧ n + nodess xs ≤ 400 ∧ ((s + stepss xs : Nat) : Int) ≤ big ∧ p = (((n + nodess xs : Nat) : Int), ((s + stepss xs : Nat) : Int)))
  | [], n, s, p, _, h1, h2 => by
    simp only [foldM, encs, deps, Sms, nodess, stepss, Nat.add_zero, Option.some.injEq]
    exact ⟨fun h => ⟨Nat.zero_le _, trivial, h1, h2, h.symm⟩, fun h => h.2.2.2.2.symm⟩
  | x :: xs, n, s, p, h, h1, h2 => by
    simp only [encs, foldM, deps, Sms, nodess, stepss]
    have hx := h x List.mem_cons_self
    cases q : measM k (enc x) with
    | none =>
      simp only [reduceCtorEq, false_iff]
      rintro ⟨c1, c2, _⟩
      have := (hx (((nodes x : Nat) : Int), ((steps x : Nat) : Int))).mpr ⟨(Nat.max_le.mp c1).1, c2.1, rfl⟩
      rw [q] at this; cases this
    | some r =>
      obtain ⟨d1, d2, rfl⟩ := (hx r).mp q
      simp only
      by_cases d : (n : Int) + nodes x > 400 ∨ (s : Int) + steps x > big
      · rw [if_pos d]
        simp only [reduceCtorEq, false_iff]
        rintro ⟨_, _, q1, q2, _⟩
        push_cast at q2
        omega
      · rw [if_neg d]
        have ih := foldM_enc xs (n + nodes x) (s + steps x) p (fun y hy => h y (List.mem_cons_of_mem _ hy)) (by omega) (by push_cast; omega)
        have e1 : n + nodes x + nodess xs = n + (nodes x + nodess xs) := by omega
        have e2 : s + steps x + stepss xs = s + (steps x + stepss xs) := by omega
        rw [e1, e2] at ih
        push_cast at ih ⊢
        rw [ih]
        exact ⟨fun ⟨a, b, c⟩ => ⟨Nat.max_le.mpr ⟨d1, a⟩, ⟨d2, b⟩, c⟩, fun ⟨a, b, c⟩ => ⟨(Nat.max_le.mp a).2, b.2, c⟩⟩
mutual
theorem measM_enc : ∀ (k : Nat) (j : J) (p : Int × Int), measM k (enc j) = some p ↔ dep j ≤ k ∧ Sm j ∧ p = (((nodes j : Nat) : Int), ((steps j : Nat) : Int))
  | 0, j, p => by
    have e : measM 0 (enc j) = none := rfl
    rw [e]
    simp only [reduceCtorEq, false_iff]
    rintro ⟨h, _⟩
    cases j <;> simp [dep] at h
  | k + 1, .step i, p => by
    simp only [enc, measM, dep, Sm, nodes, steps]
    by_cases c : 0 - big ≤ i ∧ i ≤ big
    · rw [if_pos c]
      exact ⟨fun h => ⟨by omega, c, (Option.some.inj h).symm⟩, fun h => by rw [h.2.2]; rfl⟩
    · rw [if_neg c]
      exact ⟨fun h => (nomatch h), fun h => absurd h.2.1 c⟩
  | k + 1, .grp w xs, p => by
    simp only [enc, measM, isG_gw, if_true, partsM, encs_len, dep, Sm, nodes, steps]
    have f := foldM_enc (k := k) xs 1 0 p (fun x hx => measMs_enc k xs x hx) (by decide) (by decide)
    simp only [Nat.zero_add] at f
    by_cases l : 400 < xs.length
    · rw [if_pos l]
      exact ⟨fun h => (nomatch h), fun h => by have := h.2.1.1; omega⟩
    · rw [if_neg l]
      have f' : foldM (measM k) (encs xs) 1 0 = some p ↔ _ := f
      rw [f']
      exact ⟨fun ⟨a, b, c, d, e⟩ => ⟨by omega, ⟨by omega, c, d, b⟩, e⟩, fun ⟨a, ⟨_, c, d, b⟩, e⟩ => ⟨by omega, b, c, d, e⟩⟩
  | k + 1, .mul w n x, p => by
    simp only [enc, measM, isM_mw, if_true, multM, dep, Sm, nodes, steps]
    have ih := measM_enc k x
    by_cases h : (n : Int) ≤ big
    · rw [if_pos ⟨Int.natCast_nonneg n, h⟩]
      cases q : measM k (enc x) with
      | none =>
        simp only [reduceCtorEq, false_iff]
        rintro ⟨c1, ⟨_, _, _, c2⟩, _⟩
        have := (ih (((nodes x : Nat) : Int), ((steps x : Nat) : Int))).mpr ⟨by omega, c2, rfl⟩
        rw [q] at this; cases this
      | some r =>
        obtain ⟨d1, d2, rfl⟩ := (ih r).mp q
        simp only
        have np := nodes_pos x
        have n4 : nodes x ≤ 400 := by
          cases x with
          | step i => simp [nodes]
          | grp w xs => exact d2.2.1
          | mul w n x => exact d2.2.1
        by_cases d : ((nodes x : Nat) : Int) = 400 ∨ (n : Int) * steps x > big
        · rw [if_pos d]
          simp only [reduceCtorEq, false_iff]
          rintro ⟨_, ⟨_, q1, q2, _⟩, _⟩
          push_cast at q2
          omega
        · rw [if_neg d]
          push_cast
          exact ⟨fun e => ⟨by omega, ⟨h, by omega, by omega, d2⟩, (Option.some.inj e).symm⟩, fun e => by rw [e.2.2]⟩
    · rw [if_neg (fun z => h z.2)]
      exact ⟨fun h => (nomatch h), fun z => absurd z.2.1.1 h⟩
theorem measMs_enc : ∀ (k : Nat) (xs : List J), ∀ x ∈ xs, ∀ p, measM k (enc x) = some p ↔ dep x ≤ k ∧ Sm x ∧ p = (((nodes x : Nat) : Int), ((steps x : Nat) : Int))
  | k, y :: ys, x, hx => by
    rcases List.mem_cons.mp hx with h | h
    · rw [h]; exact measM_enc k y
    · exact measMs_enc k ys x h
end
theorem measM_some {k : Nat} {j : J} (h1 : dep j ≤ k) (h2 : Sm j) : measM k (enc j) = some (((nodes j : Nat) : Int), ((steps j : Nat) : Int)) := (measM_enc k j _).mpr ⟨h1, h2, rfl⟩
theorem foldM_ok {f : D → Option (Int × Int)} (hf : ∀ d p, f d = some p → okP p) : ∀ (xs : List D) (n s : Int) (p : Int × Int), 1 ≤ n → n ≤ 400 → 0 ≤ s → s ≤ big → foldM f xs n s = some p → okP p
  | [], n, s, p, h1, h2, h3, h4, e => by cases e; exact ⟨h1, h2, h3, h4⟩
  | x :: xs, n, s, p, h1, h2, h3, h4, e => by
    simp only [foldM] at e
    cases q : f x with
    | none => rw [q] at e; cases e
    | some r =>
      obtain ⟨a, b⟩ := r
      obtain ⟨k1, k2, k3, k4⟩ := hf x _ q
      rw [q] at e
      simp only at e
      split at e
      · cases e
      · rename_i c
        exact foldM_ok hf xs (n + a) (s + b) p (by simp at k1; omega) (by omega) (by simp at k3; omega) (by omega) e
theorem measM_ok : ∀ (k : Nat) (d : D) (p : Int × Int), measM k d = some p → okP p
  | 0, d, p, e => by simp [measM] at e
  | k + 1, d, p, e => by
    unfold measM at e
    split at e
    · cases e
    · split at e
      · cases e; exact ⟨by decide, by decide, by decide, by decide⟩
      · cases e
    · split at e
      · unfold partsM at e
        split at e
        · split at e
          · cases e
          · exact foldM_ok (measM_ok _) _ 1 0 p (by decide) (by decide) (by decide) (by decide) e
        · cases e
      · cases e
    · split at e
      · unfold multM at e
        split at e
        · split at e
          · rename_i hi
            split at e
            · rename_i a b q
              obtain ⟨k1, k2, k3, k4⟩ := measM_ok _ _ _ q
              split at e
              · cases e
              · rename_i c
                cases e
                simp only at k1 k2 k3 k4
                refine ⟨by simp only; omega, by simp only; omega, ?_, by simp only; omega⟩
                exact Int.mul_nonneg hi.1 k3
            · cases e
          · cases e
        · cases e
      · cases e
    · cases e
theorem small9 {i : Int} (h1 : 0 ≤ i) (h2 : i ≤ big) : i.natAbs < 2 ^ 9000 := by
  have a : i.natAbs < 2 ^ 100 := by
    have : i < 2 ^ 100 := by unfold big at h2; omega
    omega
  exact Nat.lt_of_lt_of_le a (Nat.pow_le_pow_right (by decide) (by decide))
theorem lt9000 {i : Int} {k : Nat} (h : i.natAbs < 2 ^ k) (hk : k ≤ 9000) : i.natAbs < 2 ^ 9000 := Nat.lt_of_lt_of_le h (Nat.pow_le_pow_right (by decide) hk)
end RP

/-! addresses, what comes ahead, states, in plain words -/
namespace RP
def cat : Nat → List (List (List Nat)) → List (List Nat)
  | _, [] => []
  | k, A :: r => A.map (k :: ·) ++ cat (k + 1) r
mutual
def addrs : J → List (List Nat)
  | .step _ => [[]]
  | .grp _ xs => cat 0 (addrss xs)
  | .mul _ c x => cat 0 (List.replicate (if 0 < steps x then c else 0) (addrs x))
def addrss : List J → List (List (List Nat))
  | [] => []
  | x :: xs => addrs x :: addrss xs
end
theorem addrss_map : ∀ xs : List J, addrss xs = xs.map addrs
  | [] => rfl
  | x :: xs => by simp [addrss, addrss_map xs]
/-- the parts gone into -/
def parts : J → List J
  | .step _ => []
  | .grp _ xs => xs
  | .mul _ c x => List.replicate (if 0 < steps x then c else 0) x
def child : J → Nat → J
  | .step i, _ => .step i
  | .grp _ xs, i => xs.getD i (.step 0)
  | .mul _ _ x, _ => x
def ordd : J → Bool
  | .step _ => false
  | .grp w _ => !w
  | .mul w _ _ => !w
def isStep : J → Bool
  | .step _ => true
  | _ => false
def ahead : J → List Nat → List Nat → Bool
  | j, x :: a, y :: b => if x = y then ahead (child j x) a b else ordd j && decide (x < y)
  | _, _, _ => false
def nav : J → List Nat → J
  | j, [] => j
  | j, x :: a => nav (child j x) a
def val (j : J) (a : List Nat) : Int := match nav j a with
  | .step v => v
  | _ => 0
theorem addrs_node {j : J} (h : isStep j = false) : addrs j = cat 0 ((parts j).map addrs) := by
  cases j with
  | step i => cases h
  | grp w xs => simp only [addrs, parts, addrss_map]
  | mul w c x => simp only [addrs, parts, List.map_replicate]
theorem child_parts {j : J} {i : Nat} {x : J} (h : (parts j)[i]? = some x) : child j i = x := by
  cases j with
  | step i => simp [parts] at h
  | grp w xs => simp only [parts] at h; simp [child, List.getD, h]
  | mul w c y =>
    exact (List.eq_of_mem_replicate (List.mem_of_getElem? h)).symm
/-! the order of addresses -/
def ltL : List Nat → List Nat → Bool
  | [], [] => false
  | [], _ :: _ => true
  | _ :: _, [] => false
  | x :: a, y :: b => if x = y then ltL a b else decide (x < y)
theorem ltL_irr : ∀ a : List Nat, ltL a a = false
  | [] => rfl
  | x :: a => by simp only [ltL, if_true]; exact ltL_irr a
theorem ltL_asym : ∀ {a b : List Nat}, ltL a b = true → ltL b a = true → False
  | [], [], h, _ => by cases h
  | [], _ :: _, _, h => by cases h
  | _ :: _, [], h, _ => by cases h
  | x :: a, y :: b, h, k => by
    simp only [ltL] at h k
    by_cases e : x = y
    · rw [if_pos e] at h; rw [if_pos e.symm] at k; exact ltL_asym h k
    · rw [if_neg e] at h; rw [if_neg (Ne.symm e)] at k
      simp only [decide_eq_true_eq] at h k; omega
theorem ahead_lt : ∀ {a b : List Nat} {j : J}, ahead j a b = true → ltL a b = true
  | x :: a, y :: b, j, h => by
    simp only [ahead] at h
    simp only [ltL]
    by_cases e : x = y
    · rw [if_pos e] at h ⊢; exact ahead_lt h
    · rw [if_neg e] at h ⊢
      simp only [Bool.and_eq_true] at h; exact h.2
  | [], _, _, h => by simp [ahead] at h
  | _ :: _, [], _, h => by simp [ahead] at h
theorem cat_ge : ∀ {As : List (List (List Nat))} {k : Nat} {a : List Nat}, a ∈ cat k As → ∃ i A r, k ≤ i ∧ As[i - k]? = some A ∧ r ∈ A ∧ a = i :: r
  | A :: As, k, a, h => by
    rcases List.mem_append.mp h with h | h
    · obtain ⟨r, hr, rfl⟩ := List.mem_map.mp h
      exact ⟨k, A, r, Nat.le_refl _, by simp, hr, rfl⟩
    · obtain ⟨i, B, r, h1, h2, h3, h4⟩ := cat_ge h
      refine ⟨i, B, r, by omega, ?_, h3, h4⟩
      rw [show i - k = (i - (k + 1)) + 1 by omega, List.getElem?_cons_succ]; exact h2
  | [], _, _, h => nomatch h
theorem cat_sorted : ∀ {As : List (List (List Nat))} {k : Nat}, (∀ A ∈ As, A.Pairwise fun a b => ltL a b = true) → (cat k As).Pairwise fun a b => ltL a b = true
  | [], _, _ => List.Pairwise.nil
  | A :: As, k, h => by
    refine List.pairwise_append.mpr ⟨?_, cat_sorted fun B hB => h B (List.mem_cons_of_mem _ hB), fun a ha b hb => ?_⟩
    · rw [List.pairwise_map]
      exact List.Pairwise.imp (fun {a b} q => by simp only [ltL, if_true]; exact q) (h A List.mem_cons_self)
    · obtain ⟨r, _, rfl⟩ := List.mem_map.mp ha
      obtain ⟨i, B, s, h1, _, _, rfl⟩ := cat_ge hb
      simp only [ltL]
      rw [if_neg (by omega)]
      exact decide_eq_true (by omega)
mutual
theorem addrs_sorted : ∀ j : J, (addrs j).Pairwise fun a b => ltL a b = true
  | .step _ => List.pairwise_singleton _ _
  | .grp _ xs => by simp only [addrs]; exact cat_sorted (addrss_sorted xs)
  | .mul _ c x => by
    simp only [addrs]
    refine cat_sorted fun A hA => ?_
    rw [List.eq_of_mem_replicate hA]
    exact addrs_sorted x
theorem addrss_sorted : ∀ xs : List J, ∀ A ∈ addrss xs, A.Pairwise fun a b => ltL a b = true
  | [], A, h => nomatch h
  | x :: xs, A, h => by
    simp only [addrss] at h
    rcases List.mem_cons.mp h with rfl | h
    · exact addrs_sorted x
    · exact addrss_sorted xs A h
end
theorem sorted_nodup {l : List (List Nat)} (h : l.Pairwise fun a b => ltL a b = true) : l.Nodup := List.Pairwise.imp (fun {a b} q e => by subst e; rw [ltL_irr] at q; cases q) h
theorem sub_full {α : Type} : ∀ {s l : List α}, s.Sublist l → l.Nodup → (∀ x ∈ l, x ∈ s) → s = l
  | _, _, .slnil, _, _ => rfl
  | s, a :: l, .cons _ h, hn, hs => by
    have := h.subset (hs a List.mem_cons_self)
    exact absurd this (List.nodup_cons.mp hn).1
  | a :: s, _ :: l, .cons₂ _ h, hn, hs => by
    have hn' := List.nodup_cons.mp hn
    rw [sub_full h hn'.2 fun x hx => ?_]
    rcases List.mem_cons.mp (hs x (List.mem_cons_of_mem _ hx)) with rfl | h
    · exact absurd hx hn'.1
    · exact h
/-- the usage of a set of addresses -/
def useOf (j : J) (s : List (List Nat)) : Int := (s.map (val j)).sum
structure Cl (j : J) (s : List (List Nat)) : Prop where
  sub : s.Sublist (addrs j)
  cl : ∀ a ∈ s, ∀ b ∈ addrs j, ahead j b a = true → b ∈ s
/-! lists of parts -/
def aheadL (o : Bool) (f : Nat → J) : List Nat → List Nat → Bool
  | x :: a, y :: b => if x = y then ahead (f x) a b else o && decide (x < y)
  | _, _ => false
def valL (f : Nat → J) : List Nat → Int
  | x :: a => val (f x) a
  | [] => 0
structure ClL (o : Bool) (f : Nat → J) (k : Nat) (Ls : List J) (s : List (List Nat)) : Prop where
  sub : s.Sublist (cat k (Ls.map addrs))
  cl : ∀ a ∈ s, ∀ b ∈ cat k (Ls.map addrs), aheadL o f b a = true → b ∈ s
def lowL (o : Bool) (Ls : List J) : Int := if o then lowsS Ls else lowsP Ls
theorem vals_map {f : Nat → J} {k : Nat} {x : J} (hf : f k = x) (s : List (List Nat)) : ((s.map (k :: ·)).map (valL f)).sum = useOf x s := by
  simp only [useOf, List.map_map]
  congr 1
  refine List.map_congr_left fun a _ => ?_
  simp [valL, hf]
theorem part_mem {k : Nat} {s0 s1 : List (List Nat)} {Ls : List J} {b : List Nat} (hs1 : s1.Sublist (cat (k + 1) (Ls.map addrs))) (h : k :: b ∈ s0.map (k :: ·) ++ s1) : b ∈ s0 := by
  rcases List.mem_append.mp h with h | h
  · obtain ⟨c, hc, e⟩ := List.mem_map.mp h
    cases e; exact hc
  · obtain ⟨i, A, r, h1, _, _, e⟩ := cat_ge (hs1.subset h)
    cases e; omega
theorem low_ge_list {o : Bool} {f : Nat → J} : ∀ {Ls : List J} {k : Nat} {s : List (List Nat)}, (∀ x ∈ Ls, ∀ s, Cl x s → low x ≤ useOf x s) → (∀ x ∈ Ls, useOf x (addrs x) = net x) → (∀ i x, Ls[i]? = some x → f (k + i) = x) → ClL o f k Ls s → lowL o Ls ≤ (s.map (valL f)).sum
  | [], k, s, _, _, _, h => by
    have : s = [] := List.sublist_nil.mp h.sub
    subst this
    cases o <;> simp [lowL, lowsS, lowsP]
  | x :: Ls, k, s, hl, hn, hf, h => by
    have e0 : f k = x := hf 0 x rfl
    have hsub := h.sub
    simp only [List.map_cons, cat] at hsub
    obtain ⟨t0, s1, rfl, ht0, hs1⟩ := List.sublist_append_iff.mp hsub
    obtain ⟨s0, hs0, rfl⟩ := List.sublist_map_iff.mp ht0
    have mem0 : ∀ b ∈ addrs x, k :: b ∈ cat k ((x :: Ls).map addrs) := fun b hb => by
      simp only [List.map_cons, cat]
      exact List.mem_append_left _ (List.mem_map.mpr ⟨b, hb, rfl⟩)
    have mem1 : ∀ b ∈ cat (k + 1) (Ls.map addrs), b ∈ cat k ((x :: Ls).map addrs) := fun b hb => by
      simp only [List.map_cons, cat]
      exact List.mem_append_right _ hb
    have c0 : Cl x s0 := ⟨hs0, fun a ha b hb hab => by
      refine part_mem hs1 (h.cl (k :: a) (List.mem_append_left _ (List.mem_map.mpr ⟨a, ha, rfl⟩)) (k :: b) (mem0 b hb) ?_)
      simp only [aheadL, if_true, e0]; exact hab⟩
    have c1 : ClL o f (k + 1) Ls s1 := ⟨hs1, fun a ha b hb hab => by
      rcases List.mem_append.mp (h.cl a (List.mem_append_right _ ha) b (mem1 b hb) hab) with q | q
      · obtain ⟨c, _, rfl⟩ := List.mem_map.mp q
        obtain ⟨i, A, r, h1, _, _, e⟩ := cat_ge hb
        cases e; omega
      · exact q⟩
    have ih := low_ge_list (fun y hy => hl y (List.mem_cons_of_mem _ hy)) (fun y hy => hn y (List.mem_cons_of_mem _ hy)) (fun i y hi => by
      have := hf (i + 1) y (by simpa using hi)
      rw [show k + 1 + i = k + (i + 1) by omega]; exact this) c1
    rw [List.map_append, List.sum_append, vals_map e0]
    have l0 := hl x List.mem_cons_self s0 c0
    cases o with
    | false => simp only [lowL, lowsP, Bool.false_eq_true, if_false] at ih ⊢; omega
    | true =>
      simp only [lowL, if_true, lowsS] at ih ⊢
      by_cases e1 : s1 = []
      · subst e1
        simp only [List.map_nil, List.sum_nil]; omega
      · obtain ⟨a, ha⟩ := List.exists_mem_of_ne_nil s1 e1
        obtain ⟨i, A, r, h1, _, _, rfl⟩ := cat_ge (hs1.subset ha)
        have full : s0 = addrs x := sub_full hs0 (sorted_nodup (addrs_sorted x)) fun b hb => by
          refine part_mem hs1 (h.cl (i :: r) (List.mem_append_right _ ha) (k :: b) (mem0 b hb) ?_)
          simp only [aheadL]
          rw [if_neg (by omega)]
          simp; omega
        rw [full, hn x List.mem_cons_self]
        omega
theorem low_at_list {o : Bool} {f : Nat → J} : ∀ {Ls : List J} {k : Nat}, (∀ x ∈ Ls, ∃ s, Cl x s ∧ useOf x s = low x) → (∀ x ∈ Ls, useOf x (addrs x) = net x) → (∀ i x, Ls[i]? = some x → f (k + i) = x) →
    ∃ s, ClL o f k Ls s ∧ (s.map (valL f)).sum = lowL o Ls
  | [], k, _, _, _ => ⟨[], ⟨List.Sublist.refl _, fun a h => nomatch h⟩, by cases o <;> simp [lowL, lowsS, lowsP]⟩
  | x :: Ls, k, hl, hn, hf => by
    have e0 : f k = x := hf 0 x rfl
    obtain ⟨s1, c1, u1⟩ := low_at_list (o := o) (f := f) (Ls := Ls) (k := k + 1) (fun y hy => hl y (List.mem_cons_of_mem _ hy)) (fun y hy => hn y (List.mem_cons_of_mem _ hy)) (fun i y hi => by
      have := hf (i + 1) y (by simpa using hi)
      rw [show k + 1 + i = k + (i + 1) by omega]; exact this)
    obtain ⟨s0, c0, u0⟩ := hl x List.mem_cons_self
    -- what is closed, put together
    have mk : ∀ t0 t1 : List (List Nat), Cl x t0 → ClL o f (k + 1) Ls t1 → (o = true → t1 ≠ [] → ∀ b ∈ addrs x, b ∈ t0) → ClL o f k (x :: Ls) (t0.map (k :: ·) ++ t1) := fun t0 t1 d0 d1 hfull => by
      refine ⟨?_, fun a ha b hb hab => ?_⟩
      · simp only [List.map_cons, cat]
        exact (d0.sub.map _).append d1.sub
      · simp only [List.map_cons, cat] at hb
        rcases List.mem_append.mp ha with ha | ha
        · obtain ⟨a0, ha0, rfl⟩ := List.mem_map.mp ha
          rcases List.mem_append.mp hb with hb | hb
          · obtain ⟨b0, hb0, rfl⟩ := List.mem_map.mp hb
            simp only [aheadL, if_true, e0] at hab
            exact List.mem_append_left _ (List.mem_map.mpr ⟨b0, d0.cl a0 ha0 b0 hb0 hab, rfl⟩)
          · obtain ⟨i, A, r, h1, _, _, rfl⟩ := cat_ge hb
            simp only [aheadL] at hab
            rw [if_neg (by omega)] at hab
            simp at hab; omega
        · rcases List.mem_append.mp hb with hb | hb
          · obtain ⟨b0, hb0, rfl⟩ := List.mem_map.mp hb
            obtain ⟨i, A, r, h1, _, _, rfl⟩ := cat_ge (d1.sub.subset ha)
            simp only [aheadL] at hab
            rw [if_neg (by omega)] at hab
            simp only [Bool.and_eq_true] at hab
            have ne : t1 ≠ [] := by intro z; rw [z] at ha; cases ha
            exact List.mem_append_left _ (List.mem_map.mpr ⟨b0, hfull hab.1 ne b0 hb0, rfl⟩)
          · exact List.mem_append_right _ (d1.cl a ha b hb hab)
    cases o with
    | false =>
      refine ⟨_, mk s0 s1 c0 c1 (fun z => by cases z), ?_⟩
      rw [List.map_append, List.sum_append, vals_map e0, u0, u1]
      rfl
    | true =>
      by_cases h : low x ≤ net x + lowsS Ls
      · refine ⟨_, mk s0 [] c0 ⟨List.nil_sublist _, fun a h => nomatch h⟩ (fun _ z => absurd rfl z), ?_⟩
        rw [List.append_nil, vals_map e0, u0]
        simp only [lowL, if_true, lowsS]; omega
      · refine ⟨_, mk (addrs x) s1 ⟨List.Sublist.refl _, fun a _ b hb _ => hb⟩ c1 (fun _ _ b hb => hb), ?_⟩
        rw [List.map_append, List.sum_append, vals_map e0, u1, hn x List.mem_cons_self]
        simp only [lowL, if_true, lowsS]; omega
theorem use_full_list {f : Nat → J} : ∀ {Ls : List J} {k : Nat}, (∀ x ∈ Ls, useOf x (addrs x) = net x) → (∀ i x, Ls[i]? = some x → f (k + i) = x) → ((cat k (Ls.map addrs)).map (valL f)).sum = nets Ls
  | [], k, _, _ => rfl
  | x :: Ls, k, hn, hf => by
    have e0 : f k = x := hf 0 x rfl
    simp only [List.map_cons, cat, List.map_append, List.sum_append, vals_map e0, hn x List.mem_cons_self, nets]
    rw [use_full_list (fun y hy => hn y (List.mem_cons_of_mem _ hy)) (fun i y hi => by
      have := hf (i + 1) y (by simpa using hi)
      rw [show k + 1 + i = k + (i + 1) by omega]; exact this)]
/-! a node by its parts -/
theorem ahead_node {j : J} {a b : List Nat} : ahead j a b = aheadL (ordd j) (child j) a b := by
  cases a <;> cases b <;> simp [ahead, aheadL]
theorem val_node {j : J} {x : Nat} {a : List Nat} : val j (x :: a) = valL (child j) (x :: a) := rfl
theorem use_node {j : J} (h : isStep j = false) {s : List (List Nat)} (hs : s.Sublist (addrs j)) : useOf j s = (s.map (valL (child j))).sum := by
  unfold useOf
  congr 1
  refine List.map_congr_left fun a ha => ?_
  have := hs.subset ha
  rw [addrs_node h] at this
  obtain ⟨i, A, r, _, _, _, rfl⟩ := cat_ge this
  rfl
theorem cl_node {j : J} (h : isStep j = false) {s : List (List Nat)} : Cl j s ↔ ClL (ordd j) (child j) 0 (parts j) s := by
  constructor
  · rintro ⟨h1, h2⟩
    rw [addrs_node h] at h1 h2
    exact ⟨h1, fun a ha b hb hab => h2 a ha b hb (by rw [ahead_node]; exact hab)⟩
  · rintro ⟨h1, h2⟩
    refine ⟨by rw [addrs_node h]; exact h1, fun a ha b hb hab => ?_⟩
    rw [addrs_node h] at hb
    exact h2 a ha b hb (by rw [← ahead_node]; exact hab)
/-! jobs without steps -/
mutual
theorem none0 : ∀ j : J, steps j = 0 → net j = 0 ∧ low j = 0
  | .step _, h => by simp [steps] at h
  | .grp w xs, h => by
    simp only [steps] at h
    have := nones0 xs h
    cases w <;> simp only [net, low] <;> omega
  | .mul w c x, h => by
    simp only [steps] at h
    rcases Nat.mul_eq_zero.mp h with rfl | h
    · cases w <;> simp [net, low]
    · obtain ⟨a, b⟩ := none0 x h
      cases w <;> simp [net, low, a, b]
theorem nones0 : ∀ xs : List J, stepss xs = 0 → nets xs = 0 ∧ lowsP xs = 0 ∧ lowsS xs = 0
  | [], _ => by simp [nets, lowsP, lowsS]
  | x :: xs, h => by
    simp only [stepss] at h
    obtain ⟨a, b⟩ := none0 x (by omega)
    obtain ⟨c, d, e⟩ := nones0 xs (by omega)
    simp only [nets, lowsP, lowsS, a, b, c, d, e]; omega
end
theorem nets_rep (x : J) : ∀ n : Nat, nets (List.replicate n x) = n * net x
  | 0 => by simp [nets]
  | n + 1 => by simp only [List.replicate_succ, nets, nets_rep x n, Int.natCast_succ, Int.add_mul, Int.one_mul]; omega
theorem lowsP_rep (x : J) : ∀ n : Nat, lowsP (List.replicate n x) = n * low x
  | 0 => by simp [lowsP]
  | n + 1 => by simp only [List.replicate_succ, lowsP, lowsP_rep x n, Int.natCast_succ, Int.add_mul, Int.one_mul]; omega
theorem lowsS_rep (x : J) : ∀ n : Nat, lowsS (List.replicate (n + 1) x) = low x + min 0 ((n : Int) * net x)
  | 0 => by
    have := (low_le x).2
    have := (low_le x).1
    simp only [List.replicate_succ, List.replicate_zero, lowsS]
    simp
    omega
  | n + 1 => by
    rw [List.replicate_succ]
    simp only [lowsS]
    rw [lowsS_rep x n]
    have e : ((n + 1 : Nat) : Int) * net x = n * net x + net x := by rw [Int.natCast_succ, Int.add_mul, Int.one_mul]
    rw [e]
    by_cases h : 0 ≤ net x
    · have : 0 ≤ (n : Int) * net x := Int.mul_nonneg (by omega) h
      omega
    · have : (n : Int) * net x ≤ 0 := Int.mul_nonpos_of_nonneg_of_nonpos (by omega) (by omega)
      omega
theorem low_node {j : J} (h : isStep j = false) : low j = lowL (ordd j) (parts j) ∧ net j = nets (parts j) := by
  cases j with
  | step i => cases h
  | grp w xs => cases w <;> exact ⟨rfl, rfl⟩
  | mul w c x =>
    simp only [parts, ordd, net]
    by_cases hs : 0 < steps x
    · rw [if_pos hs, nets_rep]
      refine ⟨?_, rfl⟩
      cases w with
      | true => simp only [lowL, low, Bool.not_true, Bool.false_eq_true, if_false, lowsP_rep]
      | false =>
        simp only [lowL, low, Bool.not_false, if_true]
        cases c with
        | zero => simp [lowsS]
        | succ c =>
          rw [lowsS_rep, if_neg (by omega)]
          have : ((c + 1 : Nat) : Int) - 1 = (c : Int) := by omega
          rw [this]
    · rw [if_neg hs]
      obtain ⟨a, b⟩ := none0 x (by omega)
      cases w <;> simp [lowL, low, a, b, lowsP, lowsS, nets]
theorem parts_dep {j x : J} (h : x ∈ parts j) : dep x < dep j := by
  cases j with
  | step i => cases h
  | grp w xs =>
    have : ∀ {xs : List J} {x : J}, x ∈ xs → dep x ≤ deps xs := fun {xs} => by
      induction xs with
      | nil => intro x h; cases h
      | cons y ys ih =>
        intro x h
        simp only [deps]
        rcases List.mem_cons.mp h with rfl | h
        · omega
        · have := ih h; omega
    have := this (show x ∈ xs from h)
    simp only [dep]; omega
  | mul w c y =>
    rw [List.eq_of_mem_replicate h]
    simp only [dep]; omega
theorem all_three : ∀ (k : Nat) (j : J), dep j ≤ k → (∀ s, Cl j s → low j ≤ useOf j s) ∧ (∃ s, Cl j s ∧ useOf j s = low j) ∧ useOf j (addrs j) = net j := by
  intro k
  induction k with
  | zero => intro j h; cases j <;> simp [dep] at h
  | succ k ih =>
    intro j h
    cases hs : isStep j with
    | true =>
      cases j with
      | step i =>
        have v : val (.step i) [] = i := rfl
        refine ⟨fun s c => ?_, ?_, ?_⟩
        · rcases List.sublist_cons_iff.mp c.sub with h | ⟨r, rfl, h⟩
          · rw [List.sublist_nil.mp h]; simp [useOf, low]; omega
          · rw [List.sublist_nil.mp h]; simp [useOf, low, v]; omega
        · by_cases hi : 0 ≤ i
          · exact ⟨[], ⟨List.nil_sublist _, fun a h => nomatch h⟩, by simp [useOf, low]; omega⟩
          · exact ⟨[[]], ⟨List.Sublist.refl _, fun a _ b hb _ => hb⟩, by simp [useOf, low, v]; omega⟩
        · simp [useOf, addrs, v, net]
      | grp w xs => cases hs
      | mul w c x => cases hs
    | false =>
      have hp : ∀ x ∈ parts j, dep x ≤ k := fun x hx => by have := parts_dep hx; omega
      have hf : ∀ i x, (parts j)[i]? = some x → child j (0 + i) = x := fun i x hi => by rw [Nat.zero_add]; exact child_parts hi
      have hn : ∀ x ∈ parts j, useOf x (addrs x) = net x := fun x hx => (ih x (hp x hx)).2.2
      obtain ⟨l1, l2⟩ := low_node hs
      refine ⟨fun s c => ?_, ?_, ?_⟩
      · rw [l1, use_node hs c.sub]
        exact low_ge_list (fun x hx => (ih x (hp x hx)).1) hn hf ((cl_node hs).mp c)
      · obtain ⟨s, c, u⟩ := low_at_list (o := ordd j) (f := child j) (fun x hx => (ih x (hp x hx)).2.1) hn hf
        have c' := (cl_node hs).mpr c
        exact ⟨s, c', by rw [use_node hs c'.sub, u, l1]⟩
      · rw [use_node hs (List.Sublist.refl _), l2, addrs_node hs]
        exact use_full_list hn hf
/-! the states, one by one -/
def stepSt (ev : List (List Nat)) (ah : List Nat → List Nat → Bool) (found : List (List (List Nat))) (one : List Nat) : List (List (List Nat)) :=
  found ++ (found.filter fun s => ((ev.filter fun o => ah o one).filter fun o => !s.contains o).isEmpty).map (· ++ [one])
def states (j : J) : List (List (List Nat)) := (addrs j).foldl (stepSt (addrs j) (ahead j)) [[]]
theorem need_iff {ev s : List (List Nat)} {ah : List Nat → List Nat → Bool} {one : List Nat} : (((ev.filter fun o => ah o one).filter fun o => !s.contains o).isEmpty) = true ↔ ∀ b ∈ ev, ah b one = true → b ∈ s := by
  rw [List.isEmpty_iff, List.filter_eq_nil_iff]
  simp only [List.mem_filter, Bool.not_eq_true', List.contains_eq_mem, Bool.not_eq_false, decide_eq_true_eq, and_imp, decide_eq_false_iff_not, Decidable.not_not]
theorem states_inv {ev : List (List Nat)} {ah : List Nat → List Nat → Bool} (hs : ev.Pairwise fun a b => ltL a b = true) (ha : ∀ a b, ah a b = true → ltL a b = true) :
    ∀ (R P : List (List Nat)) (found : List (List (List Nat))), ev = P ++ R → (∀ s, s ∈ found ↔ s.Sublist P ∧ ∀ a ∈ s, ∀ b ∈ ev, ah b a = true → b ∈ s) → found.getLast? = some P →
      (∀ s, s ∈ R.foldl (stepSt ev ah) found ↔ s.Sublist ev ∧ ∀ a ∈ s, ∀ b ∈ ev, ah b a = true → b ∈ s) ∧ (R.foldl (stepSt ev ah) found).getLast? = some ev
  | [], P, found, he, hf, hl => by
    rw [List.append_nil] at he
    subst he
    exact ⟨hf, hl⟩
  | one :: R, P, found, he, hf, hl => by
    have hs' := hs
    rw [he] at hs'
    have hsp := List.pairwise_append.mp hs'
    have before : ∀ a ∈ P, ltL a one = true := fun a h => hsp.2.2 a h one List.mem_cons_self
    have after : ∀ b ∈ R, ltL one b = true := fun b h => (List.pairwise_cons.mp hsp.2.1).1 b h
    have inP : ∀ b ∈ ev, ah b one = true → b ∈ P := fun b hb hab => by
      rw [he] at hb
      rcases List.mem_append.mp hb with hb | hb
      · exact hb
      · have l := ha _ _ hab
        rcases List.mem_cons.mp hb with rfl | hb
        · rw [ltL_irr] at l; cases l
        · exact (ltL_asym l (after b hb)).elim
    simp only [List.foldl_cons]
    refine states_inv hs ha R (P ++ [one]) _ (by rw [he]; simp) (fun s => ?_) ?_
    · unfold stepSt
      rw [List.mem_append, List.mem_map]
      constructor
      · rintro (h | ⟨t, ht, rfl⟩)
        · obtain ⟨h1, h2⟩ := (hf s).mp h
          exact ⟨h1.trans (List.sublist_append_left _ _), h2⟩
        · obtain ⟨ht1, ht2⟩ := List.mem_filter.mp ht
          have ht2 := need_iff.mp ht2
          obtain ⟨h1, h2⟩ := (hf t).mp ht1
          refine ⟨h1.append (List.Sublist.refl _), fun a ha' b hb hab => List.mem_append_left _ ?_⟩
          rcases List.mem_append.mp ha' with ha' | ha'
          · exact h2 a ha' b hb hab
          · obtain rfl : a = one := by simpa using ha'
            exact ht2 b hb hab
      · rintro ⟨h1, h2⟩
        obtain ⟨t, u, rfl, ht, hu⟩ := List.sublist_append_iff.mp h1
        rcases List.sublist_cons_iff.mp hu with hu2 | ⟨r, er, hu2⟩
        · obtain rfl := List.sublist_nil.mp hu2
          rw [List.append_nil] at h2 ⊢
          exact .inl ((hf t).mpr ⟨ht, h2⟩)
        · obtain rfl := List.sublist_nil.mp hu2
          subst er
          have nt : ∀ a ∈ t, ∀ b, ah b a = true → b ≠ one := fun a hat b hab e => by
            subst e
            exact ltL_asym (ha _ _ hab) (before a (ht.subset hat))
          have m1 : t ∈ found := (hf t).mpr ⟨ht, fun a hat b hb hab => by
            rcases List.mem_append.mp (h2 a (List.mem_append_left _ hat) b hb hab) with q | q
            · exact q
            · exact absurd (by simpa using q) (nt a hat b hab)⟩
          refine .inr ⟨t, List.mem_filter.mpr ⟨m1, need_iff.mpr fun b hb hab => ?_⟩, rfl⟩
          rcases List.mem_append.mp (h2 one (by simp) b hb hab) with q | q
          · exact q
          · have : b = one := by simpa using q
            subst this
            have := ha _ _ hab
            rw [ltL_irr] at this; cases this
    · unfold stepSt
      have full : P ∈ found.filter fun s => ((ev.filter fun o => ah o one).filter fun o => !s.contains o).isEmpty := by
        refine List.mem_filter.mpr ⟨List.mem_of_getLast? hl, need_iff.mpr inP⟩
      obtain ⟨q, hq⟩ : ∃ q, found = q ++ [P] := by
        have ne : found ≠ [] := by intro z; rw [z] at hl; cases hl
        have := List.dropLast_concat_getLast ne
        rw [List.getLast?_eq_some_getLast ne] at hl
        cases hl
        exact ⟨_, this.symm⟩
      have e : (found.filter fun s => ((ev.filter fun o => ah o one).filter fun o => !s.contains o).isEmpty) = (q.filter fun s => ((ev.filter fun o => ah o one).filter fun o => !s.contains o).isEmpty) ++ [P] := by
        rw [hq, List.filter_append]
        congr 1
        simp only [List.filter_cons, (List.mem_filter.mp full).2, if_true, List.filter_nil]
      rw [e, List.map_append]
      simp
theorem states_ok (j : J) : (∀ s, s ∈ states j ↔ Cl j s) ∧ (states j).getLast? = some (addrs j) := by
  have h := states_inv (ev := addrs j) (ah := ahead j) (addrs_sorted j) (fun a b q => ahead_lt q) (addrs j) [] [[]] rfl (fun s => by
    rw [List.mem_singleton]
    constructor
    · rintro rfl; exact ⟨List.Sublist.refl _, fun a h => nomatch h⟩
    · rintro ⟨h, _⟩; exact List.sublist_nil.mp h) rfl
  refine ⟨fun s => ?_, h.2⟩
  rw [show states j = (addrs j).foldl (stepSt (addrs j) (ahead j)) [[]] from rfl, h.1 s]
  exact ⟨fun ⟨a, b⟩ => ⟨a, b⟩, fun c => ⟨c.sub, c.cl⟩⟩
/-- the least of the usages, and the last one -/
theorem usages_ok (j : J) : (∀ u ∈ (states j).map (useOf j), low j ≤ u) ∧ low j ∈ (states j).map (useOf j) ∧ ((states j).map (useOf j)).getLast? = some (net j) := by
  obtain ⟨h1, h2⟩ := states_ok j
  obtain ⟨a, ⟨s, c, u⟩, n⟩ := all_three (dep j) j (Nat.le_refl _)
  refine ⟨fun v hv => ?_, List.mem_map.mpr ⟨s, (h1 s).mpr c, u⟩, by rw [List.getLast?_map, h2]; simp [n]⟩
  obtain ⟨t, ht, rfl⟩ := List.mem_map.mp hv
  exact a t ((h1 t).mp ht)
theorem stepSt_len {ev : List (List Nat)} {ah : List Nat → List Nat → Bool} {found : List (List (List Nat))} {one : List Nat} : (stepSt ev ah found one).length ≤ 2 * found.length := by
  unfold stepSt
  rw [List.length_append, List.length_map]
  have := List.length_filter_le (fun s => ((ev.filter fun o => ah o one).filter fun o => !s.contains o).isEmpty) found
  omega
end RP

/-! addresses in the machine: rules -/
namespace RP
open PySem L2
section
variable {gl : List D} {cf : CallF} {st : Sto} {env : Env}
/-- a comprehension over things that stand for others -/
theorem lc_filtG {α : Type} {en g : α → D} {p : α → Bool} {cnd elt : Env → Sto → Res D} {i : Nat} (F : FS st) : ∀ (xs : List α) (acc : List D),
    (∀ x ∈ xs, cnd (env.set i (some (en x))) st = .ok (.bl (p x)) st ∧ (p x = true → elt (env.set i (some (en x))) st = .ok (g x) st ∧ (g x).top = 0)) → tops acc = 0 → acc.length + xs.length ≤ sizeLine →
    lcLoop (asg gl cf (.nm i)) cnd elt [] st.length env (xs.map en) acc st = .ok (acc ++ (xs.filter p).map g) st
  | [], acc, _, _, _ => by simp [lcLoop, still]
  | x :: xs, acc, h, ha, hz => by
    obtain ⟨h2, h3⟩ := h x List.mem_cons_self
    simp only [List.map_cons, lcLoop, still, if_true, a_nm, Res.bind_ok, h2, tru_bl, br_some]
    cases hp : p x with
    | true =>
      obtain ⟨h4, h5⟩ := h3 hp
      have ta : tops (acc ++ [g x]) = 0 := by rw [tops_app]; simp only [tops, ha, h5]; rfl
      simp only [if_true, h4, Res.bind_ok]
      rw [if_pos (by simp at hz; omega), trim_same F (by omega) rfl, lc_filtG F xs (acc ++ [g x]) (fun y hy => h y (List.mem_cons_of_mem _ hy)) ta (by simp at hz ⊢; omega)]
      simp [hp]
    | false =>
      simp only [Bool.false_eq_true, if_false]
      rw [trim_same F (by omega) rfl, lc_filtG F xs acc (fun y hy => h y (List.mem_cons_of_mem _ hy)) ha (by simp at hz ⊢; omega)]
      simp [hp]
theorem lc_mapG {α : Type} {en g : α → D} {elt : Env → Sto → Res D} {i : Nat} (F : FS st) {xs : List α} (h : ∀ x ∈ xs, elt (env.set i (some (en x))) st = .ok (g x) st ∧ (g x).top = 0) (hz : xs.length ≤ sizeLine) :
    lcLoop (asg gl cf (.nm i)) (ev gl cf (.k (.bl true))) elt [] st.length env (xs.map en) [] st = .ok (xs.map g) st := by
  have := lc_filtG (gl := gl) (cf := cf) (env := env) (en := en) (g := g) (p := fun _ => true) (cnd := ev gl cf (.k (.bl true))) (elt := elt) (i := i) F xs [] (fun x hx => ⟨e_k, fun _ => h x hx⟩) rfl (by simpa using hz)
  rw [show xs.filter (fun _ => true) = xs from List.filter_eq_self.mpr (fun _ _ => rfl)] at this
  simpa using this
end
theorem sk {gl : List D} {cf : CallF} {a : S} {b : Ss} {env env' : Env} {st st' : Sto} (h : evS gl cf a env st = .ok (.nx env') st') : evSs gl cf (.cons a b) env st = evSs gl cf b env' st' := by
  rw [ss_cons, h]; rfl
theorem sk_rt {gl : List D} {cf : CallF} {a : S} {b : Ss} {env : Env} {d : D} {st st' : Sto} (h : evS gl cf a env st = .ok (.rt d) st') : evSs gl cf (.cons a b) env st = .ok (.rt d) st' := by
  rw [ss_cons, h]; rfl
theorem intsOf_map : ∀ ns : List Int, intsOf (ns.map D.int) = some ns
  | [] => rfl
  | n :: ns => by simp only [List.map_cons, intsOf, intsOf_map ns, Option.map_some]
theorem bi_sum {ns : List Int} {st : Sto} : bi .sum [.lst (ns.map D.int)] st = .ok (.int ns.sum) st := by simp only [bi, lstOf, intsOf_map]
theorem minL_is : ∀ (ns : List Int) (i m : Int), m ∈ i :: ns → (∀ x ∈ i :: ns, m ≤ x) → minL i ns = m
  | [], i, m, hm, _ => by
    obtain rfl : m = i := by simpa using hm
    rfl
  | n :: ns, i, m, hm, hl => by
    show minL (if n < i then n else i) ns = m
    refine minL_is ns _ m ?_ fun x hx => ?_
    · have a := hl i (by simp)
      have b := hl n (by simp)
      rcases List.mem_cons.mp hm with rfl | hm
      · rw [if_neg (by omega)]; simp
      · rcases List.mem_cons.mp hm with rfl | hm
        · by_cases h : m < i
          · rw [if_pos h]; simp
          · rw [if_neg h]
            have : m = i := by omega
            rw [this]; simp
        · exact List.mem_cons_of_mem _ hm
    · rcases List.mem_cons.mp hx with rfl | hx
      · split
        · exact hl n (by simp)
        · exact hl i (by simp)
      · exact hl x (by simp [hx])
theorem bi_minL {ns : List Int} {m : Int} {st : Sto} (hm : m ∈ ns) (hl : ∀ x ∈ ns, m ≤ x) : bi .min [.lst (ns.map D.int)] st = .ok (.int m) st := by
  cases ns with
  | nil => cases hm
  | cons i ns =>
    have e : intsOf ((i :: ns).map D.int) = some (i :: ns) := intsOf_map _
    simp only [bi, lstOf, e, minL_is ns i m hm hl]
/-! addresses as values -/
def adD (a : List Nat) : D := .tup (a.map fun i : Nat => .int (i : Int))
theorem tops_nats : ∀ a : List Nat, tops (a.map fun i : Nat => D.int (i : Int)) = 0
  | [] => rfl
  | i :: a => by simp only [List.map_cons, tops, tops_nats a]; rfl
theorem adD_top (a : List Nat) : (adD a).top = 0 := by simp only [adD, D.top, tops_nats]
theorem purs_nats : ∀ a : List Nat, purs (a.map fun i : Nat => D.int (i : Int)) = true
  | [] => rfl
  | i :: a => by simp only [List.map_cons, purs, purs_nats a, Bool.and_true]; rfl
theorem adD_pur (a : List Nat) : pur (adD a) = true := by simp only [adD, pur, purs_nats]
theorem tops_ads : ∀ s : List (List Nat), tops (s.map adD) = 0
  | [] => rfl
  | a :: s => by simp only [List.map_cons, tops, tops_ads s, adD_top]; rfl
theorem purs_ads : ∀ s : List (List Nat), purs (s.map adD) = true
  | [] => rfl
  | a :: s => by simp only [List.map_cons, purs, purs_ads s, adD_pur]; rfl
theorem dep_nats : ∀ a : List Nat, PyData.depthAll (pyPs (a.map fun i : Nat => D.int (i : Int))) ≤ 1
  | [] => by simp [pyPs, PyData.depthAll]
  | i :: a => by
    have := dep_nats a
    simp only [List.map_cons, pyPs, pyP, PyData.depthAll, PyData.depth]; omega
theorem dep_ads : ∀ s : List (List Nat), PyData.depthAll (pyPs (s.map adD)) ≤ 3
  | [] => by simp [pyPs, PyData.depthAll]
  | a :: s => by
    have := dep_ads s
    have := dep_nats a
    simp only [List.map_cons, pyPs, adD, pyP, PyData.depthAll, PyData.depth]; omega
theorem eqv_nats : ∀ a b : List Nat, PyData.eqvAll (pyPs (a.map fun i : Nat => D.int (i : Int))) (pyPs (b.map fun i : Nat => D.int (i : Int))) = decide (a = b)
  | [], [] => by simp [pyPs, PyData.eqvAll]
  | [], _ :: _ => by simp [pyPs, PyData.eqvAll]
  | _ :: _, [] => by simp [pyPs, PyData.eqvAll]
  | i :: a, j :: b => by
    simp only [List.map_cons, pyPs, pyP, PyData.eqvAll, eqv_nats a b, PyData.eqv]
    by_cases h : i = j
    · subst h; simp
    · have : ((i : Int) == (j : Int)) = false := by simpa using fun z => h (by omega)
      simp [this, h]
theorem eqv_ad (a b : List Nat) : PyData.eqv (pyP (adD a)) (pyP (adD b)) = decide (a = b) := by
  simp only [adD, pyP, PyData.eqv, eqv_nats]
theorem any_ads (a : List Nat) : ∀ s : List (List Nat), ((pyPs (s.map adD)).any fun z => PyData.eqv z (pyP (adD a))) = s.contains a
  | [] => rfl
  | b :: s => by
    simp only [List.map_cons, pyPs, List.any_cons, eqv_ad, any_ads a s, List.contains_cons]
    by_cases h : b = a
    · subst h; simp
    · have : (a == b) = false := by simpa using fun z => h z.symm
      simp [h, this]
theorem notin_ad {a : List Nat} {s : List (List Nat)} {st : Sto} : cmp .notin (adD a) (.lst (s.map adD)) st = .ok (.bl (!s.contains a)) st := by
  have t1 : toPy st (adD a) = some (pyP (adD a)) := toPy_of (adD_top a) st
  have t2 : toPy st (.lst (s.map adD)) = some (.list (pyPs (s.map adD))) := by
    show (pysW (rdN st 4) (s.map adD)).map PyData.list = _
    rw [pys_of _ (tops_ads s)]; rfl
  have s1 : SeqAt.shaped (pyP (adD a)) = true := by
    unfold SeqAt.shaped
    rw [pur_lay _ (adD_pur a)]
    have := dep_nats a
    simp only [adD, pyP, PyData.depth, Bool.true_and]
    exact decide_eq_true (by omega)
  have s2 : SeqAt.shaped (.list (pyPs (s.map adD))) = true := by
    unfold SeqAt.shaped
    have := dep_ads s
    have l : (PyData.list (pyPs (s.map adD))).canLay0 = true := by simp only [PyData.canLay0]; exact purs_lay _ (purs_ads s)
    rw [l]
    simp only [PyData.depth, Bool.true_and]
    exact decide_eq_true (by omega)
  have e : inD (adD a) (.lst (s.map adD)) st = some (s.contains a) := by
    have fl : (flat (adD a) && (s.map adD).all flat) = false := rfl
    simp only [inD, seqOf, fl, inP, t1, t2, s1, s2]
    simp only [Bool.false_eq_true, if_false, and_self, if_true, any_ads]
  show ofB ((inD (adD a) (.lst (s.map adD)) st).map not) st = _
  rw [e]; rfl
/-! one step inwards -/
theorem enc_ty (j : J) : tyB .tuple (enc j) = !isStep j := by cases j <;> rfl
theorem grp_word (w : Bool) : ([D.str "seq", D.str "par"].any fun y => eqF y (.str (gw w))) = true := by cases w <;> decide +kernel
theorem mul_word (w : Bool) : ([D.str "seq", D.str "par"].any fun y => eqF y (.str (mw w))) = false := by cases w <;> decide +kernel
theorem ord_grp (w : Bool) : ([D.str "seq", D.str "repeat"].any fun y => eqF y (.str (gw w))) = !w := by cases w <;> decide +kernel
theorem ord_mul (w : Bool) : ([D.str "seq", D.str "repeat"].any fun y => eqF y (.str (mw w))) = !w := by cases w <;> decide +kernel
def childE (iv : Nat) : E := .ife (.cmp .isin (.ix (.v 0) (.k (.int (0)))) (.tup (.cons (.k (.str "seq")) (.cons (.k (.str "par")) .nil)))) (.ix (.ix (.v 0) (.k (.int (1)))) (.v iv)) (.ix (.v 0) (.k (.int (2))))
def ordE : E := .cmp .isin (.ix (.v 0) (.k (.int (0)))) (.tup (.cons (.k (.str "seq")) (.cons (.k (.str "repeat")) .nil)))
local macro_rules | `(tactic| walk_at "ev") => `(tactic| simp only [e_v, lkV_some, lkG_some, e_k, e_g, e_tup, e_lst, e_lstM, e_dct, e_bin, e_cmp, e_chain, e_neg, e_not, e_and, e_or, e_ife, e_ix, e_call, e_bi, e_isi, e_mt, e_sl, e_rev, e_lc, es_nil, es_cons, i_seq, i_rng, i_zip, i_enum, a_nm, a_two, a_tup, a_lst, a_sub, s_ex', s_asg', s_two', s_aug', s_ret', s_ife', s_for', s_skip', ss_nil, ss_cons, it_tup, it_lst, zp_tup, zp_lst, en_lst, rev_lst, rev_tup, RP.neg_int, putTo_some, bi_len_tup, bi_len_lst, bi_list_tup, bi_tuple_lst, b_add, b_sub, c_lt, c_le, c_gt, c_ge, c_eqi, c_nei, c_isN, c_notN, c_eqnil, c_nenil, c_eqnilL, c_nenilL, c_eqstr, c_nestr, isB_bl, sz0, sz1, sz2, sz3, sz4, sz5, sz6, sz7, ix0, ix1, ix2, Tg.slots, wipeE, List.map_cons, List.map_nil, List.cons_append, List.nil_append, Nat.sub_self, List.replicate, List.getElem?_cons_zero, List.getElem?_cons_succ, List.set_cons_zero, List.set_cons_succ, Res.bind_ok, Res.thn_ok, Res.thn_exc, nxt_xc, nxt_nx, nxt_rt, br_some, tru_bl, if_true, if_false, Bool.false_eq_true, Bool.not_true, Bool.not_false, a_many, a_many3, a_many4, s_three', bi_mx2, bi_mn2, ix3])
section
variable {gl : List D} {cf : CallF} {st : Sto} {env : Env}
theorem child_ev {iv x : Nat} {j : J} (h0 : env[0]? = some (some (enc j))) (h1 : env[iv]? = some (some (.int (x : Int)))) (h : (parts j)[x]? = some (child j x)) : ev gl cf (childE iv) env st = .ok (enc (child j x)) st := by
  simp only [childE]
  walk_at "ev"
  rw [h0]
  walk_at "ev"
  cases j with
  | step i => simp [parts] at h
  | grp w xs =>
    simp only [enc]
    walk_at "ev"
    rw [c_in rfl rfl, grp_word]
    walk_at "ev"
    rw [h1]
    walk_at "ev"
    have hx : x < xs.length := (List.getElem?_eq_some_iff.mp h).1
    have hx' : x < (encs xs).length := by rw [encs_len]; exact hx
    rw [ix_at hx']
    have e : (encs xs)[x] = enc (child (.grp w xs) x) := by
      have q : (encs xs)[x]? = some (enc (child (.grp w xs) x)) := by rw [encs_map, List.getElem?_map, show xs[x]? = some (child (.grp w xs) x) from h]; rfl
      exact (List.getElem?_eq_some_iff.mp q).2
    rw [e]
  | mul w c y =>
    simp only [enc]
    walk_at "ev"
    rw [c_in rfl rfl, mul_word]
    walk_at "ev"
    rfl
theorem ord_ev {j : J} (h0 : env[0]? = some (some (enc j))) (h : isStep j = false) : ev gl cf ordE env st = .ok (.bl (ordd j)) st := by
  simp only [ordE]
  walk_at "ev"
  rw [h0]
  walk_at "ev"
  cases j with
  | step i => cases h
  | grp w xs =>
    simp only [enc]
    walk_at "ev"
    rw [c_in rfl rfl, ord_grp]
    rfl
  | mul w c y =>
    simp only [enc]
    walk_at "ev"
    rw [c_in rfl rfl, ord_mul]
    rfl
end
theorem addr_cons {j : J} {x : Nat} {r : List Nat} (h : (x :: r) ∈ addrs j) : isStep j = false ∧ (parts j)[x]? = some (child j x) ∧ r ∈ addrs (child j x) := by
  cases hs : isStep j with
  | true =>
    cases j with
    | step i => simp [addrs] at h
    | grp w xs => cases hs
    | mul w c y => cases hs
  | false =>
    rw [addrs_node hs] at h
    obtain ⟨i, A, s, _, hA, hr, e⟩ := cat_ge h
    cases e
    rw [Nat.sub_zero, List.getElem?_map] at hA
    cases hp : (parts j)[x]? with
    | none => rw [hp] at hA; cases hA
    | some y =>
      rw [hp] at hA
      cases hA
      have e := child_parts hp
      exact ⟨rfl, by rw [e], by rw [e]; exact hr⟩
theorem addr_nil {j : J} (h : [] ∈ addrs j) : ∃ v, j = .step v := by
  cases hs : isStep j with
  | true => cases j with
    | step i => exact ⟨i, rfl⟩
    | grp w xs => cases hs
    | mul w c y => cases hs
  | false =>
    rw [addrs_node hs] at h
    obtain ⟨i, A, s, _, _, _, e⟩ := cat_ge h
    cases e
theorem nav_val : ∀ {a : List Nat} {j : J}, a ∈ addrs j → nav j a = .step (val j a)
  | [], j, h => by
    obtain ⟨v, rfl⟩ := addr_nil h
    rfl
  | x :: r, j, h => by
    have := nav_val (addr_cons h).2.2
    simp only [nav, val] at this ⊢
    exact this
theorem len_cat : ∀ {As : List (List (List Nat))} {k : Nat}, (cat k As).length = (As.map List.length).sum
  | [], _ => rfl
  | A :: As, k => by simp only [cat, List.length_append, List.length_map, List.map_cons, List.sum_cons, len_cat]
mutual
theorem addrs_len : ∀ j : J, (addrs j).length = steps j
  | .step _ => rfl
  | .grp _ xs => by simp only [addrs, len_cat, steps]; exact addrss_len xs
  | .mul _ c x => by
    simp only [addrs, len_cat, steps, List.map_replicate, addrs_len x]
    split
    · simp
    · have : steps x = 0 := by omega
      simp [this]
theorem addrss_len : ∀ xs : List J, ((addrss xs).map List.length).sum = stepss xs
  | [] => rfl
  | x :: xs => by simp only [addrss, List.map_cons, List.sum_cons, stepss, addrs_len x, addrss_len xs]
end

/-! a comprehension of two walks, over parts and their addresses -/
theorem fin_frz {st : Sto} {xs : List D} (F : FS st) (h : tops xs = 0) : fin false st.length (.rt (.ref st.length)) (st ++ [.lst xs]) = .ok (.lst xs) st := by
  have c : cuts st.length (st ++ [.lst xs]) = true := by
    unfold cuts
    exact (F.cut h).all _
  have t : decide (st.length < (D.ref st.length).top) = true := decide_eq_true (by simp [D.top])
  have fl : frz (st ++ [.lst xs]) st.length 60 (.ref st.length) = some (.lst xs) := by simp only [frz, Nat.lt_irrefl, if_false, get_last, h, Nat.zero_le, if_true]
  simp only [fin, t, Bool.not_false, Bool.and_self, if_true, fl, c]
  have z : decide ((D.lst xs).top ≤ st.length) = true := decide_eq_true (by simp [D.top, h])
  simp [z]
theorem setL_last {st : Sto} {xs : List D} {y : D} (hz : xs.length + 1 ≤ sizeLine) : setL st.length (fun zs => some (zs ++ [y])) (st ++ [.lst xs]) = some (st ++ [.lst (xs ++ [y])]) := by
  simp only [setL, get_last, List.length_append, List.length_cons, List.length_nil]
  rw [if_pos (by omega)]
  simp
def addE : E := .bin .add (.tup (.cons (.v 2) .nil)) (.v 4)
theorem in_loop {gl : List D} {cf : CallF} {st : Sto} {k : Nat} {e0 e1 e3 e4 : Option D} (F : FS st) : ∀ (as : List (List Nat)) (acc : List (List Nat)), acc.length + as.length ≤ 10000 → (∀ a ∈ as, a.length ≤ 100) →
    in2Loop (asg gl cf (.nm 4)) (ev gl cf addE) [] st.length (st.length + 1) [e0, e1, some (.int (k : Int)), e3, e4] (as.map adD) (st ++ [.lst (acc.map adD)]) = .ok () (st ++ [.lst ((acc ++ as.map (k :: ·)).map adD)])
  | [], acc, _, _ => by simp [in2Loop, still]
  | a :: as, acc, hz, ha => by
    have big : 20000 ≤ sizeLine := by decide
    simp only [List.length_cons] at hz
    simp only [List.map_cons, in2Loop, still, if_true, a_nm, Res.bind_ok, List.set_cons_zero, List.set_cons_succ, addE]
    walk_at "ev"
    simp only [adD]
    have hl := ha a List.mem_cons_self
    rw [b_cat (by simp; omega)]
    walk_at "ev"
    have e : (D.tup (D.int (k : Int) :: a.map fun i : Nat => D.int (i : Int))) = adD (k :: a) := rfl
    rw [e, setL_last (by simp; omega)]
    simp only []
    have es : acc.map adD ++ [adD (k :: a)] = (acc ++ [k :: a]).map adD := by simp
    rw [es, trim_cut F (tops_ads _) (Nat.zero_le _)]
    have := in_loop (gl := gl) (cf := cf) (k := k) (e0 := e0) (e1 := e1) (e3 := e3) (e4 := e4) F as (acc ++ [k :: a]) (by simp; omega) (fun b hb => ha b (List.mem_cons_of_mem _ hb))
    simp only [addE] at this
    rw [this]
    simp
theorem out_loop {gl : List D} {cf : CallF} {st : Sto} {f : Nat} {d0 d1 : D} (F : FS st) : ∀ (L : List J) (k : Nat) (acc : List (List Nat)), acc.length + (cat k (L.map addrs)).length ≤ 10000 → (∀ x ∈ L, dep x ≤ 100) → (∀ x ∈ L, ∀ a ∈ addrs x, a.length ≤ 100) →
    (∀ x ∈ L, ∀ s : Sto, FS s → cf f [enc x] s = .ok (.lst ((addrs x).map adD)) s) →
    out2Loop (asg gl cf (.two (.nm 2) (.nm 3))) (evI gl cf (.seq (.call f (.cons (.v 3) .nil)))) (asg gl cf (.nm 4)) (ev gl cf addE) (fun e => wipeE e [4]) [] st.length [some d0, some d1, none, none, none] (enumd (k : Int) (L.map enc)) (st ++ [.lst (acc.map adD)]) =
      .ok () (st ++ [.lst ((acc ++ cat k (L.map addrs)).map adD)])
  | [], k, acc, _, _, _, _ => by simp [enumd, out2Loop, still, cat]
  | x :: L, k, acc, hz, hd, hl, hx => by
    simp only [List.map_cons, cat, List.length_append, List.length_map] at hz
    simp only [List.map_cons, enumd, out2Loop, still, if_true]
    walk_at "ev"
    have F2 := F.cut (tops_ads acc)
    rw [hx x List.mem_cons_self _ F2]
    walk_at "ev"
    rw [show (st ++ [O.lst (acc.map adD)]).length = st.length + 1 by simp]
    rw [in_loop F (addrs x) acc (by omega) (hl x List.mem_cons_self)]
    walk_at "ev"
    rw [trim_cut F (tops_ads _) (Nat.zero_le _)]
    have := out_loop (gl := gl) (cf := cf) (f := f) (d0 := d0) (d1 := d1) F L (k + 1) (acc ++ (addrs x).map (k :: ·)) (by simp only [List.length_append, List.length_map]; omega) (fun y hy => hd y (List.mem_cons_of_mem _ hy)) (fun y hy => hl y (List.mem_cons_of_mem _ hy)) (fun y hy => hx y (List.mem_cons_of_mem _ hy))
    simp only [wipeE] at this
    rw [show (k : Int) + 1 = ((k + 1 : Nat) : Int) by omega, this]
    simp [cat]
theorem ads_dep : ∀ {a : List Nat} {j : J}, a ∈ addrs j → a.length ≤ dep j
  | [], j, _ => Nat.zero_le _
  | x :: r, j, h => by
    obtain ⟨_, h2, h3⟩ := addr_cons h
    have := ads_dep h3
    have := parts_dep (List.mem_of_getElem? h2)
    simp only [List.length_cons]; omega
/-- sorted of addresses -/
theorem prs_inv : ∀ {ds : List D} {ps : PP.Vs}, prsOf ds = some ps → ds = ps.map prD
  | [], ps, h => by cases h; rfl
  | d :: ds, ps, h => by
    unfold prsOf at h
    split at h
    · rename_i e; cases e
    · rename_i i j r e
      cases e
      obtain ⟨qs, e1, rfl⟩ := map_some h
      rw [prs_inv e1]; rfl
    · cases h
theorem ts_of : ∀ s : List (List Nat), tsOf (s.map adD) = some (s.map fun a => a.map fun i : Nat => (i : Int))
  | [] => rfl
  | a :: s => by
    have e : intsOf (a.map fun i : Nat => D.int (i : Int)) = some (a.map fun i : Nat => (i : Int)) := by
      have := intsOf_map (a.map fun i : Nat => (i : Int))
      rw [List.map_map] at this
      exact this
    show (match intsOf (a.map fun i : Nat => D.int (i : Int)), tsOf (s.map adD) with
      | some a, some t => some (a :: t)
      | _, _ => none) = _
    rw [e, ts_of s]; rfl
theorem lt_lex : ∀ {a b : List Nat}, ltL a b = PP.lexL (a.map fun i : Nat => (i : Int)) (b.map fun i : Nat => (i : Int))
  | [], [] => rfl
  | [], _ :: _ => rfl
  | _ :: _, [] => rfl
  | x :: a, y :: b => by
    simp only [ltL, List.map_cons, PP.lexL]
    by_cases e : x = y
    · rw [if_pos e, if_pos (by rw [e]), lt_lex]
    · rw [if_neg e, if_neg (by omega)]
      by_cases h : x < y
      · rw [decide_eq_true h, decide_eq_true (by omega)]
      · rw [decide_eq_false h, decide_eq_false (by omega)]
theorem tD_ad (a : List Nat) : tD (a.map fun i : Nat => (i : Int)) = adD a := by
  simp only [tD, adD, List.map_map]; rfl
theorem sorted_ads {s : List (List Nat)} {st : Sto} (h : s.Pairwise fun a b => ltL a b = true) (hn : s.length ≤ 1 ∨ ∀ a ∈ s, a ≠ []) : bi .sorted [.lst (s.map adD)] st = .ok (.lst (s.map adD)) st := by
  simp only [bi, lstOf]
  cases e : prsOf (s.map adD) with
  | some ps =>
    simp only []
    have ei := prs_inv e
    have so : PP.Sor ps := by
      have h2 : (s.map adD).Pairwise fun x y => ∃ a b, x = adD a ∧ y = adD b ∧ ltL a b = true := by
        rw [List.pairwise_map]
        exact List.Pairwise.imp (fun {a b} q => ⟨a, b, rfl, rfl, q⟩) h
      rw [ei, List.pairwise_map] at h2
      refine List.Pairwise.imp (fun {p q} ⟨a, b, e1, e2, hl⟩ => ?_) h2
      rw [PP.ltB_false]
      simp only [prD, adD, D.tup.injEq] at e1 e2
      match a, b, e1, e2 with
      | [a1, a2], [b1, b2], e1, e2 =>
        simp only [List.map_cons, List.map_nil, List.cons.injEq, D.int.injEq, and_true] at e1 e2
        simp only [ltL] at hl
        by_cases z : a1 = b1
        · rw [if_pos z] at hl
          by_cases z2 : a2 = b2
          · rw [if_pos z2] at hl; cases hl
          · rw [if_neg z2] at hl; simp only [decide_eq_true_eq] at hl; omega
        · rw [if_neg z] at hl; simp only [decide_eq_true_eq] at hl; omega
      | [], _, e1, _ => simp at e1
      | [_], _, e1, _ => simp at e1
      | _ :: _ :: _ :: _, _, e1, _ => simp at e1
      | [_, _], [], _, e2 => simp at e2
      | [_, _], [_], _, e2 => simp at e2
      | [_, _], _ :: _ :: _ :: _, _, e2 => simp at e2
    rw [PP.sor_uniq (PP.sortP_sor ps) so (PP.sortP_perm ps), ← ei]
  | none =>
    simp only [ts_of]
    have so : PP.SorT (s.map fun a => a.map fun i : Nat => (i : Int)) := by
      unfold PP.SorT
      rw [List.pairwise_map]
      refine List.Pairwise.imp (fun {a b} q => ?_) h
      rw [lt_lex] at q
      exact PP.lexL_asym q
    have c : (s.map fun a => a.map fun i : Nat => (i : Int)).length ≤ 1 ∨ (s.map fun a => a.map fun i : Nat => (i : Int)).all (fun t => !t.isEmpty) = true := by
      rcases hn with hn | hn
      · left; simpa using hn
      · right
        rw [List.all_map, List.all_eq_true]
        intro a ha
        have := hn a ha
        cases a with
        | nil => exact absurd rfl this
        | cons x r => rfl
    rw [if_pos c, PP.sorT_uniq (PP.sortT_sor _) so (PP.sortT_perm _), List.map_map]
    congr 2
    exact List.map_congr_left fun a _ => tD_ad a
end RP

/-! tidy forms, in plain words -/
namespace RP
open PySem L2
mutual
def eqJ : J → J → Bool
  | .step i, .step j => decide (i = j)
  | .grp w xs, .grp v ys => (w == v) && eqJs xs ys
  | .mul w n x, .mul v m y => (w == v) && ((n == m) && eqJ x y)
  | .step _, .grp _ _ => false
  | .step _, .mul _ _ _ => false
  | .grp _ _, .step _ => false
  | .grp _ _, .mul _ _ _ => false
  | .mul _ _ _, .step _ => false
  | .mul _ _ _, .grp _ _ => false
def eqJs : List J → List J → Bool
  | [], [] => true
  | x :: xs, y :: ys => eqJ x y && eqJs xs ys
  | [], _ :: _ => false
  | _ :: _, [] => false
end
mutual
theorem eqJ_iff : ∀ a b : J, eqJ a b = true ↔ a = b
  | .step i, .step j => by simp [eqJ]
  | .grp w xs, .grp v ys => by simp [eqJ, eqJs_iff xs ys]
  | .mul w n x, .mul v m y => by simp [eqJ, eqJ_iff x y]
  | .step _, .grp _ _ => by simp [eqJ]
  | .step _, .mul _ _ _ => by simp [eqJ]
  | .grp _ _, .step _ => by simp [eqJ]
  | .grp _ _, .mul _ _ _ => by simp [eqJ]
  | .mul _ _ _, .step _ => by simp [eqJ]
  | .mul _ _ _, .grp _ _ => by simp [eqJ]
theorem eqJs_iff : ∀ a b : List J, eqJs a b = true ↔ a = b
  | [], [] => by simp [eqJs]
  | x :: xs, y :: ys => by simp [eqJs, eqJ_iff x y, eqJs_iff xs ys]
  | [], _ :: _ => by simp [eqJs]
  | _ :: _, [] => by simp [eqJs]
end
instance : DecidableEq J := fun a b => decidable_of_iff (eqJ a b = true) (eqJ_iff a b)
theorem eqJ_dec (a b : J) : eqJ a b = decide (a = b) := by
  cases h : eqJ a b with
  | true => exact (decide_eq_true ((eqJ_iff a b).mp h)).symm
  | false => exact (decide_eq_false fun e => by rw [(eqJ_iff a b).mpr e] at h; cases h).symm
theorem gw_dec (w v : Bool) : (gw w == gw v) = (w == v) := by cases w <;> cases v <;> decide +kernel
theorem mw_dec (w v : Bool) : (mw w == mw v) = (w == v) := by cases w <;> cases v <;> decide +kernel
theorem gm_dec (w v : Bool) : (gw w == mw v) = false := by cases w <;> cases v <;> decide +kernel
theorem mg_dec (w v : Bool) : (mw w == gw v) = false := by cases w <;> cases v <;> decide +kernel
theorem nat_dec (n m : Nat) : ((n : Int) == (m : Int)) = (n == m) := by
  by_cases h : n = m
  · subst h; simp
  · rw [beq_eq_false_iff_ne.mpr h, beq_eq_false_iff_ne.mpr (by omega)]
theorem int_dec (i j : Int) : (i == j) = decide (i = j) := rfl
mutual
theorem eqv_enc : ∀ a b : J, PyData.eqv (pyP (enc a)) (pyP (enc b)) = eqJ a b
  | .step i, .step j => by simp only [enc, pyP, PyData.eqv, eqJ, int_dec]
  | .grp w xs, .grp v ys => by simp [enc, pyP, pyPs, PyData.eqv, PyData.eqvAll, eqJ, eqv_encs xs ys, gw_dec]
  | .mul w n x, .mul v m y => by simp [enc, pyP, pyPs, PyData.eqv, PyData.eqvAll, eqJ, eqv_enc x y, mw_dec, nat_dec]
  | .step _, .grp _ _ => by simp [enc, pyP, PyData.eqv, eqJ]
  | .step _, .mul _ _ _ => by simp [enc, pyP, PyData.eqv, eqJ]
  | .grp _ _, .step _ => by simp [enc, pyP, PyData.eqv, eqJ]
  | .grp _ _, .mul _ _ _ => by simp [enc, pyP, pyPs, PyData.eqv, PyData.eqvAll, eqJ, gm_dec]
  | .mul _ _ _, .step _ => by simp [enc, pyP, PyData.eqv, eqJ]
  | .mul _ _ _, .grp _ _ => by simp [enc, pyP, pyPs, PyData.eqv, PyData.eqvAll, eqJ, mg_dec]
theorem eqv_encs : ∀ a b : List J, PyData.eqvAll (pyPs (encs a)) (pyPs (encs b)) = eqJs a b
  | [], [] => by simp [encs, pyPs, PyData.eqvAll, eqJs]
  | x :: xs, y :: ys => by simp [encs, pyPs, PyData.eqvAll, eqJs, eqv_enc x y, eqv_encs xs ys]
  | [], _ :: _ => by simp [encs, pyPs, PyData.eqvAll, eqJs]
  | _ :: _, [] => by simp [encs, pyPs, PyData.eqvAll, eqJs]
end
/-! ### the form -/
def emp : J := .grp false []
def tidM (w : Bool) (n : Nat) (x : J) : J := if n = 0 ∨ x = emp then emp else match x with
  | .mul v m y => if v = w then .mul w (n * m) y else if n = 1 then .mul v m y else .mul w n (.mul v m y)
  | x => if n = 1 then x else .mul w n x
def flat1 (w : Bool) (x : J) : List J := match x with
  | .grp v ys => if v = w then ys else if J.grp v ys = emp then [] else [.grp v ys]
  | x => [x]
def cnt : J → Nat × J
  | .mul true n y => (n, y)
  | x => (1, x)
def joinC : List (Nat × J) → Nat × J → List (Nat × J)
  | [], p => [p]
  | q :: qs, p => if q.2 = p.2 then (q.1 + p.1, q.2) :: qs else q :: joinC qs p
def ung (p : Nat × J) : J := if p.1 = 1 then p.2 else .mul true p.1 p.2
def joinL (xs : List J) : List (Nat × J) := (xs.map cnt).foldl joinC []
def joined (w : Bool) (ys : List J) : List J := if w then (joinL ys).map ung else ys
def wrap (w : Bool) : List J → J
  | [] => emp
  | [z] => z
  | z :: y :: zs => .grp w (z :: y :: zs)
def tidG (w : Bool) (xs : List J) : J := wrap w (joined w (xs.flatMap (flat1 w)))
mutual
def tid : J → J
  | .step i => .step i
  | .grp w xs => tidG w (tids xs)
  | .mul w n x => tidM w n (tid x)
def tids : List J → List J
  | [] => []
  | x :: xs => tid x :: tids xs
end
theorem tids_map : ∀ xs : List J, tids xs = xs.map tid
  | [] => rfl
  | x :: xs => by simp [tids, tids_map xs]
/-! ### what stays: steps, net, lowest -/
/-- sums over parts -/
def SumP (f : J → Int) : List J → Int
  | [] => 0
  | x :: xs => f x + SumP f xs
theorem SumP_app (f : J → Int) : ∀ xs ys : List J, SumP f (xs ++ ys) = SumP f xs + SumP f ys
  | [], ys => by simp [SumP]
  | x :: xs, ys => by simp only [List.cons_append, SumP, SumP_app f xs ys]; omega
theorem SumP_flat {f : J → Int} {g : J → List J} (h : ∀ x, SumP f (g x) = f x) : ∀ xs : List J, SumP f (xs.flatMap g) = SumP f xs
  | [] => rfl
  | x :: xs => by simp only [List.flatMap_cons, SumP_app, h, SumP_flat h xs, SumP]
def SW (f : J → Int) : List (Nat × J) → Int
  | [] => 0
  | p :: ps => (p.1 : Int) * f p.2 + SW f ps
theorem SW_joinC (f : J → Int) : ∀ (qs : List (Nat × J)) (p : Nat × J), SW f (joinC qs p) = SW f qs + (p.1 : Int) * f p.2
  | [], p => by simp only [joinC, SW]; omega
  | q :: qs, p => by
    simp only [joinC]
    by_cases e : q.2 = p.2
    · rw [if_pos e]
      simp only [SW]
      rw [e, Int.natCast_add, Int.add_mul]; omega
    · rw [if_neg e]
      simp only [SW, SW_joinC f qs p]; omega
theorem SW_fold (f : J → Int) : ∀ (ps acc : List (Nat × J)), SW f (ps.foldl joinC acc) = SW f acc + SW f ps
  | [], acc => by simp [SW]
  | p :: ps, acc => by simp only [List.foldl_cons, SW_fold f ps, SW_joinC, SW]; omega
/-- a measure that adds up over parallel parts and copies -/
structure Adds (f : J → Int) : Prop where
  par : ∀ xs, f (.grp true xs) = SumP f xs
  mul : ∀ n x, f (.mul true n x) = (n : Int) * f x
  em : f emp = 0
theorem Adds.cnt {f : J → Int} (A : Adds f) (x : J) : ((RP.cnt x).1 : Int) * f (RP.cnt x).2 = f x := by
  cases x with
  | step i => simp [RP.cnt]
  | grp w xs => simp [RP.cnt]
  | mul w n y => cases w with
    | true => simp only [RP.cnt]; exact (A.mul n y).symm
    | false => simp [RP.cnt]
theorem Adds.cnts {f : J → Int} (A : Adds f) : ∀ xs : List J, SW f (xs.map RP.cnt) = SumP f xs
  | [] => rfl
  | x :: xs => by simp only [List.map_cons, SW, A.cnt, A.cnts xs, SumP]
theorem Adds.ung {f : J → Int} (A : Adds f) (p : Nat × J) : f (RP.ung p) = (p.1 : Int) * f p.2 := by
  unfold RP.ung
  by_cases e : p.1 = 1
  · rw [if_pos e, e]; simp
  · rw [if_neg e, A.mul]
theorem Adds.ungs {f : J → Int} (A : Adds f) : ∀ ps : List (Nat × J), SumP f (ps.map RP.ung) = SW f ps
  | [] => rfl
  | p :: ps => by simp only [List.map_cons, SumP, SW, A.ung, A.ungs ps]
theorem Adds.joined {f : J → Int} (A : Adds f) (xs : List J) : SumP f (RP.joined true xs) = SumP f xs := by
  simp only [RP.joined, if_true, A.ungs, joinL, SW_fold, A.cnts]
  simp [SW]
theorem Adds.flat {f : J → Int} (A : Adds f) (x : J) : SumP f (flat1 true x) = f x := by
  cases x with
  | step i => simp [flat1, SumP]
  | mul w n y => simp [flat1, SumP]
  | grp w xs =>
    simp only [flat1]
    cases w with
    | true => rw [if_pos rfl, A.par]
    | false =>
      rw [if_neg (by decide)]
      by_cases e : J.grp false xs = emp
      · rw [if_pos e, e, A.em]; rfl
      · rw [if_neg e]; simp [SumP]
theorem Adds.wrap {f : J → Int} (A : Adds f) (zs : List J) : f (RP.wrap true zs) = SumP f zs := by
  match zs with
  | [] => exact A.em
  | [z] => simp [RP.wrap, SumP]
  | z :: y :: zs => exact A.par _
theorem Adds.tidG {f : J → Int} (A : Adds f) (xs : List J) : f (RP.tidG true xs) = SumP f xs := by
  rw [RP.tidG, A.wrap, A.joined, SumP_flat A.flat]
theorem SumP_steps : ∀ xs : List J, SumP (fun x => (steps x : Int)) xs = (stepss xs : Nat)
  | [] => rfl
  | x :: xs => by simp only [SumP, SumP_steps xs, stepss]; omega
theorem SumP_net : ∀ xs : List J, SumP net xs = nets xs
  | [] => rfl
  | x :: xs => by simp only [SumP, SumP_net xs, nets]
theorem SumP_low : ∀ xs : List J, SumP low xs = lowsP xs
  | [] => rfl
  | x :: xs => by simp only [SumP, SumP_low xs, lowsP]
theorem adds_steps : Adds fun x => (steps x : Int) := ⟨fun xs => by rw [SumP_steps]; rfl, fun n x => by simp [steps], rfl⟩
theorem adds_net : Adds net := ⟨fun xs => by rw [SumP_net]; rfl, fun n x => rfl, rfl⟩
theorem adds_low : Adds low := ⟨fun xs => by rw [SumP_low]; rfl, fun n x => rfl, rfl⟩
/-- in sequence -/
theorem lowsSumP_app : ∀ xs ys : List J, lowsS (xs ++ ys) = min (lowsS xs) (nets xs + lowsS ys)
  | [], ys => by
    have := (lowsS_le ys).1
    simp only [List.nil_append, lowsS, nets]; omega
  | x :: xs, ys => by simp only [List.cons_append, lowsS, nets, lowsSumP_app xs ys]; omega
theorem nets_app : ∀ xs ys : List J, nets (xs ++ ys) = nets xs + nets ys
  | [], ys => by simp [nets]
  | x :: xs, ys => by simp only [List.cons_append, nets, nets_app xs ys]; omega
theorem stepss_app : ∀ xs ys : List J, stepss (xs ++ ys) = stepss xs + stepss ys
  | [], ys => by simp [stepss]
  | x :: xs, ys => by simp only [List.cons_append, stepss, stepss_app xs ys]; omega
theorem flatS (x : J) : lowsS (flat1 false x) = low x ∧ nets (flat1 false x) = net x ∧ stepss (flat1 false x) = steps x := by
  have l := low_le x
  have one : lowsS [x] = low x ∧ nets [x] = net x ∧ stepss [x] = steps x := ⟨by simp only [lowsS]; omega, by simp [nets], by simp [stepss]⟩
  cases x with
  | step i => exact one
  | mul w n y => exact one
  | grp w xs =>
    simp only [flat1]
    cases w with
    | false => rw [if_pos rfl]; exact ⟨rfl, rfl, rfl⟩
    | true =>
      rw [if_neg (by decide)]
      rw [if_neg (by simp [emp])]
      exact one
theorem flatsS : ∀ xs : List J, lowsS (xs.flatMap (flat1 false)) = lowsS xs ∧ nets (xs.flatMap (flat1 false)) = nets xs ∧ stepss (xs.flatMap (flat1 false)) = stepss xs
  | [] => ⟨rfl, rfl, rfl⟩
  | x :: xs => by
    obtain ⟨a, b, c⟩ := flatS x
    obtain ⟨d, e, f⟩ := flatsS xs
    refine ⟨?_, ?_, ?_⟩
    · simp only [List.flatMap_cons, lowsSumP_app, lowsS, a, b, d]
    · simp only [List.flatMap_cons, nets_app, nets, b, e]
    · simp only [List.flatMap_cons, stepss_app, stepss, c, f]
theorem wrapS (zs : List J) : low (wrap false zs) = lowsS zs ∧ net (wrap false zs) = nets zs ∧ steps (wrap false zs) = stepss zs := by
  match zs with
  | [] => exact ⟨rfl, rfl, rfl⟩
  | [z] =>
    have l := low_le z
    exact ⟨by simp only [wrap, lowsS]; omega, by simp [wrap, nets], by simp [wrap, stepss]⟩
  | z :: y :: zs => exact ⟨rfl, rfl, rfl⟩
/-- the measures -/
def mea (x : J) : Nat × Int × Int := (steps x, net x, low x)
theorem mea_grp (w : Bool) (xs : List J) : mea (tidG w xs) = mea (.grp w xs) := by
  cases w with
  | true =>
    have a := adds_steps.tidG xs
    have b := adds_net.tidG xs
    have c := adds_low.tidG xs
    rw [SumP_steps] at a
    rw [SumP_net] at b
    rw [SumP_low] at c
    have a' : steps (tidG true xs) = stepss xs := by exact_mod_cast a
    simp only [mea, a', b, c, steps, net, low]
  | false =>
    obtain ⟨a, b, c⟩ := wrapS (joined false (xs.flatMap (flat1 false)))
    obtain ⟨d, e, f⟩ := flatsS xs
    simp only [mea, tidG, a, b, c]
    simp only [joined, Bool.false_eq_true, if_false, d, e, f, steps, net, low]
theorem rep_low {n m : Nat} {x l : Int} (hn : n ≠ 0) (hm : m ≠ 0) : l + min 0 (((n * m : Nat) : Int) - 1) * x = l + min 0 (((n * m : Nat) : Int) - 1) * x := rfl
theorem min_rep {n m : Nat} {x : Int} (hn : n ≠ 0) (hm : m ≠ 0) : min 0 ((((n * m : Nat) : Int) - 1) * x) = min 0 (((m : Int) - 1) * x) + min 0 (((n : Int) - 1) * ((m : Int) * x)) := by
  have e : (((n * m : Nat) : Int) - 1) * x = ((m : Int) - 1) * x + ((n : Int) - 1) * ((m : Int) * x) := by
    rw [Int.natCast_mul]
    rw [Int.sub_mul, Int.sub_mul, Int.sub_mul, Int.one_mul, Int.mul_assoc, Int.one_mul]; omega
  have a : (0 : Int) ≤ (m : Int) - 1 := by omega
  have b : (0 : Int) ≤ (n : Int) - 1 := by omega
  have c : (0 : Int) ≤ (m : Int) := by omega
  rw [e]
  rcases Int.le_total 0 x with hx | hx
  · have p := Int.mul_nonneg a hx
    have q := Int.mul_nonneg b (Int.mul_nonneg c hx)
    omega
  · have p := Int.mul_nonpos_of_nonneg_of_nonpos a hx
    have q := Int.mul_nonpos_of_nonneg_of_nonpos b (Int.mul_nonpos_of_nonneg_of_nonpos c hx)
    omega
theorem mea_emp : mea emp = (0, 0, 0) := rfl
theorem mea_mul (w : Bool) (n : Nat) (x : J) : mea (tidM w n x) = mea (.mul w n x) := by
  have hemp : ∀ w n, mea (.mul w n emp) = (0, 0, 0) := fun w n => by
    cases w <;> simp [mea, steps, net, low, emp, stepss, nets, lowsS]
  have hz : ∀ w x, mea (.mul w 0 x) = (0, 0, 0) := fun w x => by cases w <;> simp [mea, steps, net, low]
  have h1 : ∀ w x, mea (.mul w 1 x) = mea x := fun w x => by cases w <;> simp [mea, steps, net, low]
  unfold tidM
  by_cases c : n = 0 ∨ x = emp
  · rw [if_pos c, mea_emp]
    rcases c with rfl | rfl
    · rw [hz]
    · rw [hemp]
  · rw [if_neg c]
    have n0 : n ≠ 0 := fun e => c (.inl e)
    cases x with
    | step i =>
      simp only
      by_cases e : n = 1
      · rw [if_pos e, e, h1]
      · rw [if_neg e]
    | grp v xs =>
      simp only
      by_cases e : n = 1
      · rw [if_pos e, e, h1]
      · rw [if_neg e]
    | mul v m y =>
      simp only
      by_cases e : v = w
      · rw [if_pos e]
        subst e
        by_cases hm : m = 0
        · subst hm
          rw [Nat.mul_zero, hz]
          cases v <;> simp [mea, steps, net, low]
        · cases v with
          | true => simp only [mea, steps, net, low, Int.natCast_mul, Int.mul_assoc, Nat.mul_assoc]
          | false =>
            have hnm : n * m ≠ 0 := Nat.mul_ne_zero n0 hm
            have hr := min_rep (x := net y) n0 hm
            simp only [mea, steps, net, low, hnm, n0, hm, if_false, Nat.mul_assoc]
            rw [hr, Int.natCast_mul, Int.mul_assoc, Int.add_assoc]
      · rw [if_neg e]
        by_cases e1 : n = 1
        · rw [if_pos e1, e1, h1]
        · rw [if_neg e1]
mutual
theorem mea_tid : ∀ j : J, mea (tid j) = mea j
  | .step i => rfl
  | .grp w xs => by
    obtain ⟨a, b, c, d⟩ := mea_tids xs
    simp only [tid, mea_grp]
    cases w <;> simp only [mea, steps, net, low, a, b, c, d]
  | .mul w n x => by
    have h := mea_tid x
    simp only [mea, Prod.mk.injEq] at h
    obtain ⟨a, b, c⟩ := h
    simp only [tid, mea_mul]
    cases w <;> simp only [mea, steps, net, low, a, b, c]
theorem mea_tids : ∀ xs : List J, stepss (tids xs) = stepss xs ∧ nets (tids xs) = nets xs ∧ lowsP (tids xs) = lowsP xs ∧ lowsS (tids xs) = lowsS xs
  | [] => ⟨rfl, rfl, rfl, rfl⟩
  | x :: xs => by
    have h := mea_tid x
    simp only [mea, Prod.mk.injEq] at h
    obtain ⟨a, b, c⟩ := h
    obtain ⟨d, e, f, g⟩ := mea_tids xs
    simp only [tids, stepss, nets, lowsP, lowsS, a, b, c, d, e, f, g, and_self]
end
theorem tid_steps (j : J) : steps (tid j) = steps j := congrArg (·.1) (mea_tid j)
theorem tid_net (j : J) : net (tid j) = net j := congrArg (·.2.1) (mea_tid j)
theorem tid_low (j : J) : low (tid j) = low j := congrArg (·.2.2) (mea_tid j)
end RP

/-! a tidy form is its own tidy form; its size -/
namespace RP
open PySem L2
def isMul (w : Bool) : J → Bool
  | .mul v _ _ => v == w
  | _ => false
mutual
def NF : J → Prop
  | .step _ => True
  | .grp false xs => xs = [] ∨ (2 ≤ xs.length ∧ NFs xs ∧ ∀ x ∈ xs, flat1 false x = [x])
  | .grp true xs => 2 ≤ xs.length ∧ NFs xs ∧ (∀ x ∈ xs, flat1 true x = [x]) ∧ (joinL xs).map ung = xs
  | .mul w n x => n ≠ 0 ∧ n ≠ 1 ∧ NF x ∧ x ≠ emp ∧ isMul w x = false
def NFs : List J → Prop
  | [] => True
  | x :: xs => NF x ∧ NFs xs
end
theorem NFs_iff : ∀ {xs : List J}, NFs xs ↔ ∀ x ∈ xs, NF x
  | [] => by simp [NFs]
  | x :: xs => by simp [NFs, NFs_iff (xs := xs)]
theorem flat_self {w : Bool} : ∀ {xs : List J}, (∀ x ∈ xs, flat1 w x = [x]) → xs.flatMap (flat1 w) = xs
  | [], _ => rfl
  | x :: xs, h => by rw [List.flatMap_cons, h x List.mem_cons_self, flat_self fun y hy => h y (List.mem_cons_of_mem _ hy)]; rfl
theorem wrap_two {w : Bool} {xs : List J} (h : 2 ≤ xs.length) : wrap w xs = .grp w xs := by
  match xs with
  | [] => simp at h
  | [_] => simp at h
  | _ :: _ :: _ => rfl
theorem tidM_nf {w : Bool} {n : Nat} {x : J} (n0 : n ≠ 0) (n1 : n ≠ 1) (he : x ≠ emp) (hm : isMul w x = false) : tidM w n x = .mul w n x := by
  unfold tidM
  rw [if_neg (by rintro (h | h); exact n0 h; exact he h)]
  cases x with
  | step i => simp only [n1, if_false]
  | grp v xs => simp only [n1, if_false]
  | mul v m y =>
    have : ¬ v = w := by simpa [isMul] using hm
    simp only [this, n1, if_false]
mutual
theorem tid_self : ∀ j : J, NF j → tid j = j
  | .step i, _ => rfl
  | .grp false xs, h => by
    rcases h with rfl | ⟨h2, hn, hf⟩
    · rfl
    · simp only [tid, tidG, tids_self xs hn, flat_self hf]
      exact wrap_two h2
  | .grp true xs, h => by
    obtain ⟨h2, hn, hf, hj⟩ := h
    simp only [tid, tidG, tids_self xs hn, flat_self hf, joined, if_true, hj]
    exact wrap_two h2
  | .mul w n x, h => by
    obtain ⟨n0, n1, hx, he, hm⟩ := h
    simp only [tid, tid_self x hx]
    exact tidM_nf n0 n1 he hm
theorem tids_self : ∀ xs : List J, NFs xs → tids xs = xs
  | [], _ => rfl
  | x :: xs, h => by simp only [tids, tid_self x h.1, tids_self xs h.2]
end
theorem nf_emp : NF emp := .inl rfl
theorem nf_tidM {w : Bool} {n : Nat} {x : J} (h : NF x) : NF (tidM w n x) := by
  unfold tidM
  by_cases c : n = 0 ∨ x = emp
  · rw [if_pos c]; exact nf_emp
  · rw [if_neg c]
    have n0 : n ≠ 0 := fun e => c (.inl e)
    have he : x ≠ emp := fun e => c (.inr e)
    cases x with
    | step i =>
      simp only
      by_cases e : n = 1
      · rw [if_pos e]; exact h
      · rw [if_neg e]; exact ⟨n0, e, h, he, rfl⟩
    | grp v xs =>
      simp only
      by_cases e : n = 1
      · rw [if_pos e]; exact h
      · rw [if_neg e]; exact ⟨n0, e, h, he, rfl⟩
    | mul v m y =>
      simp only
      obtain ⟨m0, m1, hy, hye, hym⟩ := h
      by_cases e : v = w
      · rw [if_pos e]
        subst e
        refine ⟨Nat.mul_ne_zero n0 m0, fun z => m1 (Nat.eq_one_of_mul_eq_one_left z), hy, hye, hym⟩
      · rw [if_neg e]
        by_cases e1 : n = 1
        · rw [if_pos e1]; exact ⟨m0, m1, hy, hye, hym⟩
        · rw [if_neg e1]
          exact ⟨n0, e1, ⟨m0, m1, hy, hye, hym⟩, he, by simpa [isMul] using e⟩
/-- what flattening leaves -/
theorem flat_nf {w : Bool} {x y : J} (h : NF x) (hy : y ∈ flat1 w x) : NF y ∧ flat1 w y = [y] := by
  cases x with
  | step i =>
    obtain rfl : y = .step i := by simpa [flat1] using hy
    exact ⟨h, rfl⟩
  | mul v n z =>
    obtain rfl : y = .mul v n z := by simpa [flat1] using hy
    exact ⟨h, rfl⟩
  | grp v xs =>
    by_cases e : v = w
    · subst e
      have hy' : y ∈ xs := by simpa [flat1] using hy
      cases v with
      | false =>
        rcases h with rfl | ⟨_, hn, hf⟩
        · simp at hy'
        · exact ⟨NFs_iff.mp hn y hy', hf y hy'⟩
      | true =>
        obtain ⟨_, hn, hf, _⟩ := h
        exact ⟨NFs_iff.mp hn y hy', hf y hy'⟩
    · have e2 : flat1 w (.grp v xs) = if J.grp v xs = emp then [] else [.grp v xs] := by simp only [flat1, e, if_false]
      by_cases c : J.grp v xs = emp
      · rw [e2, if_pos c] at hy; simp at hy
      · rw [e2, if_neg c] at hy
        obtain rfl : y = .grp v xs := by simpa using hy
        exact ⟨h, by rw [e2, if_neg c]⟩
theorem flats_nf {w : Bool} {xs : List J} {y : J} (h : ∀ x ∈ xs, NF x) (hy : y ∈ xs.flatMap (flat1 w)) : NF y ∧ flat1 w y = [y] := by
  obtain ⟨x, hx, hxy⟩ := List.mem_flatMap.mp hy
  exact flat_nf (h x hx) hxy
/-- what stands behind equal parts -/
structure Pg (q : Nat × J) : Prop where
  pos : 1 ≤ q.1
  nf : NF q.2
  ne : q.2 ≠ emp
  nm : isMul true q.2 = false
  fl : q.1 = 1 → flat1 true q.2 = [q.2]
theorem ne_emp {x : J} (h : flat1 true x = [x]) : x ≠ emp := by
  rintro rfl
  simp [flat1, emp] at h
theorem pg_cnt {y : J} (h : NF y) (f : flat1 true y = [y]) : Pg (cnt y) := by
  have hne := ne_emp f
  cases y with
  | step i => exact ⟨Nat.le_refl _, h, hne, rfl, fun _ => f⟩
  | grp v xs => exact ⟨Nat.le_refl _, h, hne, rfl, fun _ => f⟩
  | mul v n z =>
    cases v with
    | true =>
      obtain ⟨n0, n1, hz, hze, hzm⟩ := h
      exact ⟨show 1 ≤ n by omega, hz, hze, hzm, fun e => absurd e n1⟩
    | false => exact ⟨Nat.le_refl _, h, hne, rfl, fun _ => f⟩
theorem pg_join : ∀ {qs : List (Nat × J)} {p : Nat × J}, (∀ q ∈ qs, Pg q) → Pg p → ∀ q ∈ joinC qs p, Pg q
  | [], p, _, hp, q, hq => by
    obtain rfl : q = p := by simpa [joinC] using hq
    exact hp
  | r :: qs, p, hqs, hp, q, hq => by
    have hr := hqs r List.mem_cons_self
    have ht : ∀ q ∈ qs, Pg q := fun q hq => hqs q (List.mem_cons_of_mem _ hq)
    simp only [joinC] at hq
    by_cases e : r.2 = p.2
    · rw [if_pos e] at hq
      rcases List.mem_cons.mp hq with rfl | hq
      · have := hr.pos; have := hp.pos
        exact ⟨by show 1 ≤ r.1 + p.1; omega, hr.nf, hr.ne, hr.nm, fun z => by have : r.1 + p.1 = 1 := z; omega⟩
      · exact ht q hq
    · rw [if_neg e] at hq
      rcases List.mem_cons.mp hq with rfl | hq
      · exact hr
      · exact pg_join ht hp q hq
theorem pg_fold : ∀ {ps acc : List (Nat × J)}, (∀ q ∈ acc, Pg q) → (∀ q ∈ ps, Pg q) → ∀ q ∈ ps.foldl joinC acc, Pg q
  | [], acc, h, _ => h
  | p :: ps, acc, h, hp => pg_fold (ps := ps) (pg_join h (hp p List.mem_cons_self)) fun q hq => hp q (List.mem_cons_of_mem _ hq)
/-- the insides are different -/
def Dif (qs : List (Nat × J)) : Prop := qs.Pairwise fun a b => a.2 ≠ b.2
theorem mem_joinC : ∀ {qs : List (Nat × J)} {p q : Nat × J}, q ∈ joinC qs p → q.2 = p.2 ∨ ∃ r ∈ qs, r.2 = q.2
  | [], p, q, h => by
    obtain rfl : q = p := by simpa [joinC] using h
    exact .inl rfl
  | r :: qs, p, q, h => by
    simp only [joinC] at h
    by_cases e : r.2 = p.2
    · rw [if_pos e] at h
      rcases List.mem_cons.mp h with rfl | h
      · exact .inr ⟨r, List.mem_cons_self, rfl⟩
      · exact .inr ⟨q, List.mem_cons_of_mem _ h, rfl⟩
    · rw [if_neg e] at h
      rcases List.mem_cons.mp h with rfl | h
      · exact .inr ⟨q, List.mem_cons_self, rfl⟩
      · rcases mem_joinC h with h | ⟨r', h1, h2⟩
        · exact .inl h
        · exact .inr ⟨r', List.mem_cons_of_mem _ h1, h2⟩
theorem dif_join : ∀ {qs : List (Nat × J)} {p : Nat × J}, Dif qs → Dif (joinC qs p)
  | [], p, _ => List.pairwise_singleton _ _
  | r :: qs, p, h => by
    have h' := List.pairwise_cons.mp h
    simp only [joinC]
    by_cases e : r.2 = p.2
    · rw [if_pos e]
      exact List.pairwise_cons.mpr ⟨fun b hb => h'.1 b hb, h'.2⟩
    · rw [if_neg e]
      refine List.pairwise_cons.mpr ⟨fun b hb => ?_, dif_join h'.2⟩
      rcases mem_joinC hb with z | ⟨r', h1, h2⟩
      · rw [z]; exact e
      · rw [← h2]; exact h'.1 r' h1
theorem dif_fold : ∀ {ps acc : List (Nat × J)}, Dif acc → Dif (ps.foldl joinC acc)
  | [], _, h => h
  | p :: ps, acc, h => dif_fold (ps := ps) (dif_join h)
theorem joinC_new : ∀ {qs : List (Nat × J)} {p : Nat × J}, (∀ q ∈ qs, q.2 ≠ p.2) → joinC qs p = qs ++ [p]
  | [], _, _ => rfl
  | r :: qs, p, h => by
    simp only [joinC]
    rw [if_neg (h r List.mem_cons_self), joinC_new fun q hq => h q (List.mem_cons_of_mem _ hq)]; rfl
theorem fold_dif : ∀ {ps acc : List (Nat × J)}, Dif (acc ++ ps) → ps.foldl joinC acc = acc ++ ps
  | [], acc, _ => by simp
  | p :: ps, acc, h => by
    have h1 : ∀ q ∈ acc, q.2 ≠ p.2 := fun q hq => (List.pairwise_append.mp h).2.2 q hq p List.mem_cons_self
    rw [List.foldl_cons, joinC_new h1, fold_dif (by rw [List.append_assoc]; exact h), List.append_assoc]; rfl
theorem cnt_ung {q : Nat × J} (h : Pg q) : cnt (ung q) = q := by
  obtain ⟨n, x⟩ := q
  unfold ung
  by_cases e : n = 1
  · subst e
    simp only [if_true]
    have hm := h.nm
    cases x with
    | step i => rfl
    | grp v xs => rfl
    | mul v m y => cases v with
      | true => cases hm
      | false => rfl
  · simp only [e, if_false]; rfl
theorem cnts_ung : ∀ {qs : List (Nat × J)}, (∀ q ∈ qs, Pg q) → (qs.map ung).map cnt = qs
  | [], _ => rfl
  | q :: qs, h => by rw [List.map_cons, List.map_cons, cnt_ung (h q List.mem_cons_self), cnts_ung fun r hr => h r (List.mem_cons_of_mem _ hr)]
theorem nf_ung {q : Nat × J} (h : Pg q) : NF (ung q) ∧ flat1 true (ung q) = [ung q] := by
  unfold ung
  by_cases e : q.1 = 1
  · rw [if_pos e]; exact ⟨h.nf, h.fl e⟩
  · rw [if_neg e]
    have := h.pos
    exact ⟨⟨by omega, e, h.nf, h.ne, h.nm⟩, rfl⟩
theorem nf_joined {w : Bool} {ys : List J} (h : ∀ y ∈ ys, NF y ∧ flat1 w y = [y]) : (∀ y ∈ joined w ys, NF y ∧ flat1 w y = [y]) ∧ (w = true → (joinL (joined w ys)).map ung = joined w ys) := by
  cases w with
  | false => exact ⟨h, fun e => nomatch e⟩
  | true =>
    have pg : ∀ q ∈ joinL ys, Pg q := pg_fold (fun q hq => nomatch hq) fun q hq => by
      obtain ⟨y, hy, rfl⟩ := List.mem_map.mp hq
      exact pg_cnt (h y hy).1 (h y hy).2
    have df : Dif (joinL ys) := dif_fold List.Pairwise.nil
    refine ⟨fun y hy => ?_, fun _ => ?_⟩
    · obtain ⟨q, hq, rfl⟩ := List.mem_map.mp (show y ∈ (joinL ys).map ung from hy)
      exact nf_ung (pg q hq)
    · show (joinL ((joinL ys).map ung)).map ung = (joinL ys).map ung
      have : joinL ((joinL ys).map ung) = joinL ys := by
        rw [joinL, cnts_ung pg, fold_dif (acc := []) (by simpa using df)]; simp
      rw [this]
theorem nf_tidG {w : Bool} {xs : List J} (h : ∀ x ∈ xs, NF x) : NF (tidG w xs) := by
  obtain ⟨a, b⟩ := nf_joined (w := w) (ys := xs.flatMap (flat1 w)) fun y hy => flats_nf h hy
  unfold tidG
  match e : joined w (xs.flatMap (flat1 w)) with
  | [] => exact nf_emp
  | [z] => exact (a z (by rw [e]; exact List.mem_cons_self)).1
  | z :: y :: zs =>
    rw [e] at a b
    have hn : NFs (z :: y :: zs) := NFs_iff.mpr fun x hx => (a x hx).1
    cases w with
    | false => exact .inr ⟨by simp, hn, fun x hx => (a x hx).2⟩
    | true => exact ⟨by simp, hn, fun x hx => (a x hx).2, b rfl⟩
mutual
theorem nf_tid : ∀ j : J, NF (tid j)
  | .step i => trivial
  | .grp w xs => nf_tidG (nf_tids xs)
  | .mul w n x => nf_tidM (nf_tid x)
theorem nf_tids : ∀ xs : List J, ∀ x ∈ tids xs, NF x
  | [], x, h => nomatch h
  | y :: ys, x, h => by
    rcases List.mem_cons.mp (show x ∈ tid y :: tids ys from h) with rfl | h
    · exact nf_tid y
    · exact nf_tids ys x h
end
theorem tid_tid (j : J) : tid (tid j) = tid j := tid_self _ (nf_tid j)
/-! ### sizes -/
theorem flat_nodes (w : Bool) (x : J) : nodess (flat1 w x) ≤ nodes x := by
  cases x with
  | step i => simp [flat1, nodess]
  | mul v n y => simp [flat1, nodess]
  | grp v xs =>
    simp only [flat1]
    by_cases e : v = w
    · rw [if_pos e]; simp only [nodes]; omega
    · rw [if_neg e]
      by_cases c : J.grp v xs = emp
      · rw [if_pos c]; simp [nodess]
      · rw [if_neg c]; simp [nodess]
theorem nodess_app : ∀ xs ys : List J, nodess (xs ++ ys) = nodess xs + nodess ys
  | [], ys => by simp [nodess]
  | x :: xs, ys => by simp only [List.cons_append, nodess, nodess_app xs ys]; omega
theorem flats_nodes (w : Bool) : ∀ xs : List J, nodess (xs.flatMap (flat1 w)) ≤ nodess xs
  | [] => Nat.le_refl _
  | x :: xs => by
    have := flat_nodes w x
    have := flats_nodes w xs
    simp only [List.flatMap_cons, nodess_app, nodess]; omega
/-- the places that counted parts take -/
def nc (q : Nat × J) : Nat := if q.1 = 1 then nodes q.2 else 1 + nodes q.2
def ncs : List (Nat × J) → Nat
  | [] => 0
  | q :: qs => nc q + ncs qs
theorem nc_ge (q : Nat × J) : nodes q.2 ≤ nc q ∧ nc q ≤ 1 + nodes q.2 := by
  unfold nc
  split <;> omega
theorem ncs_join : ∀ (qs : List (Nat × J)) (p : Nat × J), ncs (joinC qs p) ≤ ncs qs + nc p
  | [], p => by simp [joinC, ncs]
  | q :: qs, p => by
    simp only [joinC]
    by_cases e : q.2 = p.2
    · rw [if_pos e]
      have a := nc_ge q
      have b := nc_ge p
      have c := nc_ge (q.1 + p.1, q.2)
      have d := nodes_pos q.2
      have e2 : nodes p.2 = nodes q.2 := by rw [e]
      simp only [ncs]
      simp only at c
      omega
    · rw [if_neg e]
      have := ncs_join qs p
      simp only [ncs]; omega
theorem ncs_fold : ∀ (ps acc : List (Nat × J)), ncs (ps.foldl joinC acc) ≤ ncs acc + ncs ps
  | [], acc => by simp [ncs]
  | p :: ps, acc => by
    have := ncs_fold ps (joinC acc p)
    have := ncs_join acc p
    simp only [List.foldl_cons, ncs]; omega
theorem nc_cnt (x : J) : nc (cnt x) ≤ nodes x := by
  cases x with
  | step i => simp [cnt, nc]
  | grp w xs => simp [cnt, nc]
  | mul w n y => cases w with
    | true =>
      have := (nc_ge (n, y)).2
      simp only [cnt, nodes]; simp only at this; omega
    | false => simp [cnt, nc]
theorem ncs_cnts : ∀ xs : List J, ncs (xs.map cnt) ≤ nodess xs
  | [] => Nat.le_refl _
  | x :: xs => by
    have := nc_cnt x
    have := ncs_cnts xs
    simp only [List.map_cons, ncs, nodess]; omega
theorem nodes_ung (q : Nat × J) : nodes (ung q) = nc q := by
  unfold ung nc
  by_cases e : q.1 = 1
  · rw [if_pos e, if_pos e]
  · rw [if_neg e, if_neg e]; rfl
theorem nodess_ungs : ∀ qs : List (Nat × J), nodess (qs.map ung) = ncs qs
  | [] => rfl
  | q :: qs => by simp only [List.map_cons, nodess, nodes_ung, nodess_ungs qs, ncs]
theorem joined_nodes (w : Bool) (ys : List J) : nodess (joined w ys) ≤ nodess ys := by
  cases w with
  | false => exact Nat.le_refl _
  | true =>
    show nodess ((joinL ys).map ung) ≤ _
    rw [nodess_ungs, joinL]
    have a := ncs_fold (ys.map cnt) []
    have b := ncs_cnts ys
    have c : ncs [] = 0 := rfl
    omega
theorem wrap_nodes (w : Bool) (zs : List J) : nodes (wrap w zs) ≤ 1 + nodess zs := by
  match zs with
  | [] => simp [wrap, emp, nodes, nodess]
  | [z] => simp only [wrap, nodess]; omega
  | z :: y :: zs => exact Nat.le_refl _
theorem tidM_nodes (w : Bool) (n : Nat) (x : J) : nodes (tidM w n x) ≤ 1 + nodes x := by
  have := nodes_pos x
  unfold tidM
  by_cases c : n = 0 ∨ x = emp
  · rw [if_pos c]; simp [emp, nodes, nodess]
  · rw [if_neg c]
    cases x with
    | step i => simp only; split <;> simp [nodes]
    | grp v xs => simp only; split <;> simp [nodes]
    | mul v m y => simp only; split <;> (try split) <;> simp only [nodes] <;> omega
mutual
theorem tid_nodes : ∀ j : J, nodes (tid j) ≤ nodes j
  | .step i => Nat.le_refl _
  | .grp w xs => by
    have a := wrap_nodes w (joined w ((tids xs).flatMap (flat1 w)))
    have b := joined_nodes w ((tids xs).flatMap (flat1 w))
    have c := flats_nodes w (tids xs)
    have d := tids_nodes xs
    simp only [tid, tidG, nodes]; omega
  | .mul w n x => by
    have := tidM_nodes w n (tid x)
    have := tid_nodes x
    simp only [tid, nodes]; omega
theorem tids_nodes : ∀ xs : List J, nodess (tids xs) ≤ nodess xs
  | [] => Nat.le_refl _
  | x :: xs => by
    have := tid_nodes x
    have := tids_nodes xs
    simp only [tids, nodess]; omega
end
/-! ### depth -/
theorem deps_le {k : Nat} : ∀ {xs : List J}, deps xs ≤ k ↔ ∀ x ∈ xs, dep x ≤ k
  | [] => by simp [deps]
  | x :: xs => by
    simp only [deps, List.mem_cons, forall_eq_or_imp, ← deps_le (xs := xs)]
    omega
theorem flat_dep {w : Bool} {x y : J} (h : y ∈ flat1 w x) : dep y ≤ dep x := by
  cases x with
  | step i => obtain rfl : y = .step i := by simpa [flat1] using h
              exact Nat.le_refl _
  | mul v n z => obtain rfl : y = .mul v n z := by simpa [flat1] using h
                 exact Nat.le_refl _
  | grp v xs =>
    simp only [flat1] at h
    by_cases e : v = w
    · rw [if_pos e] at h
      have := deps_le.mp (Nat.le_refl (deps xs)) y h
      simp only [dep]; omega
    · rw [if_neg e] at h
      by_cases c : J.grp v xs = emp
      · rw [if_pos c] at h; simp at h
      · rw [if_neg c] at h
        obtain rfl : y = .grp v xs := by simpa using h
        exact Nat.le_refl _
theorem cnt_dep (x : J) : dep (cnt x).2 ≤ dep x := by
  cases x with
  | step i => exact Nat.le_refl _
  | grp w xs => exact Nat.le_refl _
  | mul w n y => cases w with
    | true => simp only [cnt, dep]; omega
    | false => exact Nat.le_refl _
theorem fold_dep {k : Nat} : ∀ {ps acc : List (Nat × J)}, (∀ q ∈ acc, dep q.2 ≤ k) → (∀ q ∈ ps, dep q.2 ≤ k) → ∀ q ∈ ps.foldl joinC acc, dep q.2 ≤ k
  | [], acc, h, _ => h
  | p :: ps, acc, h, hp => fold_dep (ps := ps) (fun q hq => by
      rcases mem_joinC hq with z | ⟨r, h1, h2⟩
      · rw [z]; exact hp p List.mem_cons_self
      · rw [← h2]; exact h r h1) fun q hq => hp q (List.mem_cons_of_mem _ hq)
theorem joined_dep {w : Bool} {k : Nat} {ys : List J} (h : ∀ y ∈ ys, dep y ≤ k) : ∀ z ∈ joined w ys, dep z ≤ k + 1 := by
  cases w with
  | false => exact fun z hz => Nat.le_succ_of_le (h z hz)
  | true =>
    intro z hz
    obtain ⟨q, hq, rfl⟩ := List.mem_map.mp (show z ∈ (joinL ys).map ung from hz)
    have := fold_dep (acc := []) (fun q hq => nomatch hq) (fun q hq => by
      obtain ⟨y, hy, rfl⟩ := List.mem_map.mp hq
      exact Nat.le_trans (cnt_dep y) (h y hy)) q hq
    unfold ung
    by_cases e : q.1 = 1
    · rw [if_pos e]; omega
    · rw [if_neg e]; simp only [dep]; omega
theorem wrap_dep {w : Bool} {k : Nat} {zs : List J} (h : ∀ z ∈ zs, dep z ≤ k) : dep (wrap w zs) ≤ k + 1 := by
  match zs with
  | [] => simp [wrap, emp, dep, deps]
  | [z] => have := h z List.mem_cons_self; simp only [wrap]; omega
  | z :: y :: zs =>
    have := deps_le.mpr h
    simp only [wrap, dep]; omega
mutual
theorem tid_dep : ∀ j : J, dep (tid j) ≤ 2 * dep j
  | .step i => by simp [tid, dep]
  | .grp w xs => by
    have h := tids_dep xs
    have a := joined_dep (w := w) (ys := (tids xs).flatMap (flat1 w)) (k := 2 * deps xs) fun y hy => by
      obtain ⟨x, hx, hxy⟩ := List.mem_flatMap.mp hy
      exact Nat.le_trans (flat_dep hxy) (h x hx)
    have b := wrap_dep (w := w) a
    simp only [tid, tidG, dep]; omega
  | .mul w n x => by
    have h := tid_dep x
    have hp : 1 ≤ dep x := by cases x <;> simp [dep] <;> omega
    simp only [tid]
    unfold tidM
    by_cases c : n = 0 ∨ tid x = emp
    · rw [if_pos c]; simp only [emp, dep, deps]; omega
    · rw [if_neg c]
      cases e : tid x with
      | step i => rw [e] at h; simp only; split <;> simp only [dep] at h ⊢ <;> omega
      | grp v xs => rw [e] at h; simp only; split <;> simp only [dep] at h ⊢ <;> omega
      | mul v m y => rw [e] at h; simp only; split <;> (try split) <;> simp only [dep] at h ⊢ <;> omega
theorem tids_dep : ∀ xs : List J, ∀ x ∈ tids xs, dep x ≤ 2 * deps xs
  | [], x, h => nomatch h
  | y :: ys, x, h => by
    rcases List.mem_cons.mp (show x ∈ tid y :: tids ys from h) with rfl | h
    · have := tid_dep y; simp only [deps]; omega
    · have := tids_dep ys x h; simp only [deps]; omega
end
/-! ### nothing is empty -/
mutual
theorem nf_steps : ∀ j : J, NF j → j ≠ emp → 1 ≤ steps j
  | .step i, _, _ => Nat.le_refl _
  | .grp false xs, h, he => by
    rcases h with rfl | ⟨h2, hn, hf⟩
    · exact absurd rfl he
    · cases xs with
      | nil => simp at h2
      | cons x xs =>
        have := nf_steps x hn.1 (by
          rintro rfl
          have := hf emp List.mem_cons_self
          simp [flat1, emp] at this)
        simp only [steps, stepss]; omega
  | .grp true xs, h, he => by
    obtain ⟨h2, hn, hf, _⟩ := h
    cases xs with
    | nil => simp at h2
    | cons x xs =>
      have := nf_steps x hn.1 (ne_emp (hf x List.mem_cons_self))
      simp only [steps, stepss]; omega
  | .mul w n x, h, _ => by
    obtain ⟨n0, n1, hx, hxe, _⟩ := h
    have := nf_steps x hx hxe
    simp only [steps]
    exact Nat.mul_pos (by omega) this
end
end RP

/-! jobs compared and sought in lists, by the machine -/
namespace RP
open PySem L2
mutual
theorem enc_depth : ∀ j : J, (pyP (enc j)).depth ≤ 2 * dep j
  | .step i => by simp [enc, pyP, PyData.depth]
  | .grp w xs => by
    have := encs_depth xs
    simp only [enc, pyP, pyPs, PyData.depth, PyData.depthAll, dep]; omega
  | .mul w n x => by
    have := enc_depth x
    simp only [enc, pyP, pyPs, PyData.depth, PyData.depthAll, dep]; omega
theorem encs_depth : ∀ xs : List J, PyData.depthAll (pyPs (encs xs)) ≤ 2 * deps xs
  | [] => by simp [encs, pyPs, PyData.depthAll]
  | x :: xs => by
    have := enc_depth x
    have := encs_depth xs
    simp only [encs, pyPs, PyData.depthAll, deps]; omega
end
theorem eqD_enc {a b : J} {st : Sto} (h : dep a ≤ 30 ∨ dep b ≤ 30) : eqD (enc a) (enc b) st = some (decide (a = b)) := by
  have e : eqD (enc a) (enc b) st = eqP (enc a) (enc b) st := by cases a <;> cases b <;> rfl
  have t1 := toPy_of (enc_top a) st
  have t2 := toPy_of (enc_top b) st
  have l1 := pur_lay _ (enc_pur a)
  have l2 := pur_lay _ (enc_pur b)
  have d1 := enc_depth a
  have d2 := enc_depth b
  rw [e]
  unfold eqP
  rw [t1, t2]
  simp only
  rw [if_pos ⟨l1, l2, by omega⟩, eqv_enc, eqJ_dec]
theorem eq_enc {a b : J} {st : Sto} (h : dep a ≤ 30 ∨ dep b ≤ 30) : cmp .eq (enc a) (enc b) st = .ok (.bl (decide (a = b))) st := by
  show ofB (eqD (enc a) (enc b) st) st = _
  rw [eqD_enc h]; rfl
theorem ne_enc {a b : J} {st : Sto} (h : dep a ≤ 30 ∨ dep b ≤ 30) : cmp .ne (enc a) (enc b) st = .ok (.bl (!decide (a = b))) st := by
  show ofB ((eqD (enc a) (enc b) st).map not) st = _
  rw [eqD_enc h]; rfl
theorem flat_enc (j : J) : flat (enc j) = isStep j := by cases j <;> rfl
theorem eqF_enc {a b : J} (ha : isStep a = true) (hb : isStep b = true) : eqF (enc a) (enc b) = decide (a = b) := by
  cases a <;> cases b <;> first | cases ha; done | cases hb; done | skip
  rename_i i j
  simp only [enc, eqF, J.step.injEq]
  first | rfl | (by_cases h : i = j <;> simp [h])
theorem toPy_ref {n : Nat} {ys : List J} {st : Sto} (h : st[n]? = some (.lst (ys.map enc))) : toPy st (.ref n) = some (.list (pyPs (encs ys))) := by
  show rdN st 4 n = _
  have t : tops (encs ys) = 0 := encs_top ys
  rw [← encs_map] at h
  simp only [rdN, h]
  show (pysW (rdN st 3) (encs ys)).map PyData.list = _
  rw [pys_of _ t]; rfl
theorem shaped_enc {a : J} (h : dep a ≤ 30) : SeqAt.shaped (pyP (enc a)) = true := by
  unfold SeqAt.shaped
  have := enc_depth a
  rw [pur_lay _ (enc_pur a), Bool.true_and]
  exact decide_eq_true (by omega)
theorem shaped_encs {ys : List J} (h : ∀ y ∈ ys, dep y ≤ 30) : SeqAt.shaped (.list (pyPs (encs ys))) = true := by
  unfold SeqAt.shaped
  have a := encs_depth ys
  have b := deps_le.mpr h
  have l : (PyData.list (pyPs (encs ys))).canLay0 = true := by simp only [PyData.canLay0]; exact purs_lay _ (encs_pur ys)
  rw [l, Bool.true_and]
  simp only [PyData.depth]
  exact decide_eq_true (by omega)
theorem any_enc (a : J) : ∀ ys : List J, ((pyPs (encs ys)).any fun z => PyData.eqv z (pyP (enc a))) = decide (a ∈ ys)
  | [] => by simp [encs, pyPs]
  | y :: ys => by
    simp only [encs, pyPs, List.any_cons, eqv_enc, any_enc a ys, eqJ_dec]
    by_cases h : y = a
    · subst h; simp
    · have : ¬ a = y := fun e => h e.symm
      simp [h, this]
theorem any_flat {a : J} (ha : isStep a = true) : ∀ {ys : List J}, (ys.map enc).all flat = true → ((ys.map enc).any fun y => eqF y (enc a)) = decide (a ∈ ys)
  | [], _ => by simp
  | y :: ys, h => by
    simp only [List.map_cons, List.all_cons, Bool.and_eq_true, flat_enc] at h
    simp only [List.map_cons, List.any_cons, eqF_enc h.1 ha, any_flat ha (ys := ys) h.2]
    by_cases e : y = a
    · subst e; simp
    · have : ¬ a = y := fun z => e z.symm
      simp [e, this]
theorem notin_enc {a : J} {ys : List J} {n : Nat} {st : Sto} (h : st[n]? = some (.lst (ys.map enc))) (ha : dep a ≤ 30) (hy : ∀ y ∈ ys, dep y ≤ 30) : cmp .notin (enc a) (.ref n) st = .ok (.bl (!decide (a ∈ ys))) st := by
  have e : inD (enc a) (.ref n) st = some (decide (a ∈ ys)) := by
    have sq : seqOf (.ref n) st = some (ys.map enc) := by simp only [seqOf, h, Option.map_some]; rfl
    unfold inD
    rw [sq]
    simp only
    by_cases c : (flat (enc a) && (ys.map enc).all flat) = true
    · rw [if_pos c]
      simp only [Bool.and_eq_true, flat_enc] at c
      rw [any_flat c.1 c.2]
    · rw [if_neg c]
      simp only [inP, toPy_of (enc_top a) st, toPy_ref h, shaped_enc ha, shaped_encs hy, and_self, if_true, any_enc]
  show ofB ((inD (enc a) (.ref n) st).map not) st = _
  rw [e]; rfl
/-- the first place -/
def ixJ (a : J) : List J → Option Nat
  | [] => none
  | y :: ys => if y = a then some 0 else (ixJ a ys).map (· + 1)
theorem ixJ_mem {a : J} : ∀ {ys : List J}, a ∈ ys → ∃ i, ixJ a ys = some i ∧ i < ys.length
  | y :: ys, h => by
    by_cases e : y = a
    · exact ⟨0, by simp [ixJ, e], by simp⟩
    · rcases List.mem_cons.mp h with z | h
      · exact absurd z.symm e
      · obtain ⟨i, h1, h2⟩ := ixJ_mem h
        exact ⟨i + 1, by simp [ixJ, e, h1], by simp; omega⟩
theorem ixQ_enc (a : J) : ∀ ys : List J, ixQ (pyP (enc a)) (pyPs (encs ys)) = ixJ a ys
  | [] => rfl
  | y :: ys => by
    simp only [encs, pyPs, ixQ, ixJ, eqv_enc, eqJ_dec, ixQ_enc a ys, decide_eq_true_eq]
theorem ixF_enc {a : J} (ha : isStep a = true) : ∀ {ys : List J}, (ys.map enc).all flat = true → ixF (enc a) (ys.map enc) = ixJ a ys
  | [], _ => rfl
  | y :: ys, h => by
    simp only [List.map_cons, List.all_cons, Bool.and_eq_true, flat_enc] at h
    simp only [List.map_cons, ixF, ixJ, eqF_enc h.1 ha, ixF_enc ha (ys := ys) h.2, decide_eq_true_eq]
theorem index_enc {a : J} {ys : List J} {n i : Nat} {st : Sto} (h : st[n]? = some (.lst (ys.map enc))) (ha : dep a ≤ 30) (hy : ∀ y ∈ ys, dep y ≤ 30) (hi : ixJ a ys = some i) : mt .index (.ref n) [enc a] st = .ok (.int (i : Int)) st := by
  have lo : lstOf (.ref n) st = some (ys.map enc) := by simp only [lstOf, h, Option.map_some]; rfl
  simp only [mt, lo]
  by_cases c : (flat (enc a) && (ys.map enc).all flat) = true
  · rw [if_pos c]
    simp only [Bool.and_eq_true, flat_enc] at c
    rw [ixF_enc c.1 c.2, hi]
  · rw [if_neg c]
    unfold ixP
    rw [toPy_of (enc_top a) st, toPy_ref h]
    simp only
    rw [if_pos ⟨shaped_enc ha, shaped_encs hy⟩, ixQ_enc, hi]
/-! ### a comprehension whose list is shared -/
theorem comp_run {tg : D → Env → Sto → Res Env} {cnd elt : Env → Sto → Res D} {src : Src} {env : Env} {st : Sto} {α : Type} {en : α → D} {g : α → D} (hs : ∀ acc, still src (st ++ [.lst acc]) = true) : ∀ (xs : List α) (acc : List D), acc.length + xs.length ≤ sizeLine →
    (∀ x ∈ xs, ∀ acc, ∃ e1, tg (en x) env (st ++ [.lst acc]) = .ok e1 (st ++ [.lst acc]) ∧ cnd e1 (st ++ [.lst acc]) = .ok (.bl true) (st ++ [.lst acc]) ∧ elt e1 (st ++ [.lst acc]) = .ok (g x) (st ++ [.lst acc])) →
    compLoop tg cnd elt src st.length env (xs.map en) (st ++ [.lst acc]) = .ok () (st ++ [.lst (acc ++ xs.map g)])
  | [], acc, _, _ => by simp only [List.map_nil, compLoop, hs, if_true, List.append_nil]
  | x :: xs, acc, hl, h => by
    obtain ⟨e1, h1, h2, h3⟩ := h x List.mem_cons_self acc
    simp only [List.length_cons] at hl
    have e : setL st.length (fun zs => some (zs ++ [g x])) (st ++ [.lst acc]) = some (st ++ [.lst (acc ++ [g x])]) := by
      simp only [setL, get_last, List.length_append, List.length_cons, List.length_nil]
      rw [if_pos (by omega)]
      simp
    have tr : trim (st.length + 1) 0 (st ++ [.lst (acc ++ [g x])]) = st ++ [.lst (acc ++ [g x])] := by
      unfold RP.trim
      split
      · rw [List.take_of_length_le (by simp)]
      · rfl
    simp only [List.map_cons, compLoop, hs, if_true, h1, Res.bind_ok, h2, tru_bl, br_some, h3, e, tr]
    rw [comp_run hs xs (acc ++ [g x]) (by simp only [List.length_append, List.length_cons, List.length_nil]; omega) fun y hy => h y (List.mem_cons_of_mem _ hy)]
    simp only [List.append_assoc, List.cons_append, List.nil_append]
theorem still_r1 {n : Nat} {xs : List D} {st : Sto} (h : st[n]? = some (.lst xs)) : still [(n, xs)] st = true := by
  simp only [still, h, Bool.and_true]
  exact sames_self _
theorem still_r2 {n m : Nat} {xs ys : List D} {st : Sto} (h : st[n]? = some (.lst xs)) (k : st[m]? = some (.lst ys)) : still [(n, xs), (m, ys)] st = true := by
  simp only [still, h, k, Bool.and_true, Bool.and_eq_true]
  exact ⟨sames_self _, sames_self _⟩
/-! ### counting -/
theorem join_new {qs : List (Nat × J)} {p : Nat × J} (h : ¬ p.2 ∈ qs.map (·.2)) : joinC qs p = qs ++ [p] := joinC_new fun q hq e => h (List.mem_map.mpr ⟨q, hq, e⟩)
theorem join_old : ∀ {qs : List (Nat × J)} {p : Nat × J} {i : Nat}, ixJ p.2 (qs.map (·.2)) = some i → (joinC qs p).map (·.2) = qs.map (·.2) ∧ ∃ c : Nat, (qs.map fun q => D.int (q.1 : Int))[i]? = some (.int (c : Int)) ∧ (joinC qs p).map (fun q => D.int (q.1 : Int)) = (qs.map fun q => D.int (q.1 : Int)).set i (.int ((c + p.1 : Nat) : Int))
  | [], p, i, h => by simp [ixJ] at h
  | q :: qs, p, i, h => by
    simp only [List.map_cons, ixJ] at h
    simp only [joinC]
    by_cases e : q.2 = p.2
    · rw [if_pos e] at h
      cases h
      rw [if_pos e]
      exact ⟨rfl, q.1, rfl, rfl⟩
    · rw [if_neg e] at h
      obtain ⟨k, hk, rfl⟩ := Option.map_eq_some_iff.mp h
      obtain ⟨h1, c, h2, h3⟩ := join_old hk
      rw [if_neg e]
      exact ⟨by simp only [List.map_cons, h1], c, by simpa using h2, by simp only [List.map_cons, h3, List.set_cons_succ]⟩
end RP

namespace Qk05
open PySem L2 RP
def topS (i : Nat) : Stmt := PySem.Challenge.pw_roomprofile_k05_tidy_jobs.main.body.getD i (.Pass ⟨0, 0, 0, 0⟩)
def b4f0 : Ss := (.cons (.asg (.nm 5) (.call 3 (.cons (.v 4) (.cons (.bin .sub (.v 1) (.k (.int (1)))) .nil)))) (.cons (.ife (.cmp .isN (.v 5) (.k (.non))) (.cons (.ret (.k (.non))) .nil) .nil) (.cons (.two 2 3 (.bin .add (.v 2) (.ix (.v 5) (.k (.int (0))))) (.bin .add (.v 3) (.ix (.v 5) (.k (.int (1)))))) (.cons (.ife (.or (.cmp .gt (.v 2) (.g 3)) (.cmp .gt (.v 3) (.g 1))) (.cons (.ret (.k (.non))) .nil) .nil) .nil))))
def b8c0 : E := (.call 8 (.cons (.v 1) .nil))
def b10c0 : E := (.call 10 (.cons (.v 1) .nil))
def b11f0 : Ss := (.cons (.asg (.nm 3) (.ife (.cmp .eq (.v 0) (.k (.str "par"))) (.bin .add (.v 3) (.v 5)) (.bi .min (.cons (.v 3) (.cons (.bin .add (.v 2) (.v 5)) .nil))))) (.cons (.aug 2 .add (.v 4)) .nil))
def b16f0 : Ss := (.cons (.asg (.two (.nm 4) (.nm 5)) (.ife (.and (.call 2 (.cons (.v 3) .nil)) (.cmp .eq (.ix (.v 3) (.k (.int (0)))) (.k (.str "copies")))) (.sl (.v 3) (.k (.int (1))) (.k (.non))) (.tup (.cons (.k (.int (1))) (.cons (.v 3) .nil))))) (.cons (.ife (.cmp .notin (.v 5) (.v 1)) (.cons (.ex (.mt .append (.v 1) (.cons (.v 5) .nil))) (.cons (.ex (.mt .append (.v 2) (.cons (.k (.int (0))) .nil))) .nil)) .nil) (.cons (.augIx (.v 2) (.mt .index (.v 1) (.cons (.v 5) .nil)) .add (.v 4)) .nil)))
def b16c0 : E := (.ife (.cmp .eq (.v 4) (.k (.int (1)))) (.v 5) (.tup (.cons (.k (.str "copies")) (.cons (.v 4) (.cons (.v 5) .nil)))))
def b17f0 : Ss := (.cons (.ife (.and (.call 2 (.cons (.v 3) .nil)) (.cmp .eq (.ix (.v 3) (.k (.int (0)))) (.v 0))) (.cons (.ex (.mt .extend (.v 2) (.cons (.ix (.v 3) (.k (.int (1)))) .nil))) .nil) (.cons (.ife (.cmp .ne (.v 3) (.g 7)) (.cons (.ex (.mt .append (.v 2) (.cons (.v 3) .nil))) .nil) .nil) .nil)) .nil)
def b18c0 : E := (.call 18 (.cons (.v 1) .nil))
def b24c0 : E := (.call 23 (.cons (.v 0) .nil))
def b24c1 : E := (.call 24 (.cons (.v 0) (.cons (.bin .sub (.v 1) (.k (.int (1)))) (.cons (.v 2) .nil))))
def b25c0 : E := (.v 6)
def b25f0 : Ss := (.cons (.asg (.two (.nm 3) (.nm 4)) (.tup (.cons (.k (.int (1))) (.cons (.v 2) .nil)))) (.cons (.ife (.and (.isi (.v 2) .tuple) (.cmp .eq (.ix (.v 2) (.k (.int (0)))) (.k (.str "copies")))) (.cons (.asg (.two (.nm 3) (.nm 4)) (.tup (.cons (.ix (.v 2) (.k (.int (1)))) (.cons (.ix (.v 2) (.k (.int (2)))) .nil)))) .nil) .nil) (.cons (.asg (.nm 5) (.lc (.nm 6) (.rng (.k (.int (0))) (.bi .len (.cons (.v 1) .nil))) (.cmp .eq (.ix (.ix (.v 1) (.v 6)) (.k (.int (1)))) (.v 4)) b25c0)) (.cons (.ife (.cmp .eq (.v 5) (.lst false .nil)) (.cons (.ex (.mt .append (.v 1) (.cons (.lst false (.cons (.v 3) (.cons (.v 4) .nil))) .nil))) .nil) (.cons (.asg (.sub (.v 1) (.ix (.v 5) (.k (.int (0))))) (.lst false (.cons (.bin .add (.ix (.ix (.v 1) (.ix (.v 5) (.k (.int (0))))) (.k (.int (0)))) (.v 3)) (.cons (.v 4) .nil)))) .nil)) .nil))))
def b25c1 : E := (.ife (.cmp .eq (.v 3) (.k (.int (1)))) (.v 4) (.tup (.cons (.k (.str "copies")) (.cons (.v 3) (.cons (.v 4) .nil)))))
def b26c0 : E := (.call 26 (.cons (.v 4) .nil))
def b26f0 : Ss := (.cons (.ife (.and (.isi (.v 3) .tuple) (.cmp .eq (.ix (.v 3) (.k (.int (0)))) (.ix (.v 0) (.k (.int (0)))))) (.cons (.asg (.nm 2) (.bin .addM (.v 2) (.bi .list (.cons (.ix (.v 3) (.k (.int (1)))) .nil)))) .nil) (.cons (.ife (.cmp .ne (.v 3) (.tup (.cons (.k (.str "seq")) (.cons (.tup .nil) .nil)))) (.cons (.ex (.mt .append (.v 2) (.cons (.v 3) .nil))) .nil) .nil) .nil)) .nil)
def b27f0 : Ss := (.cons (.two 4 5 (.ix (.v 1) (.call 22 (.cons (.v 0) (.cons (.k (.int (5))) .nil)))) (.call 22 (.cons (.v 0) (.cons (.k (.int (4))) .nil)))) (.cons (.ex (.mt .append (.v 2) (.cons (.ix (.lst false (.cons (.v 4) (.cons (.tup (.cons (.k (.str "copies")) (.cons (.call 22 (.cons (.v 0) (.cons (.k (.int (4))) .nil))) (.cons (.v 4) .nil)))) (.cons (.tup (.cons (.k (.str "par")) (.cons (.tup (.cons (.v 4) (.cons (.ix (.v 1) (.k (.int (1)))) .nil))) .nil))) (.cons (.tup (.cons (.k (.str "seq")) (.cons (.tup (.cons (.v 4) .nil)) .nil))) .nil))))) (.v 5)) .nil))) .nil))
def b29f0 : Ss := (.cons (.asg (.nm 1) (.ife (.cmp .eq (.bin .mod (.bin .sub (.v 0) (.v 2)) (.k (.int (2)))) (.k (.int (1)))) (.tup (.cons (.k (.str "seq")) (.cons (.tup (.cons (.v 1) (.cons (.k (.int (1))) .nil))) .nil))) (.tup (.cons (.k (.str "par")) (.cons (.tup (.cons (.v 1) (.cons (.k (.int (2))) .nil))) .nil))))) .nil)
def b31f0 : Ss := (.cons (.two 5 6 (.bi .repr (.cons (.v 4) .nil)) (.call 26 (.cons (.v 4) .nil))) (.cons (.ife (.not (.call 6 (.cons (.v 6) .nil))) (.cons (.ife (.not (.call 28 (.cons (.v 4) .nil))) (.cons (.ret (.k (.bl false))) .nil) .nil) .nil) (.cons (.asg (.nm 7) (.call 20 (.cons (.v 4) .nil))) (.cons (.ife (.or (.cmp .ne (.bi .repr (.cons (.v 7) .nil)) (.bi .repr (.cons (.v 6) .nil))) (.or (.cmp .ne (.call 20 (.cons (.v 7) .nil)) (.v 7)) (.cmp .ne (.bi .repr (.cons (.v 4) .nil)) (.v 5)))) (.cons (.ret (.k (.bl false))) .nil) .nil) (.cons (.ife (.cmp .ne (.lst false (.cons (.call 9 (.cons (.v 7) .nil)) (.cons (.call 14 (.cons (.v 7) .nil)) (.cons (.call 15 (.cons (.v 7) .nil)) .nil)))) (.lst false (.cons (.call 9 (.cons (.v 4) .nil)) (.cons (.call 14 (.cons (.v 4) .nil)) (.cons (.call 15 (.cons (.v 4) .nil)) .nil))))) (.cons (.ret (.k (.bl false))) .nil) .nil) .nil)))) .nil))
def b31f1 : Ss := (.cons (.asg (.nm 2) (.call 21 (.cons (.v 0) (.cons (.v 1) .nil)))) (.cons (.asg (.nm 3) (.call 24 (.cons (.v 2) (.cons (.k (.int (5))) (.cons (.lst false (.cons (.k (.int (0))) (.cons (.k (.int (1))) (.cons (.k (.int (2))) (.cons (.k (.int (3))) (.cons (.bin .pow (.k (.int (10))) (.k (.int (12)))) (.cons (.k (.int (1))) .nil))))))) .nil))))) (.cons (.for_ (.nm 4) (.seq (.tup (.cons (.ife (.call 6 (.cons (.v 3) .nil)) (.v 3) (.tup (.cons (.k (.str "copies")) (.cons (.k (.int (2))) (.cons (.tup (.cons (.k (.str "copies")) (.cons (.bin .pow (.k (.int (10))) (.k (.int (9)))) (.cons (.tup (.cons (.k (.str "par")) (.cons (.tup (.cons (.k (.int (1))) (.cons (.k (.int (1))) .nil))) .nil))) .nil)))) .nil))))) (.cons (.call 27 (.cons (.v 2) .nil)) .nil)))) b31f0) .nil)))
/-- is_integer -/
def b0 : Ss := (.cons (.ret (.and (.isi (.v 0) .int) (.not (.isi (.v 0) .bool)))) .nil)
/-- is_between -/
def b1 : Ss := (.cons (.ret (.and (.call 0 (.cons (.v 0) .nil)) (.chain .le .le (.v 1) (.v 0) (.v 2)))) .nil)
/-- is_node -/
def b2 : Ss := (.cons (.ret (.isi (.v 0) .tuple)) .nil)
/-- measured -/
def b3 : Ss := (.cons (.ife (.cmp .eq (.v 1) (.k (.int (0)))) (.cons (.ret (.k (.non))) .nil) .nil) (.cons (.ife (.call 1 (.cons (.v 0) (.cons (.bin .sub (.k (.int (0))) (.g 0)) (.cons (.g 0) .nil)))) (.cons (.ret (.tup (.cons (.k (.int (1))) (.cons (.k (.int (1))) .nil)))) .nil) .nil) (.cons (.ife (.or (.not (.isi (.v 0) .tuple)) (.or (.cmp .eq (.v 0) (.tup .nil)) (.not (.isi (.ix (.v 0) (.k (.int (0)))) .str)))) (.cons (.ret (.k (.non))) .nil) .nil) (.cons (.ife (.and (.cmp .isin (.ix (.v 0) (.k (.int (0)))) (.g 5)) (.cmp .eq (.bi .len (.cons (.v 0) .nil)) (.k (.int (2))))) (.cons (.ret (.call 4 (.cons (.ix (.v 0) (.k (.int (1)))) (.cons (.v 1) .nil)))) .nil) .nil) (.cons (.ife (.and (.cmp .isin (.ix (.v 0) (.k (.int (0)))) (.g 6)) (.cmp .eq (.bi .len (.cons (.v 0) .nil)) (.k (.int (3))))) (.cons (.ret (.call 5 (.cons (.ix (.v 0) (.k (.int (1)))) (.cons (.ix (.v 0) (.k (.int (2)))) (.cons (.v 1) .nil))))) .nil) .nil) (.cons (.ret (.k (.non))) .nil))))))
/-- measured_parts -/
def b4 : Ss := (.cons (.ife (.or (.not (.isi (.v 0) .tuple)) (.cmp .gt (.bi .len (.cons (.v 0) .nil)) (.g 2))) (.cons (.ret (.k (.non))) .nil) .nil) (.cons (.asg (.two (.nm 2) (.nm 3)) (.tup (.cons (.k (.int (1))) (.cons (.k (.int (0))) .nil)))) (.cons (.for_ (.nm 4) (.seq (.v 0)) b4f0) (.cons (.ret (.tup (.cons (.v 2) (.cons (.v 3) .nil)))) .nil))))
/-- measured_multiple -/
def b5 : Ss := (.cons (.ife (.not (.call 1 (.cons (.v 0) (.cons (.k (.int (0))) (.cons (.g 1) .nil))))) (.cons (.ret (.k (.non))) .nil) .nil) (.cons (.asg (.nm 3) (.call 3 (.cons (.v 1) (.cons (.bin .sub (.v 2) (.k (.int (1)))) .nil)))) (.cons (.ife (.or (.cmp .isN (.v 3) (.k (.non))) (.or (.cmp .eq (.ix (.v 3) (.k (.int (0)))) (.g 3)) (.cmp .gt (.bin .mul (.v 0) (.ix (.v 3) (.k (.int (1))))) (.g 1)))) (.cons (.ret (.k (.non))) .nil) .nil) (.cons (.ret (.tup (.cons (.bin .add (.k (.int (1))) (.ix (.v 3) (.k (.int (0))))) (.cons (.bin .mul (.v 0) (.ix (.v 3) (.k (.int (1))))) .nil)))) .nil))))
/-- is_job -/
def b6 : Ss := (.cons (.ret (.cmp .notN (.call 3 (.cons (.v 0) (.cons (.g 4) .nil))) (.k (.non)))) .nil)
/-- check_job -/
def b7 : Ss := (.cons (.ife (.not (.call 6 (.cons (.v 0) .nil))) (.cons (.rse 0 .nil) .nil) .nil) .nil)
/-- step_count_by -/
def b8 : Ss := (.cons (.ife (.not (.call 2 (.cons (.v 0) .nil))) (.cons (.ret (.k (.int (1)))) .nil) .nil) (.cons (.ife (.cmp .isin (.ix (.v 0) (.k (.int (0)))) (.g 5)) (.cons (.ret (.bi .sum (.cons (.lc (.nm 1) (.seq (.ix (.v 0) (.k (.int (1))))) (.k (.bl true)) b8c0) .nil))) .nil) .nil) (.cons (.ret (.bin .mul (.ix (.v 0) (.k (.int (1)))) (.call 8 (.cons (.ix (.v 0) (.k (.int (2)))) .nil)))) .nil)))
/-- step_count -/
def b9 : Ss := (.cons (.ex (.call 7 (.cons (.v 0) .nil))) (.cons (.ret (.call 8 (.cons (.v 0) .nil))) .nil))
/-- extent_by -/
def b10 : Ss := (.cons (.ife (.not (.call 2 (.cons (.v 0) .nil))) (.cons (.ret (.tup (.cons (.v 0) (.cons (.bi .min (.cons (.k (.int (0))) (.cons (.v 0) .nil))) .nil)))) .nil) .nil) (.cons (.ife (.cmp .isin (.ix (.v 0) (.k (.int (0)))) (.g 5)) (.cons (.ret (.call 11 (.cons (.ix (.v 0) (.k (.int (0)))) (.cons (.lc (.nm 1) (.seq (.ix (.v 0) (.k (.int (1))))) (.k (.bl true)) b10c0) .nil)))) .nil) .nil) (.cons (.asg (.two (.nm 2) (.nm 3)) (.call 10 (.cons (.ix (.v 0) (.k (.int (2)))) .nil))) (.cons (.ife (.cmp .eq (.ix (.v 0) (.k (.int (1)))) (.k (.int (0)))) (.cons (.ret (.tup (.cons (.k (.int (0))) (.cons (.k (.int (0))) .nil)))) .nil) .nil) (.cons (.ife (.cmp .eq (.ix (.v 0) (.k (.int (0)))) (.k (.str "copies"))) (.cons (.ret (.tup (.cons (.bin .mul (.ix (.v 0) (.k (.int (1)))) (.v 2)) (.cons (.bin .mul (.ix (.v 0) (.k (.int (1)))) (.v 3)) .nil)))) .nil) .nil) (.cons (.ret (.tup (.cons (.bin .mul (.ix (.v 0) (.k (.int (1)))) (.v 2)) (.cons (.bin .add (.v 3) (.bi .min (.cons (.k (.int (0))) (.cons (.bin .mul (.bin .sub (.ix (.v 0) (.k (.int (1)))) (.k (.int (1)))) (.v 2)) .nil)))) .nil)))) .nil))))))
/-- extent_of_parts -/
def b11 : Ss := (.cons (.asg (.two (.nm 2) (.nm 3)) (.tup (.cons (.k (.int (0))) (.cons (.k (.int (0))) .nil)))) (.cons (.for_ (.two (.nm 4) (.nm 5)) (.seq (.v 1)) b11f0) (.cons (.ret (.tup (.cons (.v 2) (.cons (.v 3) .nil)))) .nil)))
/-- net_by -/
def b12 : Ss := (.cons (.ret (.ix (.call 10 (.cons (.v 0) .nil)) (.k (.int (0))))) .nil)
/-- lowest_by -/
def b13 : Ss := (.cons (.ret (.ix (.call 10 (.cons (.v 0) .nil)) (.k (.int (1))))) .nil)
/-- net -/
def b14 : Ss := (.cons (.ex (.call 7 (.cons (.v 0) .nil))) (.cons (.ret (.call 12 (.cons (.v 0) .nil))) .nil))
/-- lowest -/
def b15 : Ss := (.cons (.ex (.call 7 (.cons (.v 0) .nil))) (.cons (.ret (.call 13 (.cons (.v 0) .nil))) .nil))
/-- grouped -/
def b16 : Ss := (.cons (.two 1 2 (.lst true .nil) (.lst true .nil)) (.cons (.for_ (.nm 3) (.seq (.v 0)) b16f0) (.cons (.ret (.comp (.two (.nm 5) (.nm 4)) (.zip (.v 1) (.v 2)) (.k (.bl true)) b16c0)) .nil)))
/-- tidy_parts -/
def b17 : Ss := (.cons (.asg (.nm 2) (.lst true .nil)) (.cons (.for_ (.nm 3) (.seq (.v 1)) b17f0) (.cons (.ife (.cmp .eq (.v 0) (.k (.str "par"))) (.cons (.asg (.nm 2) (.call 16 (.cons (.v 2) .nil))) .nil) .nil) (.cons (.ife (.cmp .eq (.bi .len (.cons (.v 2) .nil)) (.k (.int (1)))) (.cons (.ret (.ix (.v 2) (.k (.int (0))))) .nil) .nil) (.cons (.ret (.ife (.cmp .ne (.v 2) (.lst false .nil)) (.tup (.cons (.v 0) (.cons (.bi .tuple (.cons (.v 2) .nil)) .nil))) (.g 7))) .nil)))))
/-- tidy_by -/
def b18 : Ss := (.cons (.ife (.not (.call 2 (.cons (.v 0) .nil))) (.cons (.ret (.v 0)) .nil) .nil) (.cons (.ife (.cmp .isin (.ix (.v 0) (.k (.int (0)))) (.g 5)) (.cons (.ret (.call 17 (.cons (.ix (.v 0) (.k (.int (0)))) (.cons (.lc (.nm 1) (.seq (.ix (.v 0) (.k (.int (1))))) (.k (.bl true)) b18c0) .nil)))) .nil) .nil) (.cons (.three 2 3 4 (.ix (.v 0) (.k (.int (0)))) (.ix (.v 0) (.k (.int (1)))) (.call 18 (.cons (.ix (.v 0) (.k (.int (2)))) .nil))) (.cons (.ife (.or (.cmp .eq (.v 3) (.k (.int (0)))) (.cmp .eq (.v 4) (.g 7))) (.cons (.ret (.g 7)) .nil) .nil) (.cons (.ife (.and (.call 2 (.cons (.v 4) .nil)) (.cmp .eq (.ix (.v 4) (.k (.int (0)))) (.v 2))) (.cons (.ret (.tup (.cons (.v 2) (.cons (.bin .mul (.v 3) (.ix (.v 4) (.k (.int (1))))) (.cons (.ix (.v 4) (.k (.int (2)))) .nil))))) .nil) .nil) (.cons (.ret (.ife (.cmp .eq (.v 3) (.k (.int (1)))) (.v 4) (.tup (.cons (.v 2) (.cons (.v 3) (.cons (.v 4) .nil)))))) .nil))))))
/-- as_job -/
def b19 : Ss := (.cons (.ife (.not (.call 6 (.cons (.v 0) .nil))) (.cons (.rse 1 (.cons (.g 3) .nil)) .nil) .nil) (.cons (.ret (.v 0)) .nil))
/-- tidy -/
def b20 : Ss := (.cons (.ex (.call 7 (.cons (.v 0) .nil))) (.cons (.ret (.call 19 (.cons (.call 18 (.cons (.v 0) .nil)) .nil))) .nil))
/-- _law_pot -/
def b21 : Ss := (.cons (.asg (.nm 2) (.k (.int (0)))) (.cons (.ife (.cmp .lt (.v 1) (.bi .len (.cons (.v 0) .nil))) (.cons (.asg (.nm 2) (.bin .mod (.bi .abs (.cons (.ix (.v 0) (.v 1)) .nil)) (.bin .pow (.bin .pow (.k (.int (10))) (.k (.int (60)))) (.k (.int (14)))))) .nil) .nil) (.cons (.asg (.nm 3) (.bin .mod (.bin .pow (.bin .add (.bin .add (.bin .mod (.v 2) (.k (.int (2147483587)))) (.bin .mul (.k (.int (6151))) (.v 1))) (.k (.int (3)))) (.k (.int (5)))) (.k (.int (2305843009213693951))))) (.cons (.ret (.lst true (.cons (.bin .mul (.v 2) (.bi .int (.cons (.cmp .ge (.v 2) (.bin .pow (.k (.int (10))) (.k (.int (18))))) .nil))) (.cons (.v 3) (.cons (.k (.int (0))) .nil))))) .nil))))
/-- _law_take -/
def b22 : Ss := (.cons (.ife (.cmp .gt (.ix (.v 0) (.k (.int (0)))) (.k (.int (0)))) (.cons (.asg (.nm 2) (.bin .mod (.ix (.v 0) (.k (.int (0)))) (.v 1))) (.cons (.asg (.sub (.v 0) (.k (.int (0)))) (.bin .fdiv (.ix (.v 0) (.k (.int (0)))) (.v 1))) (.cons (.ret (.v 2)) .nil))) .nil) (.cons (.asg (.sub (.v 0) (.k (.int (2)))) (.bin .add (.ix (.v 0) (.k (.int (2)))) (.k (.int (1))))) (.cons (.asg (.nm 3) (.bin .mod (.bin .pow (.bin .add (.ix (.v 0) (.k (.int (1)))) (.bin .mul (.k (.int (98317))) (.ix (.v 0) (.k (.int (2)))))) (.k (.int (3)))) (.k (.int (2305843009213693921))))) (.cons (.asg (.nm 4) (.bin .mod (.bin .pow (.bin .add (.bin .add (.v 3) (.bin .mod (.ix (.v 0) (.k (.int (1)))) (.k (.int (65521))))) (.bin .mul (.k (.int (37))) (.ix (.v 0) (.k (.int (2)))))) (.k (.int (5)))) (.k (.int (2305843009213693907))))) (.cons (.ret (.bin .mod (.bin .fdiv (.v 4) (.k (.int (2048)))) (.v 1))) .nil)))))
/-- _law_step -/
def b23 : Ss := (.cons (.asg (.nm 1) (.call 22 (.cons (.v 0) (.cons (.k (.int (14))) .nil)))) (.cons (.ife (.cmp .eq (.v 1) (.k (.int (0)))) (.cons (.ret (.k (.int (0)))) .nil) .nil) (.cons (.ife (.cmp .eq (.v 1) (.k (.int (1)))) (.cons (.asg (.nm 2) (.bin .add (.bin .mul (.call 22 (.cons (.v 0) (.cons (.bin .pow (.k (.int (10))) (.k (.int (15)))) .nil))) (.bin .pow (.k (.int (10))) (.k (.int (15))))) (.call 22 (.cons (.v 0) (.cons (.bin .pow (.k (.int (10))) (.k (.int (15)))) .nil))))) (.cons (.ret (.ix (.lst false (.cons (.v 2) (.cons (.bin .sub (.k (.int (0))) (.v 2)) (.cons (.bin .pow (.k (.int (10))) (.k (.int (30)))) (.cons (.bin .sub (.k (.int (0))) (.bin .pow (.k (.int (10))) (.k (.int (30))))) .nil))))) (.call 22 (.cons (.v 0) (.cons (.k (.int (4))) .nil))))) .nil)) .nil) (.cons (.ret (.bin .sub (.call 22 (.cons (.v 0) (.cons (.k (.int (19))) .nil))) (.k (.int (9))))) .nil))))
/-- _law_job -/
def b24 : Ss := (.cons (.asg (.nm 3) (.call 22 (.cons (.v 0) (.cons (.k (.int (9))) .nil)))) (.cons (.ife (.or (.cmp .lt (.v 1) (.k (.int (2)))) (.cmp .eq (.v 3) (.k (.int (0))))) (.cons (.ret (.call 23 (.cons (.v 0) .nil))) .nil) .nil) (.cons (.ife (.cmp .lt (.v 3) (.k (.int (3)))) (.cons (.asg (.nm 4) (.ix (.lst false (.cons (.k (.int (3))) (.cons (.k (.int (2))) (.cons (.k (.int (4))) (.cons (.k (.int (0))) .nil))))) (.call 22 (.cons (.v 0) (.cons (.k (.int (4))) .nil))))) (.cons (.ret (.tup (.cons (.k (.str "seq")) (.cons (.bi .tuple (.cons (.lc (.nm 5) (.rng (.k (.int (0))) (.v 4)) (.k (.bl true)) b24c0) .nil)) .nil)))) .nil)) .nil) (.cons (.ife (.cmp .lt (.v 3) (.k (.int (7)))) (.cons (.asg (.nm 4) (.ix (.lst false (.cons (.k (.int (2))) (.cons (.k (.int (3))) (.cons (.k (.int (2))) (.cons (.k (.int (1))) (.cons (.k (.int (3))) (.cons (.k (.int (0))) .nil))))))) (.call 22 (.cons (.v 0) (.cons (.k (.int (6))) .nil))))) (.cons (.ret (.tup (.cons (.ix (.lst false (.cons (.k (.str "seq")) (.cons (.k (.str "par")) .nil))) (.bin .mod (.v 3) (.k (.int (2))))) (.cons (.bi .tuple (.cons (.lc (.nm 5) (.rng (.k (.int (0))) (.v 4)) (.k (.bl true)) b24c1) .nil)) .nil)))) .nil)) .nil) (.cons (.ret (.tup (.cons (.ix (.lst false (.cons (.k (.str "repeat")) (.cons (.k (.str "copies")) .nil))) (.bin .mod (.v 3) (.k (.int (2))))) (.cons (.ix (.v 2) (.call 22 (.cons (.v 0) (.cons (.bi .len (.cons (.v 2) .nil)) .nil)))) (.cons (.call 24 (.cons (.v 0) (.cons (.bin .sub (.v 1) (.k (.int (1)))) (.cons (.v 2) .nil)))) .nil))))) .nil)))))
/-- _law_joined -/
def b25 : Ss := (.cons (.asg (.nm 1) (.lst true .nil)) (.cons (.for_ (.nm 2) (.seq (.v 0)) b25f0) (.cons (.ret (.comp (.two (.nm 3) (.nm 4)) (.seq (.v 1)) (.k (.bl true)) b25c1)) .nil)))
/-- _law_tidy -/
def b26 : Ss := (.cons (.ife (.not (.isi (.v 0) .tuple)) (.cons (.ret (.v 0)) .nil) .nil) (.cons (.ife (.cmp .isin (.ix (.v 0) (.k (.int (0)))) (.tup (.cons (.k (.str "repeat")) (.cons (.k (.str "copies")) .nil)))) (.cons (.asg (.nm 1) (.call 26 (.cons (.ix (.v 0) (.k (.int (2)))) .nil))) (.cons (.ife (.or (.cmp .eq (.ix (.v 0) (.k (.int (1)))) (.k (.int (0)))) (.cmp .eq (.v 1) (.tup (.cons (.k (.str "seq")) (.cons (.tup .nil) .nil))))) (.cons (.ret (.tup (.cons (.k (.str "seq")) (.cons (.tup .nil) .nil)))) .nil) .nil) (.cons (.ife (.and (.isi (.v 1) .tuple) (.cmp .eq (.ix (.v 1) (.k (.int (0)))) (.ix (.v 0) (.k (.int (0)))))) (.cons (.ret (.tup (.cons (.ix (.v 0) (.k (.int (0)))) (.cons (.bin .mul (.ix (.v 0) (.k (.int (1)))) (.ix (.v 1) (.k (.int (1))))) (.cons (.ix (.v 1) (.k (.int (2)))) .nil))))) .nil) .nil) (.cons (.ret (.ife (.cmp .eq (.ix (.v 0) (.k (.int (1)))) (.k (.int (1)))) (.v 1) (.tup (.cons (.ix (.v 0) (.k (.int (0)))) (.cons (.ix (.v 0) (.k (.int (1)))) (.cons (.v 1) .nil)))))) .nil)))) .nil) (.cons (.asg (.nm 2) (.lst true .nil)) (.cons (.for_ (.nm 3) (.seq (.lc (.nm 4) (.seq (.ix (.v 0) (.k (.int (1))))) (.k (.bl true)) b26c0)) b26f0) (.cons (.ife (.cmp .eq (.ix (.v 0) (.k (.int (0)))) (.k (.str "par"))) (.cons (.asg (.nm 2) (.call 25 (.cons (.v 2) .nil))) .nil) .nil) (.cons (.ife (.cmp .eq (.bi .len (.cons (.v 2) .nil)) (.k (.int (1)))) (.cons (.ret (.ix (.v 2) (.k (.int (0))))) .nil) .nil) (.cons (.ret (.ife (.cmp .eq (.v 2) (.lst false .nil)) (.tup (.cons (.k (.str "seq")) (.cons (.tup .nil) .nil))) (.tup (.cons (.ix (.v 0) (.k (.int (0)))) (.cons (.bi .tuple (.cons (.v 2) .nil)) .nil))))) .nil)))))))
/-- _law_few -/
def b27 : Ss := (.cons (.asg (.nm 1) (.lst false (.cons (.k (.int (2))) (.cons (.tup (.cons (.k (.str "seq")) (.cons (.tup (.cons (.k (.int (2))) (.cons (.neg (.k (.int (3)))) .nil))) .nil))) (.cons (.tup (.cons (.k (.str "repeat")) (.cons (.k (.int (2))) (.cons (.tup (.cons (.k (.str "repeat")) (.cons (.k (.int (3))) (.cons (.neg (.k (.int (1)))) .nil)))) .nil)))) (.cons (.tup (.cons (.k (.str "par")) (.cons (.tup .nil) .nil))) (.cons (.tup (.cons (.k (.str "copies")) (.cons (.k (.int (2))) (.cons (.tup (.cons (.k (.str "copies")) (.cons (.k (.int (3))) (.cons (.k (.int (2))) .nil)))) .nil)))) .nil))))))) (.cons (.asg (.nm 2) (.lst true .nil)) (.cons (.for_ (.nm 3) (.rng (.k (.int (0))) (.call 22 (.cons (.v 0) (.cons (.k (.int (7))) .nil)))) b27f0) (.cons (.ret (.tup (.cons (.k (.str "par")) (.cons (.bi .tuple (.cons (.v 2) .nil)) .nil)))) .nil))))
/-- _law_raised -/
def b28 : Ss := (.cons (.tr (.cons (.ex (.call 20 (.cons (.v 0) .nil))) .nil) (.cons [1] (.some 1) (.cons (.ret (.and (.cmp .eq (.xat (.v 1) [1]) (.k (.int (400)))) (.not (.xis (.v 1) [0])))) .nil) .nil)) (.cons (.ret (.k (.bl false))) .nil))
/-- _law_nest -/
def b29 : Ss := (.cons (.asg (.nm 1) (.k (.int (5)))) (.cons (.for_ (.nm 2) (.rng (.k (.int (0))) (.v 0)) b29f0) (.cons (.ret (.v 1)) .nil)))
/-- _law_limits_right -/
def b30 : Ss := (.cons (.asg (.nm 0) (.tup (.cons (.k (.str "seq")) (.cons (.tup (.cons (.tup (.cons (.k (.str "seq")) (.cons (.tup (.cons (.k (.int (0))) (.cons (.k (.int (0))) .nil))) .nil))) (.cons (.tup (.cons (.k (.str "seq")) (.cons (.bin .mul (.tup (.cons (.k (.int (1))) .nil)) (.k (.int (120)))) .nil))) .nil))) .nil)))) (.cons (.ife (.cmp .ne (.call 20 (.cons (.tup (.cons (.k (.str "seq")) (.cons (.tup (.cons (.v 0) (.cons (.k (.int (1))) .nil))) .nil))) .nil)) (.tup (.cons (.k (.str "seq")) (.cons (.bin .add (.tup (.cons (.k (.int (0))) (.cons (.k (.int (0))) .nil))) (.bin .mul (.tup (.cons (.k (.int (1))) .nil)) (.k (.int (121))))) .nil)))) (.cons (.ret (.k (.bl false))) .nil) .nil) (.cons (.ife (.cmp .ne (.call 20 (.cons (.tup (.cons (.k (.str "par")) (.cons (.tup (.cons (.tup (.cons (.k (.str "par")) (.cons (.bin .mul (.tup (.cons (.k (.int (1))) .nil)) (.k (.int (390)))) .nil))) (.cons (.k (.int (1))) (.cons (.k (.int (2))) .nil)))) .nil))) .nil)) (.tup (.cons (.k (.str "par")) (.cons (.tup (.cons (.tup (.cons (.k (.str "copies")) (.cons (.k (.int (391))) (.cons (.k (.int (1))) .nil)))) (.cons (.k (.int (2))) .nil))) .nil)))) (.cons (.ret (.k (.bl false))) .nil) .nil) (.cons (.ife (.cmp .ne (.call 20 (.cons (.tup (.cons (.k (.str "par")) (.cons (.tup (.cons (.call 29 (.cons (.k (.int (10))) .nil)) (.cons (.k (.int (1))) (.cons (.call 29 (.cons (.k (.int (10))) .nil)) .nil)))) .nil))) .nil)) (.tup (.cons (.k (.str "par")) (.cons (.tup (.cons (.tup (.cons (.k (.str "copies")) (.cons (.k (.int (2))) (.cons (.call 29 (.cons (.k (.int (10))) .nil)) .nil)))) (.cons (.k (.int (1))) .nil))) .nil)))) (.cons (.ret (.k (.bl false))) .nil) .nil) (.cons (.ret (.call 28 (.cons (.tup (.cons (.k (.str "par")) (.cons (.tup (.cons (.call 29 (.cons (.k (.int (11))) .nil)) (.cons (.k (.int (1))) (.cons (.call 29 (.cons (.k (.int (11))) .nil)) .nil)))) .nil))) .nil))) .nil)))))
/-- law -/
def b31 : Ss := (.cons (.for_ (.nm 1) (.rng (.k (.int (0))) (.bi .max (.cons (.k (.int (1))) (.cons (.bi .min (.cons (.k (.int (6))) (.cons (.bi .len (.cons (.v 0) .nil)) .nil))) .nil)))) b31f1) (.cons (.ret (.call 30 .nil)) .nil))
def gls : List (Str × D) := [("MAX_STEP", .int (1000000000000000000000000000000)), ("MAX_COUNT", .int (1000000000000000000000000000000)), ("MAX_PARTS", .int (400)), ("MAX_NODES", .int (400)), ("MAX_DEPTH", .int (13)), ("GROUPS", .tup [.str "seq", .str "par"]), ("MULTIPLES", .tup [.str "repeat", .str "copies"]), ("EMPTY", .tup [.str "seq", .tup []])]
def bs : List Str := ([("len" : Str), ("sum" : Str), ("abs" : Str), ("max" : Str), ("min" : Str), ("int" : Str), ("tuple" : Str), ("list" : Str), ("repr" : Str), ("str" : Str), ("bool" : Str), ("isinstance" : Str), ("range" : Str), ("zip" : Str)] : List Str)
def r0 : Row := { x := "is_integer", ps := ([("value" : Str)] : List Str), N := ([("value" : Str)] : List Str), st := topS 5, fd := ⟨1, 1, b0, false⟩, mv := ([] : List Str), fz := [], hot := false }
def r1 : Row := { x := "is_between", ps := ([("value" : Str), ("low" : Str), ("high" : Str)] : List Str), N := ([("value" : Str), ("low" : Str), ("high" : Str)] : List Str), st := topS 6, fd := ⟨3, 3, b1, false⟩, mv := ([] : List Str), fz := [], hot := false }
def r2 : Row := { x := "is_node", ps := ([("job" : Str)] : List Str), N := ([("job" : Str)] : List Str), st := topS 16, fd := ⟨1, 1, b2, false⟩, mv := ([] : List Str), fz := [], hot := false }
def r3 : Row := { x := "measured", ps := ([("value" : Str), ("depth" : Str)] : List Str), N := ([("value" : Str), ("depth" : Str)] : List Str), st := topS 17, fd := ⟨2, 2, b3, false⟩, mv := ([] : List Str), fz := [], hot := false }
def r4 : Row := { x := "measured_parts", ps := ([("parts" : Str), ("depth" : Str)] : List Str), N := ([("parts" : Str), ("depth" : Str), ("nodes" : Str), ("steps" : Str), ("part" : Str), ("sizes" : Str)] : List Str), st := topS 18, fd := ⟨2, 6, b4, false⟩, mv := ([] : List Str), fz := [], hot := false }
def r5 : Row := { x := "measured_multiple", ps := ([("count" : Str), ("inner" : Str), ("depth" : Str)] : List Str), N := ([("count" : Str), ("inner" : Str), ("depth" : Str), ("sizes" : Str)] : List Str), st := topS 19, fd := ⟨3, 4, b5, false⟩, mv := ([] : List Str), fz := [], hot := false }
def r6 : Row := { x := "is_job", ps := ([("value" : Str)] : List Str), N := ([("value" : Str)] : List Str), st := topS 20, fd := ⟨1, 1, b6, false⟩, mv := ([] : List Str), fz := [], hot := false }
def r7 : Row := { x := "check_job", ps := ([("job" : Str)] : List Str), N := ([("job" : Str)] : List Str), st := topS 21, fd := ⟨1, 1, b7, false⟩, mv := ([] : List Str), fz := [], hot := false }
def r8 : Row := { x := "step_count_by", ps := ([("job" : Str)] : List Str), N := ([("job" : Str), ("part" : Str)] : List Str), st := topS 22, fd := ⟨1, 2, b8, false⟩, mv := ([] : List Str), fz := [], hot := false }
def r9 : Row := { x := "step_count", ps := ([("job" : Str)] : List Str), N := ([("job" : Str)] : List Str), st := topS 23, fd := ⟨1, 1, b9, false⟩, mv := ([] : List Str), fz := [], hot := false }
def r10 : Row := { x := "extent_by", ps := ([("job" : Str)] : List Str), N := ([("job" : Str), ("part" : Str), ("total" : Str), ("low" : Str)] : List Str), st := topS 24, fd := ⟨1, 4, b10, false⟩, mv := ([] : List Str), fz := [], hot := false }
def r11 : Row := { x := "extent_of_parts", ps := ([("word" : Str), ("extents" : Str)] : List Str), N := ([("word" : Str), ("extents" : Str), ("total" : Str), ("low" : Str), ("more" : Str), ("lower" : Str)] : List Str), st := topS 25, fd := ⟨2, 6, b11, false⟩, mv := ([] : List Str), fz := [], hot := false }
def r12 : Row := { x := "net_by", ps := ([("job" : Str)] : List Str), N := ([("job" : Str)] : List Str), st := topS 26, fd := ⟨1, 1, b12, false⟩, mv := ([] : List Str), fz := [], hot := false }
def r13 : Row := { x := "lowest_by", ps := ([("job" : Str)] : List Str), N := ([("job" : Str)] : List Str), st := topS 27, fd := ⟨1, 1, b13, false⟩, mv := ([] : List Str), fz := [], hot := false }
def r14 : Row := { x := "net", ps := ([("job" : Str)] : List Str), N := ([("job" : Str)] : List Str), st := topS 28, fd := ⟨1, 1, b14, false⟩, mv := ([] : List Str), fz := [], hot := false }
def r15 : Row := { x := "lowest", ps := ([("job" : Str)] : List Str), N := ([("job" : Str)] : List Str), st := topS 29, fd := ⟨1, 1, b15, false⟩, mv := ([] : List Str), fz := [], hot := false }
def r16 : Row := { x := "grouped", ps := ([("parts" : Str)] : List Str), N := ([("parts" : Str), ("inners" : Str), ("counts" : Str), ("part" : Str), ("count" : Str), ("inner" : Str)] : List Str), st := topS 30, fd := ⟨1, 6, b16, true⟩, mv := ([("counts" : Str), ("inners" : Str)] : List Str), fz := [], hot := false }
def r17 : Row := { x := "tidy_parts", ps := ([("word" : Str), ("parts" : Str)] : List Str), N := ([("word" : Str), ("parts" : Str), ("found" : Str), ("part" : Str)] : List Str), st := topS 31, fd := ⟨2, 4, b17, false⟩, mv := ([("found" : Str)] : List Str), fz := [], hot := false }
def r18 : Row := { x := "tidy_by", ps := ([("job" : Str)] : List Str), N := ([("job" : Str), ("part" : Str), ("word" : Str), ("count" : Str), ("inner" : Str)] : List Str), st := topS 32, fd := ⟨1, 5, b18, false⟩, mv := ([] : List Str), fz := [], hot := false }
def r19 : Row := { x := "as_job", ps := ([("job" : Str)] : List Str), N := ([("job" : Str)] : List Str), st := topS 33, fd := ⟨1, 1, b19, false⟩, mv := ([] : List Str), fz := [], hot := false }
def r20 : Row := { x := "tidy", ps := ([("job" : Str)] : List Str), N := ([("job" : Str)] : List Str), st := topS 34, fd := ⟨1, 1, b20, false⟩, mv := ([] : List Str), fz := [], hot := false }
def r21 : Row := { x := "_law_pot", ps := ([("_law_script" : Str), ("_law_k" : Str)] : List Str), N := ([("_law_script" : Str), ("_law_k" : Str), ("_law_cell" : Str), ("_law_mixed" : Str)] : List Str), st := topS 36, fd := ⟨2, 4, b21, true⟩, mv := ([] : List Str), fz := [], hot := false }
def r22 : Row := { x := "_law_take", ps := ([("_law_pot_here" : Str), ("_law_many" : Str)] : List Str), N := ([("_law_pot_here" : Str), ("_law_many" : Str), ("_law_found" : Str), ("_law_one" : Str), ("_law_other" : Str)] : List Str), st := topS 37, fd := ⟨2, 5, b22, false⟩, mv := ([("_law_pot_here" : Str)] : List Str), fz := [], hot := false }
def r23 : Row := { x := "_law_step", ps := ([("_law_pot_here" : Str)] : List Str), N := ([("_law_pot_here" : Str), ("_law_way" : Str), ("_law_great" : Str)] : List Str), st := topS 38, fd := ⟨1, 3, b23, false⟩, mv := ([("_law_pot_here" : Str)] : List Str), fz := [], hot := false }
def r24 : Row := { x := "_law_job", ps := ([("_law_pot_here" : Str), ("_law_deep" : Str), ("_law_counts" : Str)] : List Str), N := ([("_law_pot_here" : Str), ("_law_deep" : Str), ("_law_counts" : Str), ("_law_way" : Str), ("_law_many" : Str), ("_law_turn" : Str)] : List Str), st := topS 39, fd := ⟨3, 6, b24, false⟩, mv := ([("_law_pot_here" : Str)] : List Str), fz := [], hot := false }
def r25 : Row := { x := "_law_joined", ps := ([("_law_parts" : Str)] : List Str), N := ([("_law_parts" : Str), ("_law_found" : Str), ("_law_part" : Str), ("_law_many" : Str), ("_law_inner" : Str), ("_law_same" : Str), ("_law_at" : Str)] : List Str), st := topS 40, fd := ⟨1, 7, b25, true⟩, mv := ([("_law_found" : Str)] : List Str), fz := [], hot := false }
def r26 : Row := { x := "_law_tidy", ps := ([("_law_job_here" : Str)] : List Str), N := ([("_law_job_here" : Str), ("_law_inner" : Str), ("_law_parts" : Str), ("_law_part" : Str), ("_law_one" : Str)] : List Str), st := topS 41, fd := ⟨1, 5, b26, false⟩, mv := ([("_law_parts" : Str)] : List Str), fz := [], hot := false }
def r27 : Row := { x := "_law_few", ps := ([("_law_pot_here" : Str)] : List Str), N := ([("_law_pot_here" : Str), ("_law_kinds" : Str), ("_law_parts" : Str), ("_law_turn" : Str), ("_law_one" : Str), ("_law_way" : Str)] : List Str), st := topS 42, fd := ⟨1, 6, b27, false⟩, mv := ([("_law_parts" : Str), ("_law_pot_here" : Str)] : List Str), fz := [], hot := false }
def r28 : Row := { x := "_law_raised", ps := ([("_law_job_here" : Str)] : List Str), N := ([("_law_job_here" : Str), ("e" : Str)] : List Str), st := topS 43, fd := ⟨1, 2, b28, false⟩, mv := ([] : List Str), fz := [], hot := false }
def r29 : Row := { x := "_law_nest", ps := ([("_law_many" : Str)] : List Str), N := ([("_law_many" : Str), ("_law_job_here" : Str), ("_law_turn" : Str)] : List Str), st := topS 44, fd := ⟨1, 3, b29, false⟩, mv := ([] : List Str), fz := [], hot := false }
def r30 : Row := { x := "_law_limits_right", ps := ([] : List Str), N := ([("_law_row" : Str)] : List Str), st := topS 45, fd := ⟨0, 1, b30, false⟩, mv := ([] : List Str), fz := [], hot := false }
def r31 : Row := { x := "law", ps := ([("_law_script" : Str)] : List Str), N := ([("_law_script" : Str), ("_law_k" : Str), ("_law_pot_here" : Str), ("_law_job_here" : Str), ("_law_one" : Str), ("_law_kept" : Str), ("_law_due" : Str), ("_law_found" : Str)] : List Str), st := topS 46, fd := ⟨1, 8, b31, false⟩, mv := ([("_law_pot_here" : Str)] : List Str), fz := [], hot := false }
def tab : Tab := { rows := [r0, r1, r2, r3, r4, r5, r6, r7, r8, r9, r10, r11, r12, r13, r14, r15, r16, r17, r18, r19, r20, r21, r22, r23, r24, r25, r26, r27, r28, r29, r30, r31], gls := gls, bs := bs, xs := ⟨["InvalidJob", "TooMany"], [none, some "limit"], [1]⟩, tys := [("TooMany", [1]), ("JobError", [0])] }
theorem ok0 : RowOk tab r0 := row_ok (by kernel_rfl) ⟨rfl, rfl, rfl, by decide +kernel, rfl, by decide +kernel, by decide +kernel⟩ rfl rfl
theorem ok1 : RowOk tab r1 := row_ok (by kernel_rfl) ⟨rfl, rfl, rfl, by decide +kernel, rfl, by decide +kernel, by decide +kernel⟩ rfl rfl
theorem ok2 : RowOk tab r2 := row_ok (by kernel_rfl) ⟨rfl, rfl, rfl, by decide +kernel, rfl, by decide +kernel, by decide +kernel⟩ rfl rfl
theorem ok3 : RowOk tab r3 := row_ok (by kernel_rfl) ⟨rfl, rfl, rfl, by decide +kernel, rfl, by decide +kernel, by decide +kernel⟩ rfl rfl
theorem ok4 : RowOk tab r4 := row_ok (by kernel_rfl) ⟨rfl, rfl, rfl, by decide +kernel, rfl, by decide +kernel, by decide +kernel⟩ rfl rfl
theorem ok5 : RowOk tab r5 := row_ok (by kernel_rfl) ⟨rfl, rfl, rfl, by decide +kernel, rfl, by decide +kernel, by decide +kernel⟩ rfl rfl
theorem ok6 : RowOk tab r6 := row_ok (by kernel_rfl) ⟨rfl, rfl, rfl, by decide +kernel, rfl, by decide +kernel, by decide +kernel⟩ rfl rfl
theorem ok7 : RowOk tab r7 := row_ok (by kernel_rfl) ⟨rfl, rfl, rfl, by decide +kernel, rfl, by decide +kernel, by decide +kernel⟩ rfl rfl
theorem ok8 : RowOk tab r8 := row_ok (by kernel_rfl) ⟨rfl, rfl, rfl, by decide +kernel, rfl, by decide +kernel, by decide +kernel⟩ rfl rfl
theorem ok9 : RowOk tab r9 := row_ok (by kernel_rfl) ⟨rfl, rfl, rfl, by decide +kernel, rfl, by decide +kernel, by decide +kernel⟩ rfl rfl
theorem ok10 : RowOk tab r10 := row_ok (by kernel_rfl) ⟨rfl, rfl, rfl, by decide +kernel, rfl, by decide +kernel, by decide +kernel⟩ rfl rfl
theorem ok11 : RowOk tab r11 := row_ok (by kernel_rfl) ⟨rfl, rfl, rfl, by decide +kernel, rfl, by decide +kernel, by decide +kernel⟩ rfl rfl
theorem ok12 : RowOk tab r12 := row_ok (by kernel_rfl) ⟨rfl, rfl, rfl, by decide +kernel, rfl, by decide +kernel, by decide +kernel⟩ rfl rfl
theorem ok13 : RowOk tab r13 := row_ok (by kernel_rfl) ⟨rfl, rfl, rfl, by decide +kernel, rfl, by decide +kernel, by decide +kernel⟩ rfl rfl
theorem ok14 : RowOk tab r14 := row_ok (by kernel_rfl) ⟨rfl, rfl, rfl, by decide +kernel, rfl, by decide +kernel, by decide +kernel⟩ rfl rfl
theorem ok15 : RowOk tab r15 := row_ok (by kernel_rfl) ⟨rfl, rfl, rfl, by decide +kernel, rfl, by decide +kernel, by decide +kernel⟩ rfl rfl
theorem ok16 : RowOk tab r16 := row_ok (by kernel_rfl) ⟨rfl, rfl, rfl, by decide +kernel, rfl, by decide +kernel, by decide +kernel⟩ rfl rfl
theorem ok17 : RowOk tab r17 := row_ok (by kernel_rfl) ⟨rfl, rfl, rfl, by decide +kernel, rfl, by decide +kernel, by decide +kernel⟩ rfl rfl
theorem ok18 : RowOk tab r18 := row_ok (by kernel_rfl) ⟨rfl, rfl, rfl, by decide +kernel, rfl, by decide +kernel, by decide +kernel⟩ rfl rfl
theorem ok19 : RowOk tab r19 := row_ok (by kernel_rfl) ⟨rfl, rfl, rfl, by decide +kernel, rfl, by decide +kernel, by decide +kernel⟩ rfl rfl
theorem ok20 : RowOk tab r20 := row_ok (by kernel_rfl) ⟨rfl, rfl, rfl, by decide +kernel, rfl, by decide +kernel, by decide +kernel⟩ rfl rfl
theorem ok21 : RowOk tab r21 := row_ok (by kernel_rfl) ⟨rfl, rfl, rfl, by decide +kernel, rfl, by decide +kernel, by decide +kernel⟩ rfl rfl
theorem ok22 : RowOk tab r22 := row_ok (by kernel_rfl) ⟨rfl, rfl, rfl, by decide +kernel, rfl, by decide +kernel, by decide +kernel⟩ rfl rfl
theorem ok23 : RowOk tab r23 := row_ok (by kernel_rfl) ⟨rfl, rfl, rfl, by decide +kernel, rfl, by decide +kernel, by decide +kernel⟩ rfl rfl
theorem ok24 : RowOk tab r24 := row_ok (by kernel_rfl) ⟨rfl, rfl, rfl, by decide +kernel, rfl, by decide +kernel, by decide +kernel⟩ rfl rfl
theorem ok25 : RowOk tab r25 := row_ok (by kernel_rfl) ⟨rfl, rfl, rfl, by decide +kernel, rfl, by decide +kernel, by decide +kernel⟩ rfl rfl
theorem ok26 : RowOk tab r26 := row_ok (by kernel_rfl) ⟨rfl, rfl, rfl, by decide +kernel, rfl, by decide +kernel, by decide +kernel⟩ rfl rfl
theorem ok27 : RowOk tab r27 := row_ok (by kernel_rfl) ⟨rfl, rfl, rfl, by decide +kernel, rfl, by decide +kernel, by decide +kernel⟩ rfl rfl
theorem ok28 : RowOk tab r28 := row_ok (by kernel_rfl) ⟨rfl, rfl, rfl, by decide +kernel, rfl, by decide +kernel, by decide +kernel⟩ rfl rfl
theorem ok29 : RowOk tab r29 := row_ok (by kernel_rfl) ⟨rfl, rfl, rfl, by decide +kernel, rfl, by decide +kernel, by decide +kernel⟩ rfl rfl
theorem ok30 : RowOk tab r30 := row_ok (by kernel_rfl) ⟨rfl, rfl, rfl, by decide +kernel, rfl, by decide +kernel, by decide +kernel⟩ rfl rfl
theorem ok31 : RowOk tab r31 := row_ok (by kernel_rfl) ⟨rfl, rfl, rfl, by decide +kernel, rfl, by decide +kernel, by decide +kernel⟩ rfl rfl
def gl : List D := [.int (1000000000000000000000000000000), .int (1000000000000000000000000000000), .int (400), .int (400), .int (13), .tup [.str "seq", .str "par"], .tup [.str "repeat", .str "copies"], .tup [.str "seq", .tup []]]
def P : List Fd := [⟨1, 1, b0, false⟩, ⟨3, 3, b1, false⟩, ⟨1, 1, b2, false⟩, ⟨2, 2, b3, false⟩, ⟨2, 6, b4, false⟩, ⟨3, 4, b5, false⟩, ⟨1, 1, b6, false⟩, ⟨1, 1, b7, false⟩, ⟨1, 2, b8, false⟩, ⟨1, 1, b9, false⟩, ⟨1, 4, b10, false⟩, ⟨2, 6, b11, false⟩, ⟨1, 1, b12, false⟩, ⟨1, 1, b13, false⟩, ⟨1, 1, b14, false⟩, ⟨1, 1, b15, false⟩, ⟨1, 6, b16, true⟩, ⟨2, 4, b17, false⟩, ⟨1, 5, b18, false⟩, ⟨1, 1, b19, false⟩, ⟨1, 1, b20, false⟩, ⟨2, 4, b21, true⟩, ⟨2, 5, b22, false⟩, ⟨1, 3, b23, false⟩, ⟨3, 6, b24, false⟩, ⟨1, 7, b25, true⟩, ⟨1, 5, b26, false⟩, ⟨1, 6, b27, false⟩, ⟨1, 2, b28, false⟩, ⟨1, 3, b29, false⟩, ⟨0, 1, b30, false⟩, ⟨1, 8, b31, false⟩]
theorem gg0 : gl[0]? = some (.int (1000000000000000000000000000000)) := rfl
theorem gg1 : gl[1]? = some (.int (1000000000000000000000000000000)) := rfl
theorem gg2 : gl[2]? = some (.int (400)) := rfl
theorem gg3 : gl[3]? = some (.int (400)) := rfl
theorem gg4 : gl[4]? = some (.int (13)) := rfl
theorem gg5 : gl[5]? = some (.tup [.str "seq", .str "par"]) := rfl
theorem gg6 : gl[6]? = some (.tup [.str "repeat", .str "copies"]) := rfl
theorem gg7 : gl[7]? = some (.tup [.str "seq", .tup []]) := rfl
theorem tab_gl : tab.gl = gl := rfl
theorem tab_P : tab.P = P := rfl
theorem p0 : P[0]? = some ⟨1, 1, b0, false⟩ := rfl
theorem p1 : P[1]? = some ⟨3, 3, b1, false⟩ := rfl
theorem p2 : P[2]? = some ⟨1, 1, b2, false⟩ := rfl
theorem p3 : P[3]? = some ⟨2, 2, b3, false⟩ := rfl
theorem p4 : P[4]? = some ⟨2, 6, b4, false⟩ := rfl
theorem p5 : P[5]? = some ⟨3, 4, b5, false⟩ := rfl
theorem p6 : P[6]? = some ⟨1, 1, b6, false⟩ := rfl
theorem p7 : P[7]? = some ⟨1, 1, b7, false⟩ := rfl
theorem p8 : P[8]? = some ⟨1, 2, b8, false⟩ := rfl
theorem p9 : P[9]? = some ⟨1, 1, b9, false⟩ := rfl
theorem p10 : P[10]? = some ⟨1, 4, b10, false⟩ := rfl
theorem p11 : P[11]? = some ⟨2, 6, b11, false⟩ := rfl
theorem p12 : P[12]? = some ⟨1, 1, b12, false⟩ := rfl
theorem p13 : P[13]? = some ⟨1, 1, b13, false⟩ := rfl
theorem p14 : P[14]? = some ⟨1, 1, b14, false⟩ := rfl
theorem p15 : P[15]? = some ⟨1, 1, b15, false⟩ := rfl
theorem p16 : P[16]? = some ⟨1, 6, b16, true⟩ := rfl
theorem p17 : P[17]? = some ⟨2, 4, b17, false⟩ := rfl
theorem p18 : P[18]? = some ⟨1, 5, b18, false⟩ := rfl
theorem p19 : P[19]? = some ⟨1, 1, b19, false⟩ := rfl
theorem p20 : P[20]? = some ⟨1, 1, b20, false⟩ := rfl
theorem p21 : P[21]? = some ⟨2, 4, b21, true⟩ := rfl
theorem p22 : P[22]? = some ⟨2, 5, b22, false⟩ := rfl
theorem p23 : P[23]? = some ⟨1, 3, b23, false⟩ := rfl
theorem p24 : P[24]? = some ⟨3, 6, b24, false⟩ := rfl
theorem p25 : P[25]? = some ⟨1, 7, b25, true⟩ := rfl
theorem p26 : P[26]? = some ⟨1, 5, b26, false⟩ := rfl
theorem p27 : P[27]? = some ⟨1, 6, b27, false⟩ := rfl
theorem p28 : P[28]? = some ⟨1, 2, b28, false⟩ := rfl
theorem p29 : P[29]? = some ⟨1, 3, b29, false⟩ := rfl
theorem p30 : P[30]? = some ⟨0, 1, b30, false⟩ := rfl
theorem p31 : P[31]? = some ⟨1, 8, b31, false⟩ := rfl
end Qk05

namespace Qk05
open PySem RP
local macro_rules | `(tactic| walk_at "ev") => `(tactic| simp only [e_v, lkV_some, lkG_some, e_k, e_g, e_tup, e_lst, e_lstM, e_dct, e_bin, e_cmp, e_chain, e_neg, e_not, e_and, e_or, e_ife, e_ix, e_call, e_bi, e_isi, e_mt, e_sl, e_rev, e_lc, es_nil, es_cons, i_seq, i_rng, i_zip, i_enum, a_nm, a_two, a_tup, a_lst, a_sub, s_ex', s_asg', s_two', s_aug', s_ret', s_ife', s_for', s_skip', ss_nil, ss_cons, it_tup, it_lst, zp_tup, zp_lst, en_lst, rev_lst, rev_tup, RP.neg_int, putTo_some, bi_len_tup, bi_len_lst, bi_list_tup, bi_tuple_lst, b_add, b_sub, c_lt, c_le, c_gt, c_ge, c_eqi, c_nei, c_isN, c_notN, c_eqnil, c_nenil, c_eqnilL, c_nenilL, c_eqstr, c_nestr, isB_bl, sz0, sz1, sz2, sz3, sz4, sz5, sz6, sz7, ix0, ix1, ix2, Tg.slots, wipeE, List.map_cons, List.map_nil, List.cons_append, List.nil_append, Nat.sub_self, List.replicate, List.getElem?_cons_zero, List.getElem?_cons_succ, List.set_cons_zero, List.set_cons_succ, Res.bind_ok, Res.thn_ok, Res.thn_exc, nxt_xc, nxt_nx, nxt_rt, br_some, tru_bl, if_true, if_false, Bool.false_eq_true, Bool.not_true, Bool.not_false, gg0, gg1, gg2, gg3, gg4, gg5, gg6, gg7])
local macro_rules | `(tactic| walk_at "end") => `(tactic| simp [nxt_nx, nxt_rt, ss_nil, br_some, tru_bl, D.top, tops, *])

theorem is_integer_eq {n : Nat} {st : Sto} {d : D} (F : FS st) (h : d.top = 0) : callN gl P (n + 1) 0 [d] st = .ok (.bl (isI d)) st := by
  rw [call_eq p0 rfl]
  simp only [b0]
  walk_at "ev"
  simp only [isi_top h]
  walk_at "ev"
  cases d <;> simp only [tyB, isI] <;> walk_at "ev" <;> exact fin_same F rfl rfl
def btw (d : D) (a b : Int) : Bool := match d with
  | .int i => decide (a ≤ i) && decide (i ≤ b)
  | _ => false
theorem is_between_eq {n : Nat} {st : Sto} {d : D} {a b : Int} (F : FS st) (h : d.top = 0) : callN gl P (n + 2) 1 [d, .int a, .int b] st = .ok (.bl (btw d a b)) st := by
  rw [call_eq p1 rfl]
  simp only [b1]
  walk_at "ev"
  rw [is_integer_eq F h]
  walk_at "ev"
  cases d with
  | int i =>
    simp only [isI]
    walk_at "ev"
    by_cases h1 : a ≤ i <;> simp only [h1, btw, decide_true, decide_false, Bool.true_and, Bool.false_and] <;> walk_at "ev" <;> exact fin_same F rfl rfl
  | _ => simp only [isI, btw]; walk_at "ev"; exact fin_same F rfl rfl
theorem is_node_eq {n : Nat} {st : Sto} {d : D} (F : FS st) (h : d.top = 0) : callN gl P (n + 1) 2 [d] st = .ok (.bl (tyB .tuple d)) st := by
  rw [call_eq p2 rfl]
  simp only [b2]
  walk_at "ev"
  simp only [isi_top h]
  walk_at "ev"
  exact fin_same F rfl rfl
theorem top_enc (p : Option (Int × Int)) : (encM p).top = 0 := by
  cases p with
  | none => rfl
  | some p => obtain ⟨a, b⟩ := p; rfl
theorem len_gt (n : Nat) : decide ((400 : Int) < (n : Int)) = decide (400 < n) := by
  by_cases h : 400 < n
  · rw [decide_eq_true h, decide_eq_true (by omega)]
  · rw [decide_eq_false h, decide_eq_false (by omega)]
/-- one part -/
def oneM (d0 : D) (k : Nat) (nd sp : Int) (x : D) (p : Option (Int × Int)) : Fl :=
  match p with
  | none => .rt .non
  | some (a, b) => if nd + a > 400 ∨ sp + b > big then .rt .non else .nx [some d0, some (.int ((k + 1 : Nat) : Int)), some (.int (nd + a)), some (.int (sp + b)), some x, some (.tup [.int a, .int b])]
theorem part_one {n k : Nat} {st : Sto} {d0 x : D} {nd sp : Int} {e5 : Option D} (hx : callN gl P n 3 [x, .int k] st = .ok (encM (measM k x)) st) :
    evSs gl (callN gl P n) b4f0 [some d0, some (.int ((k + 1 : Nat) : Int)), some (.int nd), some (.int sp), some x, e5] st = .ok (oneM d0 k nd sp x (measM k x)) st := by
  have hk : ((k + 1 : Nat) : Int) - 1 = (k : Int) := by omega
  simp only [b4f0]
  walk_at "ev"
  rw [hk, hx]
  walk_at "ev"
  cases q : measM k x with
  | none => simp only [encM, isNon, oneM]; walk_at "ev"
  | some ab =>
    obtain ⟨a, b⟩ := ab
    simp only [encM, isNon, oneM]
    walk_at "ev"
    by_cases c1 : nd + a > 400
    · have c1' : 400 < nd + a := c1
      simp only [c1', decide_true, c1, true_or]
      walk_at "ev"
    · have c1' : ¬ 400 < nd + a := c1
      simp only [c1', decide_false, c1, false_or]
      walk_at "ev"
      by_cases c2 : sp + b > big
      · have c2' : big < sp + b := c2
        simp only [c2', decide_true, c2]
        walk_at "ev"
      · have c2' : ¬ big < sp + b := c2
        simp only [c2', decide_false, c2]
        walk_at "ev"
/-- the loop over the parts -/
theorem parts_loop {n k : Nat} {st : Sto} {d0 : D} (F : FS st) (h0 : d0.top = 0) (IH : ∀ x : D, x.top = 0 → callN gl P n 3 [x, .int k] st = .ok (encM (measM k x)) st) :
    ∀ (xs : List D) (nd sp : Int) (e4 e5 : Option D), tops xs = 0 →
      ∃ e4' e5', forLoop (asg gl (callN gl P n) (.nm 4)) (evSs gl (callN gl P n) b4f0) [] st.length xs [some d0, some (.int ((k + 1 : Nat) : Int)), some (.int nd), some (.int sp), e4, e5] st =
        match foldM (measM k) xs nd sp with
        | none => .ok (.rt .non) st
        | some (a, b) => .ok (.nx [some d0, some (.int ((k + 1 : Nat) : Int)), some (.int a), some (.int b), e4', e5']) st
  | [], nd, sp, e4, e5, _ => ⟨e4, e5, by simp [forLoop, still, foldM]⟩
  | x :: xs, nd, sp, e4, e5, hp => by
    have hx : x.top = 0 ∧ tops xs = 0 := by simp only [tops] at hp; omega
    simp only [forLoop, still, if_true]
    walk_at "ev"
    rw [part_one (IH x hx.1)]
    walk_at "ev"
    cases q : measM k x with
    | none => exact ⟨none, none, by simp only [oneM, foldM, q, nxt_rt]⟩
    | some ab =>
      obtain ⟨a, b⟩ := ab
      simp only [oneM, foldM, q]
      by_cases c : nd + a > 400 ∨ sp + b > big
      · exact ⟨none, none, by simp only [if_pos c, nxt_rt]⟩
      · simp only [if_neg c, nxt_nx]
        obtain ⟨e4', e5', ih⟩ := parts_loop F h0 IH xs (nd + a) (sp + b) (some x) (some (.tup [.int a, .int b])) hx.2
        refine ⟨e4', e5', ?_⟩
        have et : envTop [some d0, some (.int ((k + 1 : Nat) : Int)), some (.int (nd + a)), some (.int (sp + b)), some x, some (.tup [.int a, .int b])] = 0 := by
          simp [envTop, D.top, tops, h0, hx.1]
        rw [et, trim_same F (Nat.zero_le _) rfl]
        exact ih
theorem measured_parts_eq {n k : Nat} {st : Sto} (F : FS st) (IH : ∀ x : D, x.top = 0 → callN gl P n 3 [x, .int k] st = .ok (encM (measM k x)) st) {d : D} (hd : d.top = 0) :
    callN gl P (n + 1) 4 [d, .int ((k + 1 : Nat) : Int)] st = .ok (encM (partsM (measM k) d)) st := by
  rw [call_eq p4 rfl]
  simp only [b4]
  walk_at "ev"
  simp only [isi_top hd]
  walk_at "ev"
  cases d with
  | tup xs =>
    simp only [tyB]
    walk_at "ev"
    simp only [len_gt, partsM]
    by_cases hl : 400 < xs.length
    · simp only [hl, decide_true, if_true]
      walk_at "ev"
      exact fin_same F rfl rfl
    · simp only [hl, decide_false, if_false, Bool.false_eq_true]
      walk_at "ev"
      obtain ⟨e4', e5', ih⟩ := parts_loop (d0 := .tup xs) F hd IH xs 1 0 none none (by simpa [D.top] using hd)
      rw [ih]
      cases q : foldM (measM k) xs 1 0 with
      | none => walk_at "ev"; exact fin_same F rfl rfl
      | some ab =>
        obtain ⟨a, b⟩ := ab
        walk_at "ev"
        exact fin_same F rfl rfl
  | _ =>
    simp only [tyB, partsM]
    walk_at "ev"
    exact fin_same F rfl rfl
theorem measured_multiple_eq {n k : Nat} {st : Sto} (F : FS st) {c x : D} (hc : c.top = 0) (hx : callN gl P (n + 2) 3 [x, .int k] st = .ok (encM (measM k x)) st) :
    callN gl P (n + 3) 5 [c, x, .int ((k + 1 : Nat) : Int)] st = .ok (encM (multM (measM k) c x)) st := by
  rw [call_eq p5 rfl]
  have hk : ((k + 1 : Nat) : Int) - 1 = (k : Int) := by omega
  simp only [b5]
  walk_at "ev"
  rw [is_between_eq F hc]
  walk_at "ev"
  cases c with
  | int i =>
    simp only [btw, multM]
    by_cases h1 : 0 ≤ i
    · by_cases h2 : i ≤ big
      · simp only [h1, h2, decide_true, Bool.and_self, true_and, if_true]
        walk_at "ev"
        rw [hk, hx]
        walk_at "ev"
        cases q : measM k x with
        | none => simp only [encM, isNon]; walk_at "ev"; exact fin_same F rfl rfl
        | some ab =>
          obtain ⟨a, b⟩ := ab
          obtain ⟨k1, k2, k3, k4⟩ := measM_ok _ _ _ q
          simp only at k1 k2 k3 k4
          have hm : mulOk i b = true := mulOk_of (small9 h1 h2) (small9 k3 k4)
          simp only [encM, isNon]
          walk_at "ev"
          by_cases c1 : a = 400
          · subst c1
            simp only [beq_self_eq_true, true_or]
            walk_at "ev"
            exact fin_same F rfl rfl
          · have c1' : (a == 400) = false := by simpa using c1
            simp only [c1', c1, false_or]
            walk_at "ev"
            rw [b_mul hm]
            walk_at "ev"
            by_cases c2 : i * b > big
            · have c2' : big < i * b := c2
              simp only [c2', decide_true, c2]
              walk_at "ev"
              exact fin_same F rfl rfl
            · have c2' : ¬ big < i * b := c2
              simp only [c2', decide_false, c2]
              walk_at "ev"
              rw [b_mul hm]
              walk_at "ev"
              exact fin_same F rfl rfl
      · simp only [h1, h2, decide_true, decide_false, Bool.and_false, and_false]
        walk_at "ev"
        exact fin_same F rfl rfl
    · simp only [h1, decide_false, Bool.false_and, false_and]
      walk_at "ev"
      exact fin_same F rfl rfl
  | _ =>
    simp only [btw, multM]
    walk_at "ev"
    exact fin_same F rfl rfl
theorem measured_eq : ∀ (k : Nat) (d : D) (st : Sto) (n : Nat), d.top = 0 → FS st → callN gl P (n + 2 * k + 3) 3 [d, .int k] st = .ok (encM (measM k d)) st
  | 0, d, st, n, hd, F => by
    rw [call_eq p3 rfl]
    simp only [b3]
    walk_at "ev"
    have : (((0 : Nat) : Int) == 0) = true := rfl
    simp only [this]
    walk_at "ev"
    rw [fin_same F rfl rfl]
    simp only [measM, encM]
  | k + 1, d, st, n, hd, F => by
    have hk : (((k + 1 : Nat) : Int) == 0) = false := by simp; omega
    have lv : n + 2 * (k + 1) + 3 = (n + 2 * k + 4) + 1 := by omega
    rw [lv, call_eq p3 rfl]
    simp only [b3]
    walk_at "ev"
    simp only [hk]
    walk_at "ev"
    rw [is_between_eq F hd]
    walk_at "ev"
    cases d with
    | int i =>
      simp only [btw, measM]
      by_cases h1 : 0 - big ≤ i
      · by_cases h2 : i ≤ big
        · simp only [h1, h2, decide_true, Bool.and_self, and_self]
          walk_at "ev"
          exact fin_same F rfl rfl
        · simp only [h1, h2, decide_true, decide_false, Bool.and_false, and_false]
          walk_at "ev"
          simp only [isi_top hd, tyB]
          walk_at "ev"
          exact fin_same F rfl rfl
      · simp only [h1, decide_false, Bool.false_and, false_and]
        walk_at "ev"
        simp only [isi_top hd, tyB]
        walk_at "ev"
        exact fin_same F rfl rfl
    | tup xs =>
      have hp : tops xs = 0 := by simpa [D.top] using hd
      simp only [btw]
      walk_at "ev"
      simp only [isi_top hd, tyB]
      walk_at "ev"
      cases xs with
      | nil =>
        simp only [List.isEmpty]
        walk_at "ev"
        rw [fin_same F rfl rfl]
        simp only [encM, measM]
      | cons x r =>
        simp only [List.isEmpty]
        walk_at "ev"
        have hx : x.top = 0 ∧ tops r = 0 := by simp only [tops] at hp; omega
        simp only [isi_top hx.1]
        walk_at "ev"
        cases x with
        | str t =>
          simp only [tyB]
          walk_at "ev"
          rw [c_in (ys := [.str "seq", .str "par"]) rfl rfl]
          walk_at "ev"
          have hg : ([D.str "seq", D.str "par"].any fun y => eqF y (.str t)) = isG (.str t) := rfl
          have hm : ([D.str "repeat", D.str "copies"].any fun y => eqF y (.str t)) = isM (.str t) := rfl
          rw [hg]
          match r, hx with
          | [], hx =>
            have l1 : (((([D.str t] : List D).length : Nat) : Int) == 2) = false := rfl
            have l2 : (((([D.str t] : List D).length : Nat) : Int) == 3) = false := rfl
            cases q1 : isG (.str t) <;> cases q2 : isM (.str t)
            all_goals
              simp only [l1]
              walk_at "ev"
              rw [c_in (ys := [.str "repeat", .str "copies"]) rfl rfl, hm, q2]
              walk_at "ev"
              try (simp only [l2]; walk_at "ev")
              rw [fin_same F rfl rfl]
              simp only [encM, measM]
          | [y], hx =>
            have l1 : (((([D.str t, y] : List D).length : Nat) : Int) == 2) = true := rfl
            have l2 : (((([D.str t, y] : List D).length : Nat) : Int) == 3) = false := rfl
            have hy : y.top = 0 := by have := hx.2; simp only [tops] at this; omega
            cases q1 : isG (.str t)
            · simp only [l1]
              walk_at "ev"
              rw [c_in (ys := [.str "repeat", .str "copies"]) rfl rfl, hm]
              walk_at "ev"
              cases q2 : isM (.str t)
              all_goals
                walk_at "ev"
                try (simp only [l2]; walk_at "ev")
                rw [fin_same F rfl rfl]
                simp only [encM, measM, q1, Bool.false_eq_true, if_false]
            · simp only [l1]
              walk_at "ev"
              rw [measured_parts_eq (n := n + 2 * k + 3) F (fun x hx => measured_eq k x st n hx F) hy]
              walk_at "ev"
              rw [fin_same F (top_enc _) rfl]
              simp only [measM, q1, if_true]
          | [c, y], hx =>
            have l1 : (((([D.str t, c, y] : List D).length : Nat) : Int) == 2) = false := rfl
            have l2 : (((([D.str t, c, y] : List D).length : Nat) : Int) == 3) = true := rfl
            have hy : c.top = 0 ∧ y.top = 0 := by have := hx.2; simp only [tops] at this; omega
            have fin2 : (if isM (.str t) = true then Res.ok (encM (multM (measM k) c y)) st else Res.ok D.non st) = Res.ok (encM (measM (k + 1) (.tup [.str t, c, y]))) st := by
              simp only [measM]
              cases isM (.str t) <;> rfl
            cases q1 : isG (.str t)
            all_goals
              simp only [l1]
              walk_at "ev"
              rw [c_in (ys := [.str "repeat", .str "copies"]) rfl rfl, hm]
              walk_at "ev"
              rw [← fin2]
              cases q2 : isM (.str t)
              · walk_at "ev"
                exact fin_same F rfl rfl
              · walk_at "ev"
                simp only [l2]
                walk_at "ev"
                rw [measured_multiple_eq (n := n + 2 * k + 1) F hy.1 (measured_eq k y st n hy.2 F)]
                walk_at "ev"
                exact fin_same F (top_enc _) rfl
          | a :: b :: c :: r, hx =>
            have l1 : ((((D.str t :: a :: b :: c :: r).length : Nat) : Int) == 2) = false := by simp; omega
            have l2 : ((((D.str t :: a :: b :: c :: r).length : Nat) : Int) == 3) = false := by simp; omega
            cases q1 : isG (.str t) <;> cases q2 : isM (.str t)
            all_goals
              simp only [l1]
              walk_at "ev"
              rw [c_in (ys := [.str "repeat", .str "copies"]) rfl rfl, hm, q2]
              walk_at "ev"
              try (simp only [l2]; walk_at "ev")
              rw [fin_same F rfl rfl]
              simp only [encM, measM]
        | _ =>
          simp only [tyB]
          walk_at "ev"
          rw [fin_same F rfl rfl]
          simp only [encM, measM]
    | _ =>
      simp only [btw, measM]
      walk_at "ev"
      simp only [isi_top hd, tyB]
      walk_at "ev"
      exact fin_same F rfl rfl
theorem is_job_eq {n : Nat} {st : Sto} {d : D} (F : FS st) (h : d.top = 0) : callN gl P (n + 30) 6 [d] st = .ok (.bl (measM 13 d).isSome) st := by
  rw [call_eq p6 rfl]
  simp only [b6]
  walk_at "ev"
  have := measured_eq 13 d st n h F
  rw [show ((13 : Nat) : Int) = (13 : Int) from rfl, show n + 2 * 13 + 3 = n + 29 by omega] at this
  rw [this]
  walk_at "ev"
  rw [fin_same F rfl rfl]
  cases measM 13 d with
  | none => rfl
  | some p => obtain ⟨a, b⟩ := p; rfl
end Qk05

namespace Qk05
open PySem RP
local macro_rules | `(tactic| walk_at "ev") => `(tactic| simp only [e_v, lkV_some, lkG_some, e_k, e_g, e_tup, e_lst, e_lstM, e_dct, e_bin, e_cmp, e_chain, e_neg, e_not, e_and, e_or, e_ife, e_ix, e_call, e_bi, e_isi, e_mt, e_sl, e_rev, e_lc, es_nil, es_cons, i_seq, i_rng, i_zip, i_enum, a_nm, a_two, a_tup, a_lst, a_sub, s_ex', s_asg', s_two', s_aug', s_ret', s_ife', s_for', s_skip', ss_nil, ss_cons, it_tup, it_lst, zp_tup, zp_lst, en_lst, rev_lst, rev_tup, RP.neg_int, putTo_some, bi_len_tup, bi_len_lst, bi_list_tup, bi_tuple_lst, b_add, b_sub, c_lt, c_le, c_gt, c_ge, c_eqi, c_nei, c_isN, c_notN, c_eqnil, c_nenil, c_eqnilL, c_nenilL, c_eqstr, c_nestr, isB_bl, sz0, sz1, sz2, sz3, sz4, sz5, sz6, sz7, ix0, ix1, ix2, Tg.slots, wipeE, List.map_cons, List.map_nil, List.cons_append, List.nil_append, Nat.sub_self, List.replicate, List.getElem?_cons_zero, List.getElem?_cons_succ, List.set_cons_zero, List.set_cons_succ, Res.bind_ok, Res.thn_ok, Res.thn_exc, nxt_xc, nxt_nx, nxt_rt, br_some, tru_bl, if_true, if_false, Bool.false_eq_true, Bool.not_true, Bool.not_false, a_many, a_many3, a_many4, s_three', bi_mx2, bi_mn2, ix3, b_pow18, b_pow30, b_pow60, b_pow15, b_pow12, b_pow6, gg0, gg1, gg2, gg3, gg4, gg5, gg6, gg7])
local macro_rules | `(tactic| walk_at "end") => `(tactic| simp [nxt_nx, nxt_rt, ss_nil, br_some, tru_bl, D.top, tops, *])

theorem take_ok {n m p : Nat} {st : Sto} {q : Int} (h : Pt p m st) (hm : m < 2 ^ 60) (hq : 0 < q) (hq2 : q < 2 ^ 3000) :
    Wp (callN gl P (n + 1) 22 [.ref p, .int q] st) fun d s => ∃ r : Int, d = .int r ∧ 0 ≤ r ∧ r < q ∧ Dr p (m + 1) st s := by
  obtain ⟨a, b, c, hp, h1, h2, h3, h4, h5, h6⟩ := h.ex
  have upd : ∀ (a' c' : Int), 0 ≤ a' → a' < 2 ^ 3000 → 0 ≤ c' → c' ≤ (m + 1 : Nat) → Dr p (m + 1) st (st.set p (.lst [.int a', .int b, .int c'])) := fun a' c' q1 q2 q3 q4 =>
    ⟨⟨h.fs.set rfl, a', b, c', get_set hp, q1, q2, h3, h4, q3, q4⟩, by simp, fun i hi => by rw [List.getElem?_set_ne (Ne.symm hi)]⟩
  rw [call_eq p22 rfl]
  simp only [b22]
  walk_at "ev"
  have x0 : ixD (.ref p) (.int 0) st = .ok (.int a) st := ixL (i := 0) hp rfl
  have x1 : ixD (.ref p) (.int 1) st = .ok (.int b) st := ixL (i := 1) hp rfl
  have x2 : ixD (.ref p) (.int 2) st = .ok (.int c) st := ixL (i := 2) hp rfl
  rw [x0]
  walk_at "ev"
  have hdq : divOk q = true := divOk_of hq (natAbs_lt (Int.le_of_lt hq) hq2 (by decide))
  by_cases ha : 0 < a
  · simp only [ha, decide_true]
    walk_at "ev"
    rw [x0]
    walk_at "ev"
    rw [b_mod hq]
    walk_at "ev"
    rw [x0]
    walk_at "ev"
    rw [b_fdiv hdq]
    walk_at "ev"
    have pa : putIx (.ref p) (.int 0) (.int (a / q)) st = some (st.set p (.lst [.int (a / q), .int b, .int c])) := put_at (i := 0) hp (by simp) (by show 3 ≤ sizeLine; decide)
    rw [pa]
    walk_at "ev"
    have d := upd (a / q) c (Int.ediv_nonneg h1 (by omega)) (Int.lt_of_le_of_lt (Int.ediv_le_self _ h1) h2) h5 (by omega)
    rw [d.fin rfl]
    exact wp_ok ⟨a % q, rfl, Int.emod_nonneg _ (by omega), Int.emod_lt_of_pos _ hq, d⟩
  · simp only [ha, decide_false]
    walk_at "ev"
    rw [x2]
    walk_at "ev"
    have pa : putIx (.ref p) (.int 2) (.int (c + 1)) st = some (st.set p (.lst [.int a, .int b, .int (c + 1)])) := put_at (i := 2) hp (by simp) (by show 3 ≤ sizeLine; decide)
    rw [pa]
    walk_at "ev"
    have d := upd a (c + 1) h1 h2 (by omega) (by omega)
    have hp' := get_set (o' := .lst [.int a, .int b, .int (c + 1)]) hp
    have y1 : ixD (.ref p) (.int 1) (st.set p (.lst [.int a, .int b, .int (c + 1)])) = .ok (.int b) (st.set p (.lst [.int a, .int b, .int (c + 1)])) := ixL (i := 1) hp' rfl
    have y2 : ixD (.ref p) (.int 2) (st.set p (.lst [.int a, .int b, .int (c + 1)])) = .ok (.int (c + 1)) (st.set p (.lst [.int a, .int b, .int (c + 1)])) := ixL (i := 2) hp' rfl
    have hc : c + 1 < 2 ^ 61 := by
      have : (m : Int) < 2 ^ 60 := by exact_mod_cast hm
      omega
    have m1 : mulOk 98317 (c + 1) = true := mulOk_of (natAbs_lt (k := 20) (by decide) (by decide) (by decide)) (natAbs_lt (k := 61) (by omega) hc (by decide))
    have m2 : mulOk 37 (c + 1) = true := mulOk_of (natAbs_lt (k := 20) (by decide) (by decide) (by decide)) (natAbs_lt (k := 61) (by omega) hc (by decide))
    have k1 : powOk (b + 98317 * (c + 1)) 3 = true := powOk_of (natAbs_lt (k := 90) (by omega) (by omega) (by decide)) (by decide) (by decide)
    rw [y1]
    walk_at "ev"
    rw [y2]
    walk_at "ev"
    rw [b_mul m1]
    walk_at "ev"
    rw [b_pow k1]
    walk_at "ev"
    rw [b_mod (by decide)]
    walk_at "ev"
    generalize hv : (b + 98317 * (c + 1)) ^ (3 : Int).toNat % 2305843009213693921 = v
    have v1 : 0 ≤ v := by rw [← hv]; exact Int.emod_nonneg _ (by decide)
    have v2 : v < 2305843009213693921 := by rw [← hv]; exact Int.emod_lt_of_pos _ (by decide)
    rw [y1]
    walk_at "ev"
    rw [b_mod (by decide)]
    walk_at "ev"
    rw [y2]
    walk_at "ev"
    rw [b_mul m2]
    walk_at "ev"
    have k2 : powOk (v + b % 65521 + 37 * (c + 1)) 5 = true := powOk_of (natAbs_lt (k := 90) (by omega) (by omega) (by decide)) (by decide) (by decide)
    rw [b_pow k2]
    walk_at "ev"
    rw [b_mod (by decide)]
    walk_at "ev"
    generalize hu : (v + b % 65521 + 37 * (c + 1)) ^ (5 : Int).toNat % 2305843009213693907 = u
    have hd2 : divOk 2048 = true := divOk_of (by decide) (natAbs_lt (k := 20) (by decide) (by decide) (by decide))
    rw [b_fdiv hd2]
    walk_at "ev"
    rw [b_mod hq]
    walk_at "ev"
    rw [d.fin rfl]
    exact wp_ok ⟨_, rfl, Int.emod_nonneg _ (by omega), Int.emod_lt_of_pos _ hq, d⟩
def potA : S := headS b21
def potB : S := headS (tailS b21)
def potR : Ss := tailS (tailS b21)
theorem pot_cut : b21 = .cons potA (.cons potB potR) := rfl
theorem pot_ok {n k : Nat} {st : Sto} {ns : List Int} (F : FS st) (h0 : st[0]? = some (.fro (ns.map D.int))) (hk : k < 100) :
    ∃ L, callN gl P (n + 1) 21 [.ref 0, .int (k : Int)] st = .ok (.ref st.length) (st ++ [.lst L]) ∧ Pt st.length 0 (st ++ [.lst L]) := by
  have mk : mulOk 6151 (k : Int) = true := mulOk_of (natAbs_lt (k := 60) (by decide) (by decide) (by decide)) (natAbs_lt (k := 60) (by omega) (by omega) (by decide))
  have ten : (0 : Int) < (10 ^ 60) ^ 14 := by decide +kernel
  have top : ((10 : Int) ^ 60) ^ 14 < 2 ^ 2999 := by decide +kernel
  have pw : bin .pow (.int (10 ^ 60)) (.int 14) st = .ok (.int ((10 ^ 60) ^ 14)) st := by
    have p : powOk (10 ^ 60) 14 = true := powOk_of (natAbs_lt (k := 200) (by decide) (by decide) (by decide)) (by decide) (by decide)
    rw [b_pow p]; rfl
  have rest : ∀ cell : Int, 0 ≤ cell → cell < (10 ^ 60) ^ 14 → ∃ L, (evSs gl (callN gl P n) potR [some (.ref 0), some (.int (k : Int)), some (.int cell), none] st).bind (fin true st.length) = .ok (.ref st.length) (st ++ [.lst L]) ∧ Pt st.length 0 (st ++ [.lst L]) := by
    intro cell c0 c1
    simp only [potR, tailS, b21]
    walk_at "ev"
    rw [b_mod (by decide)]
    walk_at "ev"
    rw [b_mul mk]
    walk_at "ev"
    have e0 := Int.emod_nonneg cell (show (2147483587 : Int) ≠ 0 by decide)
    have e1 := Int.emod_lt_of_pos cell (show (0 : Int) < 2147483587 by decide)
    have k1 : powOk (cell % 2147483587 + 6151 * (k : Int) + 3) 5 = true := powOk_of (natAbs_lt (k := 90) (by omega) (by omega) (by decide)) (by decide) (by decide)
    rw [b_pow k1]
    walk_at "ev"
    rw [b_mod (by decide)]
    walk_at "ev"
    generalize hv : (cell % 2147483587 + 6151 * (k : Int) + 3) ^ (5 : Int).toNat % 2305843009213693951 = v
    have v1 : 0 ≤ v := by rw [← hv]; exact Int.emod_nonneg _ (by decide)
    have v2 : v < 2305843009213693951 := by rw [← hv]; exact Int.emod_lt_of_pos _ (by decide)
    generalize hb : decide ((10 : Int) ^ 18 ≤ cell) = bb
    rw [show bi .int [.bl bb] st = .ok (.int (if bb then 1 else 0)) st from rfl]
    walk_at "ev"
    have mb : mulOk cell (if bb then 1 else 0) = true := mulOk_of (natAbs_lt (k := 2999) c0 (Int.lt_trans c1 top) (by decide)) (by cases bb <;> decide)
    rw [b_mul mb]
    walk_at "ev"
    have mm : 0 ≤ cell * (if bb = true then 1 else 0) ∧ cell * (if bb = true then 1 else 0) ≤ cell := by cases bb <;> simp <;> omega
    have e2 : (2 : Int) ^ 2999 ≤ 2 ^ 3000 := by decide +kernel
    refine ⟨[.int (cell * (if bb then 1 else 0)), .int v, .int 0], ?_, ⟨F.app rfl, _, v, 0, get_last, mm.1, by omega, v1, by omega, by omega, by omega⟩⟩
    rw [fin_rtM]
    unfold trim
    rw [if_neg (fun z => absurd z.1 (by simp [D.top]))]
  rw [call_eq p21 rfl, pot_cut, ss_cons]
  simp only [potA, potB, headS, tailS, b21]
  walk_at "ev"
  rw [bi_len_ref h0]
  walk_at "ev"
  by_cases h : k < ns.length
  · have : decide ((k : Int) < (((O.fro (ns.map D.int)).items.length : Nat) : Int)) = true := by simp [O.items, h]
    simp only [this]
    walk_at "ev"
    rw [ixL (i := k) (d := .int ns[k]) h0 (by simp [O.items, h])]
    walk_at "ev"
    rw [show bi .abs [.int ns[k]] st = .ok (.int (if ns[k] < 0 then -ns[k] else ns[k])) st from rfl]
    walk_at "ev"
    rw [pw]
    walk_at "ev"
    rw [b_mod ten]
    walk_at "ev"
    exact rest _ (Int.emod_nonneg _ (by decide +kernel)) (Int.emod_lt_of_pos _ ten)
  · have : decide ((k : Int) < (((O.fro (ns.map D.int)).items.length : Nat) : Int)) = false := by simp [O.items, h]
    simp only [this]
    walk_at "ev"
    exact rest 0 (Int.le_refl _) ten
theorem step_ok {n m p : Nat} {st : Sto} (h : Pt p m st) (hm : m + 5 < 2 ^ 60) :
    Wp (callN gl P (n + 2) 23 [.ref p] st) fun d s => ∃ r : Int, d = .int r ∧ 0 - big ≤ r ∧ r ≤ big ∧ Dr p (m + 5) st s := by
  rw [call_eq p23 rfl]
  simp only [b23]
  walk_at "ev"
  have b30 : (10 : Int) ^ 30 = big := by decide
  obtain ⟨_, s, e, r, rfl, r0, r1, d⟩ := take_ok (n := n) (q := 14) h (by omega) (by decide) (by decide)
  rw [e]
  walk_at "ev"
  by_cases h1 : r = 0
  · subst h1
    simp only [beq_self_eq_true]
    walk_at "ev"
    rw [d.fin rfl]
    exact wp_ok ⟨0, rfl, by decide, by decide, d.mono (by omega)⟩
  · have h1' : (r == 0) = false := by simpa using h1
    simp only [h1']
    walk_at "ev"
    by_cases h2 : r = 1
    · subst h2
      simp only [beq_self_eq_true]
      walk_at "ev"
      have q15 : (0 : Int) < 10 ^ 15 := by decide
      obtain ⟨_, s2, e2, a, rfl, a0, a1, d2⟩ := take_ok (n := n) (q := 10 ^ 15) d.pt (by omega) q15 (by decide)
      rw [e2]
      walk_at "ev"
      have k15 : (10 : Int) ^ 15 < 2 ^ 60 := by decide
      rw [b_mul (mulOk_of (natAbs_lt (k := 60) a0 (by omega) (by decide)) (natAbs_lt (k := 60) (by decide) k15 (by decide)))]
      walk_at "ev"
      obtain ⟨_, s3, e3, b, rfl, b0, b1, d3⟩ := take_ok (n := n) (q := 10 ^ 15) d2.pt (by omega) q15 (by decide)
      rw [e3]
      walk_at "ev"
      obtain ⟨_, s4, e4, c, rfl, c0, c1, d4⟩ := take_ok (n := n) (q := 4) d3.pt (by omega) (by decide) (by decide)
      rw [e4]
      walk_at "ev"
      obtain ⟨x, hx, ex⟩ := ix_mem (i := c) (st := s4) (xs := [D.int (a * 10 ^ 15 + b), D.int (0 - (a * 10 ^ 15 + b)), D.int (10 ^ 30), D.int (0 - 10 ^ 30)]) c0 c1
      rw [ex]
      walk_at "ev"
      have bd : 0 ≤ a * 10 ^ 15 + b ∧ a * 10 ^ 15 + b ≤ big := by omega
      have ex2 : ∃ v : Int, x = .int v ∧ 0 - big ≤ v ∧ v ≤ big := by
        simp only [List.mem_cons, List.not_mem_nil, or_false] at hx
        rcases hx with rfl | rfl | rfl | rfl
        · exact ⟨_, rfl, by omega, by omega⟩
        · exact ⟨_, rfl, by omega, by omega⟩
        · exact ⟨_, rfl, by decide, by decide⟩
        · exact ⟨_, rfl, by decide, by decide⟩
      obtain ⟨v, rfl, v1, v2⟩ := ex2
      have dd := ((d.trans d2).trans d3).trans d4
      rw [dd.fin rfl]
      exact wp_ok ⟨v, rfl, v1, v2, dd.mono (by omega)⟩
    · have h2' : (r == 1) = false := by simpa using h2
      simp only [h2']
      walk_at "ev"
      obtain ⟨_, s2, e2, a, rfl, a0, a1, d2⟩ := take_ok (n := n) (q := 19) d.pt (by omega) (by decide) (by decide)
      rw [e2]
      walk_at "ev"
      rw [(d.trans d2).fin rfl]
      have : (1000 : Int) ≤ big := by decide
      exact wp_ok ⟨a - 9, rfl, by omega, by omega, (d.trans d2).mono (by omega)⟩
/-- what the law draws -/
inductive GJ (C : Nat) : Nat → J → Prop where
  | step {k : Nat} {i : Int} : 0 - big ≤ i → i ≤ big → GJ C (k + 1) (.step i)
  | grp {k : Nat} {w : Bool} {xs : List J} : xs.length ≤ 4 → (∀ x ∈ xs, GJ C k x) → GJ C (k + 1) (.grp w xs)
  | mul {k c : Nat} {w : Bool} {x : J} : c ≤ C → GJ C k x → GJ C (k + 1) (.mul w c x)
theorem encs_of {Q : J → Prop} : ∀ {ys : List D}, (∀ y ∈ ys, ∃ j, y = enc j ∧ Q j) → ∃ xs : List J, ys = encs xs ∧ ∀ x ∈ xs, Q x
  | [], _ => ⟨[], rfl, fun x hx => nomatch hx⟩
  | y :: ys, h => by
    obtain ⟨v, rfl, hv⟩ := h y List.mem_cons_self
    obtain ⟨s, rfl, hs⟩ := encs_of fun z hz => h z (List.mem_cons_of_mem _ hz)
    refine ⟨v :: s, rfl, fun x hx => ?_⟩
    rcases List.mem_cons.mp hx with rfl | hx
    · exact hv
    · exact hs x hx
def drN : Nat → Nat
  | 0 => 0
  | k + 1 => 30 + 4 * drN k
theorem drN_pos (k : Nat) : 30 ≤ drN (k + 1) := by simp [drN]
theorem numb_len : ∀ (n : Nat) (i : Int), (numb i n).length = n
  | 0, _ => rfl
  | n + 1, i => by simp only [numb, List.length_cons, numb_len n]
/-- a group's parts drawn -/
theorem parts_ok {cf : CallF} {elt : E} {env : RP.Env} {p T C k m : Nat} {many : Int} {st : Sto} (h : Pt p m st) (h0 : 0 ≤ many) (h4 : many ≤ 4) (hm : m + 4 * T < 2 ^ 60)
    (hel : ∀ (st : Sto) (m : Nat) (x : D), Pt p m st → m + T < 2 ^ 60 → ∃ j st', ev gl cf elt (env.set 5 (some x)) st = .ok (enc j) st' ∧ GJ C k j ∧ Dr p (m + T) st st') :
    ∃ xs st', lcLoop (asg gl cf (.nm 5)) (ev gl cf (.k (.bl true))) (ev gl cf elt) [] st.length env (numb 0 (many - 0).toNat) [] st = .ok (encs xs) st' ∧ xs.length ≤ 4 ∧ (∀ x ∈ xs, GJ C k x) ∧ Dr p (m + 4 * T) st st' := by
  have hn : (numb 0 (many - 0).toNat).length ≤ 4 := by rw [numb_len]; omega
  have ht : T * (numb 0 (many - 0).toNat).length ≤ 4 * T := by rw [Nat.mul_comm 4 T]; exact Nat.mul_le_mul_left T hn
  obtain ⟨ys, st', e, ly, qy, ty, d⟩ := lc_draw (gl := gl) (cf := cf) (elt := ev gl cf elt) (env := env) (i := 5) (p := p) (T := T) (M := m + 4 * T) (Q := fun y => ∃ j, y = enc j ∧ GJ C k j) (fun st m' x hpt hm' => by
    obtain ⟨j, st', e', g, d'⟩ := hel st m' x hpt (by omega)
    exact ⟨_, st', e', ⟨j, rfl, g⟩, enc_top j, d'⟩) (numb 0 (many - 0).toNat) [] st m st.length h rfl (by omega) rfl (by rw [List.length_nil, Nat.zero_add]; exact Nat.le_trans hn (by decide : 4 ≤ sizeLine))
  obtain ⟨xs, rfl, hx⟩ := encs_of qy
  exact ⟨xs, st', by simpa using e, by rw [encs_len] at ly; omega, hx, d.mono (by omega)⟩
theorem two_words {st : Sto} {r : Int} (a b : Str) (r0 : 0 ≤ r) : ∃ w : Bool, ixD (.lst [.str a, .str b]) (.int (r % 2)) st = .ok (.str (if w then b else a)) st := by
  have h0 : 0 ≤ r % 2 := Int.emod_nonneg _ (by decide)
  have h1 : r % 2 < 2 := Int.emod_lt_of_pos _ (by decide)
  rcases (show r % 2 = 0 ∨ r % 2 = 1 by omega) with e | e <;> rw [e]
  · exact ⟨false, rfl⟩
  · exact ⟨true, rfl⟩
theorem small_menu {st : Sto} {xs : List Int} {r : Int} (r0 : 0 ≤ r) (r1 : r < xs.length) : ∃ v ∈ xs, ixD (.lst (xs.map D.int)) (.int r) st = .ok (.int v) st := by
  obtain ⟨x, hx, e⟩ := ix_mem (i := r) (st := st) (xs := xs.map D.int) r0 (by simpa using r1)
  obtain ⟨v, hv, rfl⟩ := List.mem_map.mp hx
  exact ⟨v, hv, e⟩
def jobE : E := .call 23 (.cons (.v 0) .nil)
theorem job_ok {C : Nat} : ∀ (k n m p : Nat) (st : Sto) (cs : List Int), 0 < cs.length → cs.length ≤ 100 → (∀ c ∈ cs, 0 ≤ c ∧ c ≤ C) → Pt p m st → m + drN (k + 1) < 2 ^ 60 →
    Wp (callN gl P (n + k + 3) 24 [.ref p, .int ((k + 1 : Nat) : Int), .lst (cs.map D.int)] st) fun d s => ∃ j, d = enc j ∧ GJ C (k + 1) j ∧ Dr p (m + drN (k + 1)) st s := by
  intro k
  induction k with
  | zero =>
    intro n m p st cs hc1 hc2 hc h hm
    have dn : drN (0 + 1) = 30 := rfl
    rw [show n + 0 + 3 = (n + 2) + 1 from rfl, call_eq p24 rfl]
    simp only [b24]
    walk_at "ev"
    obtain ⟨_, s1, e1, r, rfl, r0, r1, d1⟩ := take_ok (n := n + 1) (q := 9) h (by omega) (by decide) (by decide)
    rw [e1]
    walk_at "ev"
    have l2 : decide (((0 + 1 : Nat) : Int) < 2) = true := by decide
    simp only [l2]
    walk_at "ev"
    obtain ⟨_, s2, e2, i, rfl, i0, i1, d2⟩ := step_ok (n := n) d1.pt (by omega)
    rw [e2]
    walk_at "ev"
    rw [(d1.trans d2).fin rfl]
    exact wp_ok ⟨.step i, rfl, .step i0 i1, (d1.trans d2).mono (by omega)⟩
  | succ k ih =>
    intro n m p st cs hc1 hc2 hc h hm
    have dn : drN (k + 1 + 1) = 30 + 4 * drN (k + 1) := rfl
    have hk : ((k + 1 + 1 : Nat) : Int) - 1 = ((k + 1 : Nat) : Int) := by omega
    rw [show n + (k + 1) + 3 = (n + k + 3) + 1 from rfl, call_eq p24 rfl]
    simp only [b24]
    walk_at "ev"
    obtain ⟨_, s1, e1, r, rfl, r0, r1, d1⟩ := take_ok (n := n + k + 2) (q := 9) h (by omega) (by decide) (by decide)
    rw [e1]
    walk_at "ev"
    have l2 : decide (((k + 1 + 1 : Nat) : Int) < 2) = false := by simp; omega
    simp only [l2]
    walk_at "ev"
    by_cases c0 : r = 0
    · subst c0
      simp only [beq_self_eq_true]
      walk_at "ev"
      obtain ⟨_, s2, e2, i, rfl, i0, i1, d2⟩ := step_ok (n := n + k + 1) d1.pt (by omega)
      rw [e2]
      walk_at "ev"
      rw [(d1.trans d2).fin rfl]
      exact wp_ok ⟨.step i, rfl, .step i0 i1, (d1.trans d2).mono (by omega)⟩
    have c0' : (r == 0) = false := by simpa using c0
    simp only [c0']
    walk_at "ev"
    by_cases c3 : r < 3
    · simp only [c3, decide_true]
      walk_at "ev"
      obtain ⟨_, s2, e2, q, rfl, q0, q1, d2⟩ := take_ok (n := n + k + 2) (q := 4) d1.pt (by omega) (by decide) (by decide)
      rw [e2]
      walk_at "ev"
      obtain ⟨many, hv, ex⟩ := small_menu (st := s2) (xs := [3, 2, 4, 0]) q0 q1
      rw [show ([D.int 3, D.int 2, D.int 4, D.int 0] : List D) = [3, 2, 4, 0].map D.int from rfl, ex]
      have hb : 0 ≤ many ∧ many ≤ 4 := by
        simp only [List.mem_cons, List.not_mem_nil, or_false] at hv
        omega
      walk_at "ev"
      rw [rng_of (by omega)]
      walk_at "ev"
      obtain ⟨xs, s3, e3, l3, g3, d3⟩ := parts_ok (C := C) (k := k + 1) (T := 5) (cf := callN gl P (n + k + 3)) (elt := b24c0) (env := [some (.ref p), some (.int ((k + 1 + 1 : Nat) : Int)), some (.lst (cs.map D.int)), some (.int r), some (.int many), none]) d2.pt hb.1 hb.2 (by omega) (fun st m x hpt hm' => by
        obtain ⟨_, s', e', i, rfl, i0, i1, d'⟩ := step_ok (n := n + k + 1) hpt (by omega)
        refine ⟨.step i, s', ?_, .step i0 i1, d'⟩
        simp only [b24c0]
        walk_at "ev"
        exact e')
      rw [e3]
      walk_at "ev"
      rw [((d1.trans d2).trans d3).fin (by show (D.tup [.str "seq", .tup (encs xs)]).top = 0; simp only [D.top, tops, encs_top]; rfl)]
      exact wp_ok ⟨.grp false xs, rfl, .grp l3 g3, ((d1.trans d2).trans d3).mono (by omega)⟩
    · simp only [c3, decide_false]
      walk_at "ev"
      by_cases c7 : r < 7
      · simp only [c7, decide_true]
        walk_at "ev"
        obtain ⟨_, s2, e2, q, rfl, q0, q1, d2⟩ := take_ok (n := n + k + 2) (q := 6) d1.pt (by omega) (by decide) (by decide)
        rw [e2]
        walk_at "ev"
        obtain ⟨many, hv, ex⟩ := small_menu (st := s2) (xs := [2, 3, 2, 1, 3, 0]) q0 q1
        rw [show ([D.int 2, D.int 3, D.int 2, D.int 1, D.int 3, D.int 0] : List D) = [2, 3, 2, 1, 3, 0].map D.int from rfl, ex]
        have hb : 0 ≤ many ∧ many ≤ 4 := by
          simp only [List.mem_cons, List.not_mem_nil, or_false] at hv
          omega
        walk_at "ev"
        rw [b_mod (by decide)]
        walk_at "ev"
        obtain ⟨w, ew⟩ := two_words (st := s2) "seq" "par" r0
        rw [ew]
        walk_at "ev"
        rw [rng_of (by omega)]
        walk_at "ev"
        obtain ⟨xs, s3, e3, l3, g3, d3⟩ := parts_ok (C := C) (k := k + 1) (T := drN (k + 1)) (cf := callN gl P (n + k + 3)) (elt := b24c1) (env := [some (.ref p), some (.int ((k + 1 + 1 : Nat) : Int)), some (.lst (cs.map D.int)), some (.int r), some (.int many), none]) d2.pt hb.1 hb.2 (by omega) (fun st m x hpt hm' => by
          obtain ⟨_, s', e', j, rfl, g, d'⟩ := ih n m p st cs hc1 hc2 hc hpt (by omega)
          refine ⟨j, s', ?_, g, d'⟩
          simp only [b24c1]
          walk_at "ev"
          rw [hk]
          exact e')
        rw [e3]
        walk_at "ev"
        have tt : (D.tup [.str (if w then "par" else "seq"), .tup (encs xs)]).top = 0 := by simp only [D.top, tops, encs_top]; rfl
        rw [((d1.trans d2).trans d3).fin tt]
        exact wp_ok ⟨.grp w xs, rfl, .grp l3 g3, ((d1.trans d2).trans d3).mono (by omega)⟩
      · simp only [c7, decide_false]
        walk_at "ev"
        rw [b_mod (by decide)]
        walk_at "ev"
        obtain ⟨w, ew⟩ := two_words (st := s1) "repeat" "copies" r0
        rw [ew]
        walk_at "ev"
        obtain ⟨_, s2, e2, q, rfl, q0, q1, d2⟩ := take_ok (n := n + k + 2) (q := ((cs.map D.int).length : Int)) d1.pt (by omega) (by simp; omega) (Int.lt_trans (show (((cs.map D.int).length : Nat) : Int) < 1000 by simp; omega) (by decide))
        rw [e2]
        walk_at "ev"
        obtain ⟨c, hv, ex⟩ := small_menu (st := s2) (xs := cs) q0 (by simpa using q1)
        rw [ex]
        walk_at "ev"
        rw [hk]
        obtain ⟨_, s3, e3, j, rfl, g, d3⟩ := ih n (m + 1 + 1) p s2 cs hc1 hc2 hc d2.pt (by omega)
        rw [e3]
        walk_at "ev"
        obtain ⟨c0, c1⟩ := hc c hv
        obtain ⟨c, rfl⟩ := Int.eq_ofNat_of_zero_le c0
        have tt : (D.tup [.str (if w then "copies" else "repeat"), .int (c : Int), enc j]).top = 0 := by simp only [D.top, tops, enc_top]; rfl
        rw [((d1.trans d2).trans d3).fin tt]
        exact wp_ok ⟨.mul w c j, rfl, .mul (by omega) g, ((d1.trans d2).trans d3).mono (by omega)⟩
end Qk05

namespace Qk05
open PySem RP
local macro_rules | `(tactic| walk_at "ev") => `(tactic| simp only [e_v, lkV_some, lkG_some, e_k, e_g, e_tup, e_lst, e_lstM, e_dct, e_bin, e_cmp, e_chain, e_neg, e_not, e_and, e_or, e_ife, e_ix, e_call, e_bi, e_isi, e_mt, e_sl, e_rev, e_lc, es_nil, es_cons, i_seq, i_rng, i_zip, i_enum, a_nm, a_two, a_tup, a_lst, a_sub, s_ex', s_asg', s_two', s_aug', s_ret', s_ife', s_for', s_skip', ss_nil, ss_cons, it_tup, it_lst, zp_tup, zp_lst, en_lst, rev_lst, rev_tup, RP.neg_int, putTo_some, bi_len_tup, bi_len_lst, bi_list_tup, bi_tuple_lst, b_add, b_sub, c_lt, c_le, c_gt, c_ge, c_eqi, c_nei, c_isN, c_notN, c_eqnil, c_nenil, c_eqnilL, c_nenilL, c_eqstr, c_nestr, isB_bl, sz0, sz1, sz2, sz3, sz4, sz5, sz6, sz7, ix0, ix1, ix2, Tg.slots, wipeE, List.map_cons, List.map_nil, List.cons_append, List.nil_append, Nat.sub_self, List.replicate, List.getElem?_cons_zero, List.getElem?_cons_succ, List.set_cons_zero, List.set_cons_succ, Res.bind_ok, Res.thn_ok, Res.thn_exc, nxt_xc, nxt_nx, nxt_rt, br_some, tru_bl, if_true, if_false, Bool.false_eq_true, Bool.not_true, Bool.not_false, a_many, a_many3, a_many4, s_three', bi_mx2, bi_mn2, ix3, b_pow18, b_pow30, b_pow60, b_pow15, b_pow12, b_pow6, gg0, gg1, gg2, gg3, gg4, gg5, gg6, gg7])
local macro_rules | `(tactic| walk_at "end") => `(tactic| simp [nxt_nx, nxt_rt, ss_nil, br_some, tru_bl, D.top, tops, *])
theorem steps_bd {C : Nat} : ∀ {k : Nat} {j : J}, GJ C k j → steps j ≤ (4 + C) ^ k
  | _, _, .step (k := k) _ _ => by simp only [steps]; exact Nat.pow_pos (by omega)
  | _, _, .grp (k := k) (xs := xs) hl hx => by
    have : ∀ {xs : List J}, (∀ x ∈ xs, GJ C k x) → stepss xs ≤ xs.length * (4 + C) ^ k := fun {xs} => by
      induction xs with
      | nil => intro _; simp [stepss]
      | cons y ys ih =>
        intro h
        have a := steps_bd (h y List.mem_cons_self)
        have b := ih fun z hz => h z (List.mem_cons_of_mem _ hz)
        simp only [stepss, List.length_cons, Nat.succ_mul]; omega
    have h1 := this hx
    have h2 : xs.length * (4 + C) ^ k ≤ (4 + C) * (4 + C) ^ k := Nat.mul_le_mul_right _ (by omega)
    simp only [steps, Nat.pow_succ]
    rw [Nat.mul_comm]
    omega
  | _, _, .mul (k := k) (c := c) hc hx => by
    have a := steps_bd hx
    have h2 : c * steps _ ≤ (4 + C) * (4 + C) ^ k := Nat.mul_le_mul (by omega) a
    simp only [steps, Nat.pow_succ]
    rw [Nat.mul_comm ((4 + C) ^ k)]
    exact h2
theorem sum_steps : ∀ xs : List J, (xs.map fun x => ((steps x : Nat) : Int)).sum = ((stepss xs : Nat) : Int)
  | [] => rfl
  | x :: xs => by simp only [List.map_cons, List.sum_cons, stepss, sum_steps xs, Int.natCast_add]
theorem dep_pos (j : J) : 1 ≤ dep j := by cases j <;> simp [dep] <;> omega
theorem natS {x k : Nat} (h : x < 2 ^ k) (hk : k ≤ 9000) : ((x : Int)).natAbs < 2 ^ 9000 := by
  rw [Int.natAbs_natCast]; exact Nat.lt_of_lt_of_le h (Nat.pow_le_pow_right (by decide) hk)
theorem natB {x : Nat} (h : (x : Int) ≤ big) : ((x : Int)).natAbs < 2 ^ 9000 := small9 (by omega) h
def nb : Nat → Nat
  | 0 => 0
  | k + 1 => 1 + 4 * nb k
theorem gj_nodes {C : Nat} : ∀ {k : Nat} {j : J}, GJ C k j → nodes j ≤ nb k
  | _, _, .step _ _ => by simp only [nodes, nb]; omega
  | _, _, .grp (k := k) (xs := xs) hl hx => by
    have : ∀ {xs : List J}, (∀ x ∈ xs, GJ C k x) → nodess xs ≤ xs.length * nb k := fun {xs} => by
      induction xs with
      | nil => intro _; simp [nodess]
      | cons y ys ih =>
        intro h
        have a := gj_nodes (h y List.mem_cons_self)
        have b := ih fun z hz => h z (List.mem_cons_of_mem _ hz)
        simp only [nodess, List.length_cons, Nat.succ_mul]; omega
    have h1 := this hx
    have h2 : xs.length * nb k ≤ 4 * nb k := Nat.mul_le_mul_right _ hl
    simp only [nodes, nb]; omega
  | _, _, .mul hc hx => by
    have := gj_nodes hx
    simp only [nodes, nb]; omega
theorem nb_mono : ∀ {k : Nat}, k ≤ 5 → nb k ≤ 341
  | 0, _ => by decide
  | 1, _ => by decide
  | 2, _ => by decide
  | 3, _ => by decide
  | 4, _ => by decide
  | 5, _ => by decide
  | k + 6, h => by omega
theorem pow7 {C k : Nat} (hC : C ≤ 3) (hk : k ≤ 5) : (4 + C) ^ k ≤ 16807 := by
  have a : (4 + C) ^ k ≤ 7 ^ k := Nat.pow_le_pow_left (by omega) k
  have b : 7 ^ k ≤ 7 ^ 5 := Nat.pow_le_pow_right (by decide) hk
  have c : 7 ^ 5 = 16807 := by decide
  omega
theorem big24 : (16807 : Int) ≤ big := by decide
theorem gj_sm {C : Nat} (hC : C ≤ 3) : ∀ {k : Nat} {j : J}, GJ C k j → k ≤ 5 → Sm j
  | _, _, .step h1 h2, _ => ⟨h1, h2⟩
  | _, _, .grp (k := k) (w := w) (xs := xs) hl hx, hk => by
    have g : GJ C (k + 1) (.grp w xs) := .grp hl hx
    have a := gj_nodes g
    have b := steps_bd g
    have c := nb_mono hk
    have d := pow7 hC hk
    have e := big24
    have all : ∀ {xs : List J}, (∀ x ∈ xs, GJ C k x) → Sms xs := fun {xs} => by
      induction xs with
      | nil => intro _; trivial
      | cons y ys ih => intro h; exact ⟨gj_sm hC (h y List.mem_cons_self) (by omega), ih fun z hz => h z (List.mem_cons_of_mem _ hz)⟩
    exact ⟨by omega, by omega, by omega, all hx⟩
  | _, _, .mul (k := k) (c := c) (w := w) (x := x) hc hx, hk => by
    have g : GJ C (k + 1) (.mul w c x) := .mul hc hx
    have a := gj_nodes g
    have b := steps_bd g
    have cc := nb_mono hk
    have d := pow7 hC hk
    have e := big24
    exact ⟨by omega, by omega, by omega, gj_sm hC hx (by omega)⟩
theorem gj_dep {C : Nat} : ∀ {k : Nat} {j : J}, GJ C k j → dep j ≤ k
  | _, _, .step _ _ => by simp only [dep]; omega
  | _, _, .grp (k := k) (xs := xs) _ hx => by
    have : ∀ {xs : List J}, (∀ x ∈ xs, GJ C k x) → deps xs ≤ k := fun {xs} => by
      induction xs with
      | nil => intro _; simp [deps]
      | cons y ys ih =>
        intro h
        have a := gj_dep (h y List.mem_cons_self)
        have b := ih fun z hz => h z (List.mem_cons_of_mem _ hz)
        simp only [deps]; omega
    have := this hx
    simp only [dep]; omega
  | _, _, .mul _ hx => by
    have := gj_dep hx
    simp only [dep]; omega
theorem GJ.up {C : Nat} : ∀ {k : Nat} {j : J}, GJ C k j → GJ C (k + 1) j
  | _, _, .step h1 h2 => .step h1 h2
  | _, _, .grp h1 h2 => .grp h1 fun x hx => (h2 x hx).up
  | _, _, .mul h1 h2 => .mul h1 h2.up
def spare : J := .grp true [.grp false [.step 5, .step (-3)], .mul true 2 (.step (-1))]
theorem spare_gj4 : GJ 3 4 spare := .grp (by decide) fun x hx => by
  simp only [List.mem_cons, List.not_mem_nil, or_false] at hx
  rcases hx with rfl | rfl
  · refine .grp (by decide) fun y hy => ?_
    simp only [List.mem_cons, List.not_mem_nil, or_false] at hy
    rcases hy with rfl | rfl <;> exact .step (by decide) (by decide)
  · exact .mul (by decide) (.step (by decide) (by decide))
theorem pt_in {p m : Nat} {st : Sto} (h : Pt p m st) : p < st.length := by
  obtain ⟨a, b, c, e, _⟩ := h.ex
  exact (List.getElem?_eq_some_iff.mp e).1
theorem spare_gj : GJ 3 5 spare := spare_gj4.up
end Qk05

namespace Qk05
open PySem RP
local macro_rules | `(tactic| walk_at "ev") => `(tactic| simp only [e_v, lkV_some, lkG_some, e_k, e_g, e_tup, e_lst, e_lstM, e_dct, e_bin, e_cmp, e_chain, e_neg, e_not, e_and, e_or, e_ife, e_ix, e_call, e_bi, e_isi, e_mt, e_sl, e_rev, e_lc, es_nil, es_cons, i_seq, i_rng, i_zip, i_enum, a_nm, a_two, a_tup, a_lst, a_sub, s_ex', s_asg', s_two', s_aug', s_ret', s_ife', s_for', s_skip', ss_nil, ss_cons, it_tup, it_lst, zp_tup, zp_lst, en_lst, rev_lst, rev_tup, RP.neg_int, putTo_some, bi_len_tup, bi_len_lst, bi_list_tup, bi_tuple_lst, b_add, b_sub, c_lt, c_le, c_gt, c_ge, c_eqi, c_nei, c_isN, c_notN, c_eqnil, c_nenil, c_eqnilL, c_nenilL, c_eqstr, c_nestr, isB_bl, sz0, sz1, sz2, sz3, sz4, sz5, sz6, sz7, ix0, ix1, ix2, Tg.slots, wipeE, List.map_cons, List.map_nil, List.cons_append, List.nil_append, Nat.sub_self, List.replicate, List.getElem?_cons_zero, List.getElem?_cons_succ, List.set_cons_zero, List.set_cons_succ, Res.bind_ok, Res.thn_ok, Res.thn_exc, nxt_xc, nxt_nx, nxt_rt, br_some, tru_bl, if_true, if_false, Bool.false_eq_true, Bool.not_true, Bool.not_false, a_many, a_many3, a_many4, s_three', bi_mx2, bi_mn2, ix3, b_pow18, b_pow30, b_pow60, b_pow15, b_pow12, b_pow6, gg0, gg1, gg2, gg3, gg4, gg5, gg6, gg7])
local macro_rules | `(tactic| walk_at "end") => `(tactic| simp [nxt_nx, nxt_rt, ss_nil, br_some, tru_bl, D.top, tops, *])

def encE (j : J) : D := .tup [.int (net j), .int (low j)]
theorem ext_loop {cf : CallF} {st : Sto} {w : Bool} {d1 : D} (F : FS st) (h1 : d1.top = 0) : ∀ (xs : List J) (tt ll : Int) (e4 e5 : Option D), ll ≤ tt → (∀ v, e4 = some v → v.top = 0) → (∀ v, e5 = some v → v.top = 0) →
    ∃ e4' e5', forLoop (asg gl cf (.two (.nm 4) (.nm 5))) (evSs gl cf b11f0) [] st.length (xs.map encE) [some (.str (gw w)), some d1, some (.int tt), some (.int ll), e4, e5] st =
      .ok (.nx [some (.str (gw w)), some d1, some (.int (tt + nets xs)), some (.int (if w then ll + lowsP xs else min ll (tt + lowsS xs))), e4', e5']) st
  | [], tt, ll, e4, e5, h, _, _ => ⟨e4, e5, by
    have : (if w = true then ll + lowsP [] else min ll (tt + lowsS [])) = ll := by cases w <;> simp [lowsP, lowsS] <;> omega
    simp only [List.map_nil, forLoop, still, if_true, nets, Int.add_zero, this]⟩
  | x :: xs, tt, ll, e4, e5, h, _, _ => by
    simp only [List.map_cons, encE, forLoop, still, if_true]
    walk_at "ev"
    simp only [b11f0]
    walk_at "ev"
    have lx := low_le x
    have ls := lowsS_le xs
    have ed : decide (gw w = Str.ofString "par") = w := by cases w <;> decide +kernel
    rw [ed]
    cases w with
    | true =>
      walk_at "ev"
      simp only [augD]
      walk_at "ev"
      have et : envTop [some (D.str (gw true)), some d1, some (D.int (tt + net x)), some (D.int (ll + low x)), some (D.int (net x)), some (D.int (low x))] = 0 := by simp only [envTop, D.top, h1]; rfl
      rw [et, trim_same F (Nat.zero_le _) rfl]
      obtain ⟨e4', e5', e⟩ := ext_loop (cf := cf) (w := true) F h1 xs (tt + net x) (ll + low x) (some (.int (net x))) (some (.int (low x))) (by omega) (fun v hv => by cases hv; rfl) (fun v hv => by cases hv; rfl)
      refine ⟨e4', e5', ?_⟩
      simp only [b11f0] at e
      rw [e]
      simp only [if_true, nets, lowsP]
      rw [show tt + net x + nets xs = tt + (net x + nets xs) by omega, show ll + low x + lowsP xs = ll + (low x + lowsP xs) by omega]
    | false =>
      walk_at "ev"
      simp only [augD]
      walk_at "ev"
      have et : envTop [some (D.str (gw false)), some d1, some (D.int (tt + net x)), some (D.int (min ll (tt + low x))), some (D.int (net x)), some (D.int (low x))] = 0 := by simp only [envTop, D.top, h1]; rfl
      rw [et, trim_same F (Nat.zero_le _) rfl]
      obtain ⟨e4', e5', e⟩ := ext_loop (cf := cf) (w := false) F h1 xs (tt + net x) (min ll (tt + low x)) (some (.int (net x))) (some (.int (low x))) (by omega) (fun v hv => by cases hv; rfl) (fun v hv => by cases hv; rfl)
      refine ⟨e4', e5', ?_⟩
      simp only [b11f0] at e
      rw [e]
      simp only [Bool.false_eq_true, if_false, nets, lowsS]
      rw [show tt + net x + nets xs = tt + (net x + nets xs) by omega, show min (min ll (tt + low x)) (tt + net x + lowsS xs) = min ll (tt + min (low x) (net x + lowsS xs)) by omega]
theorem encE_tops : ∀ xs : List J, tops (xs.map encE) = 0
  | [] => rfl
  | x :: xs => by simp only [List.map_cons, tops, encE_tops xs]; rfl
theorem ext_parts {n : Nat} {w : Bool} {xs : List J} {st : Sto} (F : FS st) : callN gl P (n + 1) 11 [.str (gw w), .lst (xs.map encE)] st = .ok (encE (.grp w xs)) st := by
  rw [call_eq p11 rfl]
  simp only [b11]
  walk_at "ev"
  obtain ⟨e4', e5', e⟩ := ext_loop (cf := callN gl P n) (w := w) (d1 := .lst (xs.map encE)) F (by simp only [D.top, encE_tops]) xs 0 0 none none (Int.le_refl _) (fun v h => by cases h) (fun v h => by cases h)
  rw [e]
  walk_at "ev"
  rw [fin_same F rfl rfl]
  have ls := lowsS_le xs
  cases w with
  | true => simp only [encE, net, low, if_true, Int.zero_add]
  | false =>
    simp only [encE, net, low, Bool.false_eq_true, if_false, Int.zero_add]
    rw [show min 0 (lowsS xs) = lowsS xs by omega]
theorem is_copies (w : Bool) : decide (mw w = Str.ofString "copies") = w := by cases w <;> decide +kernel
theorem big9 {i : Int} (h0 : 0 ≤ i) (h1 : i ≤ big) : i.natAbs < 2 ^ 9000 := small9 h0 h1
theorem mul_bits {x : J} (h : Sm x) : (net x).natAbs < 2 ^ 9000 ∧ (low x).natAbs < 2 ^ 9000 := ⟨lt9000 h.bits.1 (by decide), lt9000 h.bits.2 (by decide)⟩
theorem extent_eq : ∀ (k : Nat) {j : J} {n : Nat} {st : Sto}, dep j ≤ k → Sm j → FS st → callN gl P (n + k + 2) 10 [enc j] st = .ok (encE j) st
  | 0, j, n, st, hk, _, _ => by cases j <;> simp [dep] at hk
  | k + 1, j, n, st, hk, S, F => by
    rw [show n + (k + 1) + 2 = (n + k + 2) + 1 from rfl, call_eq p10 rfl]
    simp only [b10]
    walk_at "ev"
    rw [is_node_eq F (enc_top j), enc_ty]
    walk_at "ev"
    cases j with
    | step i =>
      simp only [isStep, enc]
      walk_at "ev"
      exact fin_same F rfl rfl
    | grp w xs =>
      simp only [isStep, enc]
      walk_at "ev"
      rw [c_in rfl rfl, grp_word]
      walk_at "ev"
      rw [encs_map]
      have hS := S.2.2.2
      have hl := S.1
      rw [lc_mapG (g := encE) F (fun x hx => by
        refine ⟨?_, rfl⟩
        simp only [b10c0]
        walk_at "ev"
        have dx := parts_dep (j := .grp w xs) (x := x) hx
        exact extent_eq k (by simp only [dep] at hk dx; omega) (Sms_mem hS x hx) F) (Nat.le_trans hl (by decide : 400 ≤ sizeLine))]
      walk_at "ev"
      rw [ext_parts F]
      walk_at "ev"
      exact fin_same F rfl rfl
    | mul w c x =>
      simp only [isStep, enc]
      walk_at "ev"
      rw [c_in rfl rfl, mul_word]
      walk_at "ev"
      obtain ⟨hc, _, _, Sx⟩ := S
      rw [extent_eq k (by simp only [dep] at hk; omega) Sx F]
      simp only [encE]
      walk_at "ev"
      obtain ⟨b1, b2⟩ := mul_bits Sx
      have bc : (c : Int).natAbs < 2 ^ 9000 := big9 (by omega) hc
      by_cases h0 : c = 0
      · subst h0
        have : ((((0 : Nat) : Int)) == 0) = true := rfl
        simp only [this]
        walk_at "ev"
        rw [fin_same F rfl rfl]
        cases w <;> simp [net, low]
      · have h0' : ((c : Int) == 0) = false := by simpa using h0
        simp only [h0']
        walk_at "ev"
        rw [is_copies]
        cases w with
        | true =>
          walk_at "ev"
          rw [b_mul (mulOk_of bc b1)]
          walk_at "ev"
          rw [b_mul (mulOk_of bc b2)]
          walk_at "ev"
          exact fin_same F rfl rfl
        | false =>
          walk_at "ev"
          rw [b_mul (mulOk_of bc b1)]
          walk_at "ev"
          rw [b_mul (mulOk_of (big9 (by omega) (by omega)) b1)]
          walk_at "ev"
          rw [fin_same F rfl rfl]
          simp only [net, low, h0, if_false]
theorem check_ok {n : Nat} {j : J} {st : Sto} (hd : dep j ≤ 13) (S : Sm j) (F : FS st) : callN gl P (n + 31) 7 [enc j] st = .ok .non st := by
  rw [call_eq p7 rfl]
  simp only [b7]
  walk_at "ev"
  rw [is_job_eq F (enc_top j), measM_some hd S]
  walk_at "ev"
  simp only [Option.isSome]
  walk_at "ev"
  exact fin_none F rfl
theorem net_eq {n : Nat} {j : J} {st : Sto} (hd : dep j ≤ 13) (S : Sm j) (F : FS st) : callN gl P (n + 33) 14 [enc j] st = .ok (.int (net j)) st := by
  rw [call_eq p14 rfl]
  simp only [b14]
  walk_at "ev"
  rw [check_ok (n := n + 1) hd S F]
  walk_at "ev"
  rw [call_eq (n := n + 31) p12 rfl]
  simp only [b12]
  walk_at "ev"
  rw [show n + 31 = (n + 16) + 13 + 2 by omega, extent_eq 13 hd S F]
  simp only [encE]
  walk_at "ev"
  rw [fin_same F rfl rfl]
  walk_at "ev"
  exact fin_same F rfl rfl
theorem lowest_eq {n : Nat} {j : J} {st : Sto} (hd : dep j ≤ 13) (S : Sm j) (F : FS st) : callN gl P (n + 33) 15 [enc j] st = .ok (.int (low j)) st := by
  rw [call_eq p15 rfl]
  simp only [b15]
  walk_at "ev"
  rw [check_ok (n := n + 1) hd S F]
  walk_at "ev"
  rw [call_eq (n := n + 31) p13 rfl]
  simp only [b13]
  walk_at "ev"
  rw [show n + 31 = (n + 16) + 13 + 2 by omega, extent_eq 13 hd S F]
  simp only [encE]
  walk_at "ev"
  rw [fin_same F rfl rfl]
  walk_at "ev"
  exact fin_same F rfl rfl
/-! the law's own extent -/
def encL (j : J) : D := .lst [.int (net j), .int (low j)]
theorem rep_grp (w : Bool) : ([D.str "repeat", D.str "copies"].any fun y => eqF y (.str (gw w))) = false := by cases w <;> decide +kernel
theorem rep_mul (w : Bool) : ([D.str "repeat", D.str "copies"].any fun y => eqF y (.str (mw w))) = true := by cases w <;> decide +kernel
theorem is_par (w : Bool) : decide (gw w = Str.ofString "par") = w := by cases w <;> decide +kernel
end Qk05

namespace Qk05
open PySem RP
local macro_rules | `(tactic| walk_at "ev") => `(tactic| simp only [e_v, lkV_some, lkG_some, e_k, e_g, e_tup, e_lst, e_lstM, e_dct, e_bin, e_cmp, e_chain, e_neg, e_not, e_and, e_or, e_ife, e_ix, e_call, e_bi, e_isi, e_mt, e_sl, e_rev, e_lc, es_nil, es_cons, i_seq, i_rng, i_zip, i_enum, a_nm, a_two, a_tup, a_lst, a_sub, s_ex', s_asg', s_two', s_aug', s_ret', s_ife', s_for', s_skip', s_rse', s_tr', h_nil', h_cons', tr_nx, tr_rt, tr_xc, e_xis, e_xat, e_fnl, ss_nil, ss_cons, it_tup, it_lst, zp_tup, zp_lst, en_lst, rev_lst, rev_tup, RP.neg_int, putTo_some, bi_len_tup, bi_len_lst, bi_list_tup, bi_tuple_lst, b_add, b_sub, c_lt, c_le, c_gt, c_ge, c_eqi, c_nei, c_isN, c_notN, c_eqnil, c_nenil, c_eqnilL, c_nenilL, c_eqstr, c_nestr, isB_bl, sz0, sz1, sz2, sz3, sz4, sz5, sz6, sz7, ix0, ix1, ix2, Tg.slots, wipeE, List.map_cons, List.map_nil, List.cons_append, List.nil_append, Nat.sub_self, List.replicate, List.getElem?_cons_zero, List.getElem?_cons_succ, List.set_cons_zero, List.set_cons_succ, Res.bind_ok, Res.thn_ok, Res.thn_exc, nxt_xc, nxt_nx, nxt_rt, br_some, tru_bl, if_true, if_false, Bool.false_eq_true, Bool.not_true, Bool.not_false, a_many, a_many3, a_many4, s_three', bi_mx2, bi_mn2, ix3, b_pow18, b_pow30, b_pow60, b_pow15, b_pow12, b_pow6, gg0, gg1, gg2, gg3, gg4, gg5, gg6, gg7])
local macro_rules | `(tactic| walk_at "end") => `(tactic| simp [nxt_nx, nxt_rt, ss_nil, br_some, tru_bl, D.top, tops, *])
/-! what is refused -/
theorem fin_xc0 {mr : Bool} {st : Sto} {n c : Nat} {env : RP.Env} (F : FS st) (hn : n = st.length) : fin mr n (.xc ⟨c, []⟩ env) st = .exc ⟨c, []⟩ st := by
  rw [fin_xc (by simp [tops]), trim_same F (by simp [tops]) hn]
theorem pos_bool (x : Nat) : decide ((0 : Int) < ((x : Nat) : Int)) = decide (0 < x) := by
  by_cases h : 0 < x
  · rw [decide_eq_true h, decide_eq_true (by omega)]
  · rw [decide_eq_false h, decide_eq_false (by omega)]
theorem step_count_eq : ∀ (k : Nat) {j : J} {n : Nat} {st : Sto}, dep j ≤ k → Sm j → FS st → callN gl P (n + k + 1) 8 [enc j] st = .ok (.int (steps j : Nat)) st
  | 0, j, n, st, hk, _, _ => by have := dep_pos j; omega
  | k + 1, j, n, st, hk, g, F => by
    rw [show n + (k + 1) + 1 = (n + k + 1) + 1 from rfl, call_eq p8 rfl]
    simp only [b8]
    walk_at "ev"
    rw [is_node_eq F (enc_top j), enc_ty]
    walk_at "ev"
    cases j with
    | step i =>
      simp only [isStep]
      walk_at "ev"
      exact fin_same F rfl rfl
    | grp w xs =>
      simp only [isStep, enc]
      walk_at "ev"
      rw [c_in rfl rfl, grp_word]
      walk_at "ev"
      rw [encs_map]
      rw [lc_mapG (g := fun x => .int ((steps x : Nat) : Int)) F (fun x hx' => by
        refine ⟨?_, rfl⟩
        simp only [b8c0]
        walk_at "ev"
        exact step_count_eq k (by have := parts_dep (j := .grp w xs) (x := x) hx'; omega) (Sms_mem g.2.2.2 x hx') F) (Nat.le_trans g.1 (by decide : 400 ≤ sizeLine))]
      walk_at "ev"
      rw [show xs.map (fun x => D.int ((steps x : Nat) : Int)) = (xs.map fun x => ((steps x : Nat) : Int)).map D.int by rw [List.map_map]; rfl, bi_sum, sum_steps]
      walk_at "ev"
      exact fin_same F rfl rfl
    | mul w c x =>
      simp only [isStep, enc]
      walk_at "ev"
      rw [c_in rfl rfl, mul_word]
      walk_at "ev"
      have dx : dep x ≤ k := by simp only [dep] at hk; omega
      rw [step_count_eq k dx g.2.2.2 F]
      walk_at "ev"
      rw [b_mul (mulOk_of (natB g.1) (natB g.2.2.2.steps))]
      walk_at "ev"
      rw [fin_same F rfl rfl]
      simp only [steps, Int.natCast_mul]
theorem check_no {n : Nat} {d : D} {st : Sto} (h : d.top = 0) (hm : measM 13 d = none) (F : FS st) : callN gl P (n + 31) 7 [d] st = .exc ⟨0, []⟩ st := by
  rw [call_eq p7 rfl]
  simp only [b7]
  walk_at "ev"
  rw [is_job_eq F h, hm]
  simp only [Option.isSome]
  walk_at "ev"
  exact fin_xc0 F rfl
theorem no_step_count {n : Nat} {d : D} {st : Sto} (h : d.top = 0) (hm : measM 13 d = none) (F : FS st) : callN gl P (n + 32) 9 [d] st = .exc ⟨0, []⟩ st := by
  rw [call_eq p9 rfl]
  simp only [b9]
  walk_at "ev"
  rw [check_no h hm F]
  walk_at "ev"
  exact fin_xc0 F rfl
theorem no_net {n : Nat} {d : D} {st : Sto} (h : d.top = 0) (hm : measM 13 d = none) (F : FS st) : callN gl P (n + 32) 14 [d] st = .exc ⟨0, []⟩ st := by
  rw [call_eq p14 rfl]
  simp only [b14]
  walk_at "ev"
  rw [check_no h hm F]
  walk_at "ev"
  exact fin_xc0 F rfl
theorem no_lowest {n : Nat} {d : D} {st : Sto} (h : d.top = 0) (hm : measM 13 d = none) (F : FS st) : callN gl P (n + 32) 15 [d] st = .exc ⟨0, []⟩ st := by
  rw [call_eq p15 rfl]
  simp only [b15]
  walk_at "ev"
  rw [check_no h hm F]
  walk_at "ev"
  exact fin_xc0 F rfl
theorem no_tidy {n : Nat} {d : D} {st : Sto} (h : d.top = 0) (hm : measM 13 d = none) (F : FS st) : callN gl P (n + 32) 20 [d] st = .exc ⟨0, []⟩ st := by
  rw [call_eq p20 rfl]
  simp only [b20]
  walk_at "ev"
  rw [check_no h hm F]
  walk_at "ev"
  exact fin_xc0 F rfl
theorem step_count_ok {n : Nat} {j : J} {st : Sto} (hd : dep j ≤ 13) (S : Sm j) (F : FS st) : callN gl P (n + 33) 9 [enc j] st = .ok (.int (steps j : Nat)) st := by
  rw [call_eq p9 rfl]
  simp only [b9]
  walk_at "ev"
  rw [check_ok (n := n + 1) hd S F]
  walk_at "ev"
  rw [show n + 32 = (n + 18) + 13 + 1 by omega, step_count_eq 13 hd S F]
  walk_at "ev"
  exact fin_same F rfl rfl
theorem x0 {st : Sto} : xisD [0] (.exn 0 []) st = .ok (.bl true) st := rfl
theorem x1 {st : Sto} : xisD [1] (.exn 0 []) st = .ok (.bl false) st := rfl
theorem xn {st : Sto} : xisD [] (.exn 0 []) st = .ok (.bl false) st := rfl
end Qk05

namespace Qk05
open PySem RP
local macro_rules | `(tactic| walk_at "ev") => `(tactic| simp only [e_v, lkV_some, lkG_some, e_k, e_g, e_tup, e_lst, e_lstM, e_dct, e_bin, e_cmp, e_chain, e_neg, e_not, e_and, e_or, e_ife, e_ix, e_call, e_bi, e_isi, e_mt, e_sl, e_rev, e_lc, es_nil, es_cons, i_seq, i_rng, i_zip, i_enum, a_nm, a_two, a_tup, a_lst, a_sub, s_ex', s_asg', s_two', s_aug', s_ret', s_ife', s_for', s_skip', s_rse', s_tr', h_nil', h_cons', tr_nx, tr_rt, tr_xc, e_xis, e_xat, e_fnl, ss_nil, ss_cons, it_tup, it_lst, zp_tup, zp_lst, en_lst, rev_lst, rev_tup, RP.neg_int, putTo_some, bi_len_tup, bi_len_lst, bi_list_tup, bi_tuple_lst, b_add, b_sub, c_lt, c_le, c_gt, c_ge, c_eqi, c_nei, c_isN, c_notN, c_eqnil, c_nenil, c_eqnilL, c_nenilL, c_eqstr, c_nestr, isB_bl, sz0, sz1, sz2, sz3, sz4, sz5, sz6, sz7, ix0, ix1, ix2, Tg.slots, wipeE, List.map_cons, List.map_nil, List.cons_append, List.nil_append, Nat.sub_self, List.replicate, List.getElem?_cons_zero, List.getElem?_cons_succ, List.set_cons_zero, List.set_cons_succ, Res.bind_ok, Res.thn_ok, Res.thn_exc, nxt_xc, nxt_nx, nxt_rt, br_some, tru_bl, if_true, if_false, Bool.false_eq_true, Bool.not_true, Bool.not_false, a_many, a_many3, a_many4, s_three', bi_mx2, bi_mn2, ix3, b_pow18, b_pow30, b_pow60, b_pow15, b_pow12, b_pow6, gg0, gg1, gg2, gg3, gg4, gg5, gg6, gg7])
local macro_rules | `(tactic| walk_at "end") => `(tactic| simp [nxt_nx, nxt_rt, ss_nil, br_some, tru_bl, D.top, tops, *])
/-! grouped, tidy_parts, tidy_by -/
def emD : D := .tup [.str "seq", .tup []]
theorem emD_enc : emD = enc emp := rfl
theorem gw_copies (w : Bool) : decide (gw w = Str.ofString "copies") = false := by cases w <;> decide +kernel
theorem mw_copies (w : Bool) : decide (mw w = Str.ofString "copies") = w := by cases w <;> decide +kernel
/-- the two lists of grouped -/
def gs (st : Sto) (Q : List (Nat × J)) : Sto := st ++ [.lst ((Q.map (·.2)).map enc), .lst (Q.map fun q => .int (q.1 : Int))]
theorem gs_0 {st : Sto} {Q : List (Nat × J)} : (gs st Q)[st.length]? = some (.lst ((Q.map (·.2)).map enc)) := by simp [gs]
theorem gs_1 {st : Sto} {Q : List (Nat × J)} : (gs st Q)[st.length + 1]? = some (.lst (Q.map fun q => .int (q.1 : Int))) := by simp [gs]
theorem s2_0 {st : Sto} {a b y : O} : (st ++ [a, b]).set st.length y = st ++ [y, b] := by simp [List.set_append]
theorem s2_1 {st : Sto} {a b y : O} : (st ++ [a, b]).set (st.length + 1) y = st ++ [a, y] := by simp [List.set_append]
theorem tops_cnts : ∀ Q : List (Nat × J), tops (Q.map fun q => D.int (q.1 : Int)) = 0
  | [] => rfl
  | q :: Q => by simp only [List.map_cons, tops, tops_cnts Q]; rfl
theorem gs_fs {st : Sto} {Q : List (Nat × J)} (F : FS st) : FS (gs st Q) := fun o ho => by
  rcases List.mem_append.mp ho with h | h
  · exact F o h
  · simp only [List.mem_cons, List.not_mem_nil, or_false] at h
    rcases h with rfl | rfl
    · show tops _ = 0
      rw [← encs_map]; exact encs_top _
    · exact tops_cnts Q
theorem trim_len {t : Nat} {st : Sto} {N : Nat} (h : N = st.length) : trim N t st = st := by
  subst h
  unfold trim
  split
  · exact List.take_length
  · rfl
theorem joinC_len (Q : List (Nat × J)) (p : Nat × J) : (joinC Q p).length ≤ Q.length + 1 := by
  induction Q with
  | nil => simp [joinC]
  | cons q Q ih =>
    simp only [joinC]
    split <;> simp only [List.length_cons] <;> omega
/-- how a part is counted -/
theorem cntE_ok {n : Nat} {st s : Sto} {x : J} {f4 f5 : Option D} {d0 d1 d2 : Option D} (F : FS s) :
    evS gl (callN gl P (n + 1)) (headS b16f0) [d0, d1, d2, some (enc x), f4, f5] s = .ok (.nx [d0, d1, d2, some (enc x), some (.int ((cnt x).1 : Int)), some (enc (cnt x).2)]) s := by
  simp only [headS, b16f0]
  walk_at "ev"
  rw [is_node_eq F (enc_top x), enc_ty]
  walk_at "ev"
  cases x with
  | step i =>
    simp only [isStep]
    walk_at "ev"
    rfl
  | grp w xs =>
    simp only [isStep, enc]
    walk_at "ev"
    rw [gw_copies]
    walk_at "ev"
    rfl
  | mul w c y =>
    simp only [isStep, enc]
    walk_at "ev"
    rw [mw_copies]
    cases w with
    | false =>
      walk_at "ev"
      rfl
    | true =>
      walk_at "ev"
      rw [show slD (.tup [.str (mw true), .int (c : Int), enc y]) (.int 1) .non s = .ok (.tup [.int (c : Int), enc y]) s from rfl]
      walk_at "ev"
      rfl
theorem grp_turn {n : Nat} {st : Sto} {Q : List (Nat × J)} {x : J} {d0 : D} {f4 f5 : Option D} (F : FS st) (hQ : ∀ q ∈ Q, dep q.2 ≤ 30) (hx : dep x ≤ 30) (hl : Q.length ≤ 1000) :
    evSs gl (callN gl P (n + 1)) b16f0 [some d0, some (.ref st.length), some (.ref (st.length + 1)), some (enc x), f4, f5] (gs st Q) =
      .ok (.nx [some d0, some (.ref st.length), some (.ref (st.length + 1)), some (enc x), some (.int ((cnt x).1 : Int)), some (enc (cnt x).2)]) (gs st (joinC Q (cnt x))) := by
  have big : 20000 ≤ sizeLine := by decide
  have hy : dep (cnt x).2 ≤ 30 := Nat.le_trans (cnt_dep x) hx
  have hQ2 : ∀ y ∈ Q.map (·.2), dep y ≤ 30 := fun y hy => by
    obtain ⟨q, hq, rfl⟩ := List.mem_map.mp hy
    exact hQ q hq
  have c0 : b16f0 = .cons (headS b16f0) (tailS b16f0) := rfl
  rw [c0, sk (cntE_ok (st := st) (gs_fs F))]
  generalize cnt x = p at hy ⊢
  obtain ⟨c, y⟩ := p
  simp only at hy ⊢
  simp only [tailS, b16f0]
  walk_at "ev"
  rw [notin_enc gs_0 hy hQ2]
  by_cases m : y ∈ Q.map (·.2)
  · rw [decide_eq_true m]
    walk_at "ev"
    rw [s_augIx']
    walk_at "ev"
    obtain ⟨i, hi, hil⟩ := ixJ_mem m
    obtain ⟨h1, k, h2, h3⟩ := join_old (p := (c, y)) hi
    rw [index_enc gs_0 hy hQ2 hi]
    walk_at "ev"
    rw [ixL gs_1 (show (O.lst (Q.map fun q => D.int (q.1 : Int))).items[i]? = some (.int (k : Int)) from h2)]
    walk_at "ev"
    simp only [augD]
    walk_at "ev"
    rw [put_at gs_1 (by simpa using hil) (by simp; omega)]
    walk_at "ev"
    simp only [gs]
    rw [s2_1, h1, h3, Int.natCast_add]
  · rw [decide_eq_false m]
    walk_at "ev"
    rw [ap_at gs_0 (by simp; omega)]
    walk_at "ev"
    have e1 : (gs st Q).set st.length (.lst ((Q.map (·.2)).map enc ++ [enc y])) = st ++ [.lst ((Q.map (·.2)).map enc ++ [enc y]), .lst (Q.map fun q => .int (q.1 : Int))] := by simp only [gs]; rw [s2_0]
    rw [e1]
    rw [ap_at (xs := Q.map fun q => D.int (q.1 : Int)) (by simp) (by simp; omega)]
    walk_at "ev"
    rw [s2_1]
    have e2 : st ++ [O.lst ((Q.map (·.2)).map enc ++ [enc y]), .lst ((Q.map fun q => D.int (q.1 : Int)) ++ [.int 0])] = gs st (Q ++ [(0, y)]) := by simp [gs]
    rw [e2]
    rw [s_augIx']
    walk_at "ev"
    have hQ3 : ∀ z ∈ (Q ++ [((0 : Nat), y)]).map Prod.snd, dep z ≤ 30 := fun z hz => by
      simp only [List.map_append, List.map_cons, List.map_nil, List.mem_append, List.mem_cons, List.not_mem_nil, or_false] at hz
      rcases hz with hz | rfl
      · exact hQ2 z hz
      · exact hy
    have hi : ixJ y ((Q ++ [((0 : Nat), y)]).map Prod.snd) = some Q.length := by
      have : ∀ L : List J, ¬ y ∈ L → ixJ y (L ++ [y]) = some L.length := fun L => by
        induction L with
        | nil => intro _; simp [ixJ]
        | cons z L ih =>
          intro hm
          simp only [List.mem_cons, not_or] at hm
          simp only [List.cons_append, ixJ, List.length_cons]
          rw [if_neg (fun e => hm.1 e.symm), ih hm.2]; rfl
      have t := this (Q.map Prod.snd) m
      simpa using t
    rw [index_enc gs_0 hy hQ3 hi]
    walk_at "ev"
    rw [ixL gs_1 (show (O.lst ((Q ++ [((0 : Nat), y)]).map fun q : Nat × J => D.int (q.1 : Int))).items[Q.length]? = some (.int 0) by simp [O.items])]
    walk_at "ev"
    simp only [augD]
    walk_at "ev"
    rw [put_at gs_1 (by simp) (by simp; omega)]
    walk_at "ev"
    have hj : joinC Q (c, y) = Q ++ [(c, y)] := join_new (p := (c, y)) m
    simp only [gs]
    rw [s2_1, hj]
    simp [List.set_append]
theorem grp_loop {n N : Nat} {st : Sto} {d0 : D} {src : Src} (F : FS st) (hN : N = st.length + 2) (hs : ∀ Q, still src (gs st Q) = true) : ∀ (xs : List J) (Q : List (Nat × J)) (f3 f4 f5 : Option D), (∀ q ∈ Q, dep q.2 ≤ 30) → (∀ x ∈ xs, dep x ≤ 30) → Q.length + xs.length ≤ 1000 →
    ∃ f3' f4' f5', forLoop (asg gl (callN gl P (n + 1)) (.nm 3)) (evSs gl (callN gl P (n + 1)) b16f0) src N (xs.map enc) [some d0, some (.ref st.length), some (.ref (st.length + 1)), f3, f4, f5] (gs st Q) =
      .ok (.nx [some d0, some (.ref st.length), some (.ref (st.length + 1)), f3', f4', f5']) (gs st ((xs.map cnt).foldl joinC Q))
  | [], Q, f3, f4, f5, _, _, _ => ⟨f3, f4, f5, by simp only [List.map_nil, forLoop, hs, if_true, List.foldl_nil]⟩
  | x :: xs, Q, f3, f4, f5, hQ, hx, hl => by
    simp only [List.length_cons] at hl
    have len := joinC_len Q (cnt x)
    obtain ⟨a, b, c, e⟩ := grp_loop (n := n) (d0 := d0) F hN hs xs (joinC Q (cnt x)) (some (enc x)) (some (.int ((cnt x).1 : Int))) (some (enc (cnt x).2)) (fun q hq => by
      rcases mem_joinC hq with z | ⟨r, h1, h2⟩
      · rw [z]; exact Nat.le_trans (cnt_dep x) (hx x List.mem_cons_self)
      · rw [← h2]; exact hQ r h1) (fun y hy => hx y (List.mem_cons_of_mem _ hy)) (by omega)
    refine ⟨a, b, c, ?_⟩
    simp only [List.map_cons, forLoop, hs, if_true, a_nm, Res.bind_ok, List.set_cons_zero, List.set_cons_succ]
    rw [grp_turn F hQ (hx x List.mem_cons_self) (by omega), Res.bind_ok, nxt_nx, trim_len (by simp [gs, hN]), e]
    rfl
theorem zipd_map {α : Type} (f g : α → D) : ∀ Q : List α, zipd (Q.map f) (Q.map g) = Q.map fun q => .tup [f q, g q]
  | [] => rfl
  | q :: Q => by simp only [List.map_cons, zipd, zipd_map f g Q]
def ungD (q : Nat × J) : D := enc (ung q)
/-- grouped gives a fresh list behind its two lists -/
theorem grouped_eq {n m : Nat} {xs : List J} {st : Sto} (F : FS st) (hm : st[m]? = some (.lst (xs.map enc))) (hx : ∀ x ∈ xs, dep x ≤ 30) (hl : xs.length ≤ 900) :
    ∃ a b, callN gl P (n + 2) 16 [.ref m] st = .ok (.ref (st.length + 2)) (st ++ [a, b, .lst ((joined true xs).map enc)]) ∧ a.top = 0 ∧ b.top = 0 := by
  have big : 20000 ≤ sizeLine := by decide
  have ml : m < st.length := (List.getElem?_eq_some_iff.mp hm).1
  refine ⟨.lst (((joinL xs).map (·.2)).map enc), .lst ((joinL xs).map fun q => .int (q.1 : Int)), ?_, by show tops _ = 0; rw [← encs_map]; exact encs_top _, by show tops _ = 0; exact tops_cnts _⟩
  rw [call_eq p16 rfl]
  simp only [b16]
  walk_at "ev"
  have g0 : st ++ [O.lst []] ++ [O.lst []] = gs st [] := by simp [gs]
  have gl' : (st ++ [O.lst []]).length = st.length + 1 := by simp
  rw [g0, gl']
  have hmG : ∀ Q, (gs st Q)[m]? = some (.lst (xs.map enc)) := fun Q => by simp only [gs]; rw [List.getElem?_append_left ml]; exact hm
  rw [show itOf (.ref m) (gs st []) = .ok ([(m, xs.map enc)], xs.map enc) (gs st []) by simp only [itOf, seqOf, hmG, Option.map_some, srcOf]; rfl]
  walk_at "ev"
  obtain ⟨f3, f4, f5, el⟩ := grp_loop (n := n) (N := (gs st []).length) (d0 := .ref m) (src := [(m, xs.map enc)]) F (by simp [gs]) (fun Q => still_r1 (hmG Q)) xs [] none none none (fun q hq => nomatch hq) hx (by simp; omega)
  rw [el]
  walk_at "ev"
  have hQ : (xs.map cnt).foldl joinC [] = joinL xs := rfl
  rw [hQ]
  have hlen : (joinL xs).length ≤ 900 := by
    have : ∀ (ps Q : List (Nat × J)), (ps.foldl joinC Q).length ≤ Q.length + ps.length := fun ps => by
      induction ps with
      | nil => intro Q; simp
      | cons p ps ih => intro Q; have := ih (joinC Q p); have := joinC_len Q p; simp only [List.foldl_cons, List.length_cons]; omega
    have := this (xs.map cnt) []
    simp only [List.length_map, List.length_nil] at this
    exact Nat.le_trans this (by omega)
  rw [show joined true xs = (joinL xs).map ung from rfl]
  generalize joinL xs = Q at hlen ⊢
  rw [e_comp]
  walk_at "ev"
  have z : zipOf (.ref st.length) (.ref (st.length + 1)) (gs st Q) = .ok ([(st.length, (Q.map Prod.snd).map enc), (st.length + 1, Q.map fun q => D.int (q.1 : Int))], Q.map fun q => .tup [enc q.2, .int (q.1 : Int)]) (gs st Q) := by
    have l0 : lstOf (.ref st.length) (gs st Q) = some ((Q.map Prod.snd).map enc) := by simp only [lstOf, gs_0, Option.map_some]; rfl
    have l1 : lstOf (.ref (st.length + 1)) (gs st Q) = some (Q.map fun q => D.int (q.1 : Int)) := by simp only [lstOf, gs_1, Option.map_some]; rfl
    have zz := zipd_map (fun q : Nat × J => enc q.2) (fun q => D.int (q.1 : Int)) Q
    simp only [zipOf, l0, l1, srcOf, List.map_map]
    simp only [Function.comp_def, zz]
    rfl
  rw [z]
  walk_at "ev"
  have cr := comp_run (tg := asg gl (callN gl P (n + 1)) (.two (.nm 5) (.nm 4))) (cnd := ev gl (callN gl P (n + 1)) (.k (.bl true))) (elt := ev gl (callN gl P (n + 1)) b16c0)
    (src := [(st.length, (Q.map Prod.snd).map enc), (st.length + 1, Q.map fun q => D.int (q.1 : Int))]) (env := [some (.ref m), some (.ref st.length), some (.ref (st.length + 1)), f3, none, none]) (st := gs st Q)
    (en := fun q : Nat × J => D.tup [enc q.2, .int (q.1 : Int)]) (g := fun q => enc (ung q))
    (fun acc => still_r2 (by rw [List.getElem?_append_left (by simp [gs])]; exact gs_0) (by rw [List.getElem?_append_left (by simp [gs])]; exact gs_1)) Q [] (by simp; omega) (fun q _ acc => by
      refine ⟨_, by walk_at "ev"; rfl, by walk_at "ev", ?_⟩
      simp only [b16c0]
      walk_at "ev"
      by_cases c : q.1 = 1
      · rw [show ((q.1 : Int) == 1) = true by rw [c]; rfl]
        walk_at "ev"
        simp only [ung, c, if_true]
      · rw [show ((q.1 : Int) == 1) = false by rw [beq_eq_false_iff_ne]; omega]
        walk_at "ev"
        simp only [ung, c, if_false]
        rfl)
  rw [cr]
  walk_at "ev"
  have lg : (gs st Q).length = st.length + 2 := by simp [gs]
  rw [fin_rtM, lg]
  have tb : ∀ s : Sto, trim st.length (D.ref (st.length + 2)).top s = s := fun s => by
    unfold trim
    rw [if_neg (by simp only [D.top]; omega)]
  rw [tb]
  simp [gs]
end Qk05

namespace Qk05
open PySem RP
local macro_rules | `(tactic| walk_at "ev") => `(tactic| simp only [e_v, lkV_some, lkG_some, e_k, e_g, e_tup, e_lst, e_lstM, e_dct, e_bin, e_cmp, e_chain, e_neg, e_not, e_and, e_or, e_ife, e_ix, e_call, e_bi, e_isi, e_mt, e_sl, e_rev, e_lc, es_nil, es_cons, i_seq, i_rng, i_zip, i_enum, a_nm, a_two, a_tup, a_lst, a_sub, s_ex', s_asg', s_two', s_aug', s_ret', s_ife', s_for', s_skip', s_rse', s_tr', h_nil', h_cons', tr_nx, tr_rt, tr_xc, e_xis, e_xat, e_fnl, ss_nil, ss_cons, it_tup, it_lst, zp_tup, zp_lst, en_lst, rev_lst, rev_tup, RP.neg_int, putTo_some, bi_len_tup, bi_len_lst, bi_list_tup, bi_tuple_lst, b_add, b_sub, c_lt, c_le, c_gt, c_ge, c_eqi, c_nei, c_isN, c_notN, c_eqnil, c_nenil, c_eqnilL, c_nenilL, c_eqstr, c_nestr, isB_bl, sz0, sz1, sz2, sz3, sz4, sz5, sz6, sz7, ix0, ix1, ix2, Tg.slots, wipeE, List.map_cons, List.map_nil, List.cons_append, List.nil_append, Nat.sub_self, List.replicate, List.getElem?_cons_zero, List.getElem?_cons_succ, List.set_cons_zero, List.set_cons_succ, Res.bind_ok, Res.thn_ok, Res.thn_exc, nxt_xc, nxt_nx, nxt_rt, br_some, tru_bl, if_true, if_false, Bool.false_eq_true, Bool.not_true, Bool.not_false, a_many, a_many3, a_many4, s_three', bi_mx2, bi_mn2, ix3, b_pow18, b_pow30, b_pow60, b_pow15, b_pow12, b_pow6, gg7, gg0, gg1, gg2, gg3, gg4, gg5, gg6, gg7])
local macro_rules | `(tactic| walk_at "end") => `(tactic| simp [nxt_nx, nxt_rt, ss_nil, br_some, tru_bl, D.top, tops, *])
/-! tidy_parts, tidy_by, as_job, tidy -/
theorem ne_nil_ref {n : Nat} {o : O} {st : Sto} (h : st[n]? = some o) (hp : purs o.items = true) : cmp .ne (.ref n) (.lst []) st = .ok (.bl (!o.items.isEmpty)) st := by
  have q := eq_nil_ref h hp
  have e : eqD (.ref n) (.lst []) st = some o.items.isEmpty := by
    have : cmp .eq (.ref n) (.lst []) st = ofB (eqD (.ref n) (.lst []) st) st := rfl
    rw [this] at q
    cases z : eqD (.ref n) (.lst []) st with
    | none => rw [z] at q; cases q
    | some b => rw [z] at q; cases q; rfl
  show ofB ((eqD (.ref n) (.lst []) st).map not) st = _
  rw [e]; rfl
theorem gw_eq (v w : Bool) : decide (gw v = gw w) = decide (v = w) := by cases v <;> cases w <;> decide +kernel
theorem mw_gw (v w : Bool) : decide (mw v = gw w) = false := by cases v <;> cases w <;> decide +kernel
theorem gw_par (w : Bool) : decide (gw w = Str.ofString "par") = w := by cases w <;> decide +kernel
theorem ext_tup {st : Sto} {xs ys : List D} (hz : xs.length + ys.length ≤ sizeLine) : mt .extend (.ref st.length) [.tup ys] (st ++ [.lst xs]) = .ok .non (st ++ [.lst (xs ++ ys)]) := by
  have e : setL st.length (fun zs => some (zs ++ ys)) (st ++ [.lst xs]) = some (st ++ [.lst (xs ++ ys)]) := by
    simp only [setL, get_last, List.length_append]
    rw [if_pos (by omega)]
    simp
  simp only [RP.mt, extOf, e]
theorem em_ne (x : J) (st : Sto) : cmp .ne (enc x) (.tup [.str "seq", .tup []]) st = .ok (.bl (!decide (x = emp))) st := ne_enc (b := emp) (.inr (by decide))
theorem em_eq (x : J) (st : Sto) : cmp .eq (enc x) (.tup [.str "seq", .tup []]) st = .ok (.bl (decide (x = emp))) st := eq_enc (b := emp) (.inr (by decide))
theorem part_turn {n : Nat} {w : Bool} {x : J} {acc : List D} {st : Sto} {d1 : D} (F : FS (st ++ [.lst acc])) (hl : acc.length + nodes x ≤ 5000) :
    evSs gl (callN gl P (n + 1)) b17f0 [some (.str (gw w)), some d1, some (.ref st.length), some (enc x)] (st ++ [.lst acc]) = .ok (.nx [some (.str (gw w)), some d1, some (.ref st.length), some (enc x)]) (st ++ [.lst (acc ++ (flat1 w x).map enc)]) := by
  have big : 20000 ≤ sizeLine := by decide
  have np := nodes_pos x
  simp only [b17f0]
  walk_at "ev"
  rw [is_node_eq F (enc_top x), enc_ty]
  walk_at "ev"
  cases x with
  | step i =>
    simp only [isStep]
    walk_at "ev"
    rw [em_ne]
    rw [decide_eq_false (by simp [emp])]
    walk_at "ev"
    rw [ap_last (by omega)]
    walk_at "ev"
    rfl
  | mul v c y =>
    simp only [isStep, enc]
    walk_at "ev"
    rw [mw_gw]
    walk_at "ev"
    rw [show D.tup [.str (mw v), .int (c : Int), enc y] = enc (.mul v c y) from rfl, em_ne, decide_eq_false (by simp [emp])]
    walk_at "ev"
    rw [ap_last (by omega)]
    walk_at "ev"
    rfl
  | grp v ys =>
    simp only [isStep, enc]
    walk_at "ev"
    rw [gw_eq]
    by_cases e : v = w
    · subst e
      rw [decide_eq_true rfl]
      walk_at "ev"
      have l := len_nodess ys
      rw [ext_tup (by rw [encs_len]; simp only [nodes] at hl; omega)]
      walk_at "ev"
      simp only [flat1, if_true, encs_map]
    · rw [decide_eq_false e]
      walk_at "ev"
      rw [show D.tup [.str (gw v), .tup (encs ys)] = enc (.grp v ys) from rfl, em_ne]
      by_cases c : J.grp v ys = emp
      · rw [decide_eq_true c]
        walk_at "ev"
        simp only [flat1, e, c, if_true, if_false, List.map_nil, List.append_nil]
      · rw [decide_eq_false c]
        walk_at "ev"
        rw [ap_last (by omega)]
        walk_at "ev"
        simp only [flat1, e, c, if_false]
        rfl
theorem part_loop {n N : Nat} {w : Bool} {st : Sto} {d1 : D} (F : FS st) (hN : N = st.length + 1) : ∀ (xs : List J) (acc : List J) (f3 : Option D), acc.length + nodess xs ≤ 4000 →
    ∃ f3', forLoop (asg gl (callN gl P (n + 1)) (.nm 3)) (evSs gl (callN gl P (n + 1)) b17f0) [] N (xs.map enc) [some (.str (gw w)), some d1, some (.ref st.length), f3] (st ++ [.lst (acc.map enc)]) =
      .ok (.nx [some (.str (gw w)), some d1, some (.ref st.length), f3']) (st ++ [.lst ((acc ++ xs.flatMap (flat1 w)).map enc)])
  | [], acc, f3, _ => ⟨f3, by simp [forLoop, still]⟩
  | x :: xs, acc, f3, hl => by
    simp only [nodess] at hl
    have a := flat_nodes w x
    have b := len_nodess (flat1 w x)
    obtain ⟨f3', e⟩ := part_loop (n := n) (d1 := d1) F hN xs (acc ++ flat1 w x) (some (enc x)) (by simp only [List.length_append]; omega)
    refine ⟨f3', ?_⟩
    simp only [List.map_cons, forLoop, still, if_true, a_nm, Res.bind_ok, List.set_cons_zero, List.set_cons_succ]
    have Fa : FS (st ++ [.lst (acc.map enc)]) := F.cut (by rw [← encs_map]; exact encs_top _)
    rw [part_turn Fa (by simp only [List.length_map]; omega), Res.bind_ok, nxt_nx, trim_len (by simp [hN])]
    rw [← List.map_append, e, List.flatMap_cons, List.append_assoc]
def tpA : S := headS b17
def tpB : S := headS (tailS b17)
def tpC : S := headS (tailS (tailS b17))
def tpR : Ss := tailS (tailS (tailS b17))
theorem tp_cut : b17 = .cons tpA (.cons tpB (.cons tpC tpR)) := rfl
/-- the end: one part, some, none -/
theorem tp_end {cf : CallF} {w : Bool} {st s : Sto} {k : Nat} {zs : List J} {d1 : D} {f3 : Option D} (F : FS s) (hk : s[k]? = some (.lst (zs.map enc))) (hz : zs.length ≤ 5000) :
    evSs gl cf tpR [some (.str (gw w)), some d1, some (.ref k), f3] s = .ok (.rt (enc (wrap w zs))) s := by
  have big : 20000 ≤ sizeLine := by decide
  simp only [tpR, tailS, b17]
  walk_at "ev"
  rw [bi_len_ref hk]
  walk_at "ev"
  have li : (O.lst (zs.map enc)).items.length = zs.length := by simp [O.items]
  rw [li]
  match zs with
  | [z] =>
    rw [show (((([z] : List J).length : Nat) : Int) == 1) = true from rfl]
    walk_at "ev"
    rw [show (0 : Int) = ((0 : Nat) : Int) from rfl, ixL hk (show (O.lst ([z].map enc)).items[0]? = some (enc z) from rfl)]
    walk_at "ev"
    rfl
  | [] =>
    rw [show (((([] : List J).length : Nat) : Int) == 1) = false from rfl]
    walk_at "ev"
    rw [ne_nil_ref hk rfl]
    simp only [O.items, List.map_nil, List.isEmpty_nil]
    walk_at "ev"
    rfl
  | z :: y :: zs =>
    have c : ((((z :: y :: zs : List J).length : Nat) : Int) == 1) = false := by rw [beq_eq_false_iff_ne]; simp only [List.length_cons]; omega
    rw [c]
    walk_at "ev"
    have pp : purs (O.lst ((z :: y :: zs).map enc)).items = true := by
      show purs ((z :: y :: zs).map enc) = true
      rw [← encs_map]; exact encs_pur _
    rw [ne_nil_ref hk pp]
    simp only [O.items, List.map_cons, List.isEmpty_cons]
    walk_at "ev"
    rw [tup_ref hk]
    walk_at "ev"
    show Res.ok (Fl.rt (D.tup [.str (gw w), .tup (O.lst ((z :: y :: zs).map enc)).items])) s = _
    simp only [O.items, wrap, enc, encs_map]
theorem take_pre {st : Sto} {l : List O} : (st ++ l).take st.length = st := List.take_left
theorem tidy_parts_eq {n : Nat} {w : Bool} {xs : List J} {st : Sto} (F : FS st) (hx : ∀ x ∈ xs, dep x ≤ 30) (hn : nodess xs ≤ 800) : callN gl P (n + 3) 17 [.str (gw w), .lst (xs.map enc)] st = .ok (enc (tidG w xs)) st := by
  have big : 20000 ≤ sizeLine := by decide
  rw [call_eq p17 rfl]
  simp only [List.map_cons, List.map_nil, List.cons_append, List.nil_append, List.replicate, Nat.reduceSub]
  have eA : evS gl (callN gl P (n + 2)) tpA [some (.str (gw w)), some (.lst (xs.map enc)), none, none] st = .ok (.nx [some (.str (gw w)), some (.lst (xs.map enc)), some (.ref st.length), none]) (st ++ [.lst []]) := by
    simp only [tpA, headS, b17]
    walk_at "ev"
  obtain ⟨f3, eL⟩ := part_loop (n := n + 1) (N := st.length + 1) (w := w) (d1 := .lst (xs.map enc)) F rfl xs [] none (by simp; omega)
  have eB : evS gl (callN gl P (n + 2)) tpB [some (.str (gw w)), some (.lst (xs.map enc)), some (.ref st.length), none] (st ++ [.lst []]) = .ok (.nx [some (.str (gw w)), some (.lst (xs.map enc)), some (.ref st.length), f3]) (st ++ [.lst ((xs.flatMap (flat1 w)).map enc)]) := by
    simp only [tpB, tailS, headS, b17]
    walk_at "ev"
    have := eL
    simp only [List.map_nil, List.nil_append] at this
    rw [show (st ++ [O.lst []]).length = st.length + 1 by simp]
    exact this
  rw [tp_cut, sk eA, sk eB]
  have ln : nodess (xs.flatMap (flat1 w)) ≤ nodess xs := flats_nodes w xs
  have ll := len_nodess (xs.flatMap (flat1 w))
  have hy : ∀ y ∈ xs.flatMap (flat1 w), dep y ≤ 30 := fun y hy => by
    obtain ⟨x, h1, h2⟩ := List.mem_flatMap.mp hy
    exact Nat.le_trans (flat_dep h2) (hx x h1)
  show _ = Res.ok (enc (wrap w (joined w (xs.flatMap (flat1 w))))) st
  generalize xs.flatMap (flat1 w) = ys at ln ll hy ⊢
  have Fy : FS (st ++ [.lst (ys.map enc)]) := F.cut (by rw [← encs_map]; exact encs_top _)
  have jl := len_nodess (joined w ys)
  have jn := joined_nodes w ys
  have fin1 : ∀ {s : Sto} {z : J}, FS s → s.take st.length = st → (Res.ok (Fl.rt (enc z)) s).bind (fin false st.length) = .ok (enc z) st := fun {s z} Fs ht => by
    rw [Res.bind_ok, fin_rt (by rw [enc_top]; omega), trim_fs Fs (by rw [enc_top]; omega), ht]
  cases w with
  | false =>
    have eC : evS gl (callN gl P (n + 2)) tpC [some (.str (gw false)), some (.lst (xs.map enc)), some (.ref st.length), f3] (st ++ [.lst (ys.map enc)]) = .ok (.nx [some (.str (gw false)), some (.lst (xs.map enc)), some (.ref st.length), f3]) (st ++ [.lst (ys.map enc)]) := by
      simp only [tpC, tailS, headS, b17]
      walk_at "ev"
      rw [gw_par]
      walk_at "ev"
    rw [sk eC, tp_end (st := st) (k := st.length) (zs := joined false ys) Fy (by simp [joined]) (by omega)]
    exact fin1 Fy take_pre
  | true =>
    obtain ⟨a, b, eg, ha, hb⟩ := grouped_eq (n := n) (m := st.length) Fy (xs := ys) (by simp) hy (by omega)
    have lg : (st ++ [O.lst (ys.map enc)]).length = st.length + 1 := by simp
    rw [lg] at eg
    have Fs : FS (st ++ [O.lst (ys.map enc)] ++ [a, b, .lst ((joined true ys).map enc)]) := fun o ho => by
      rcases List.mem_append.mp ho with h | h
      · exact Fy o h
      · simp only [List.mem_cons, List.not_mem_nil, or_false] at h
        rcases h with rfl | rfl | rfl
        · exact ha
        · exact hb
        · show tops _ = 0
          rw [← encs_map]; exact encs_top _
    have eC : evS gl (callN gl P (n + 2)) tpC [some (.str (gw true)), some (.lst (xs.map enc)), some (.ref st.length), f3] (st ++ [.lst (ys.map enc)]) = .ok (.nx [some (.str (gw true)), some (.lst (xs.map enc)), some (.ref (st.length + 1 + 2)), f3]) (st ++ [O.lst (ys.map enc)] ++ [a, b, .lst ((joined true ys).map enc)]) := by
      simp only [tpC, tailS, headS, b17]
      walk_at "ev"
      rw [gw_par]
      walk_at "ev"
      rw [eg]
      walk_at "ev"
    rw [sk eC, tp_end (st := st) (k := st.length + 1 + 2) (zs := joined true ys) Fs (by rw [List.append_assoc, List.getElem?_append_right (by omega)]; simp [show st.length + 1 + 2 - st.length = 3 by omega]) (by omega)]
    exact fin1 Fs (by rw [List.append_assoc]; exact take_pre)
end Qk05

namespace Qk05
open PySem RP
local macro_rules | `(tactic| walk_at "ev") => `(tactic| simp only [e_v, lkV_some, lkG_some, e_k, e_g, e_tup, e_lst, e_lstM, e_dct, e_bin, e_cmp, e_chain, e_neg, e_not, e_and, e_or, e_ife, e_ix, e_call, e_bi, e_isi, e_mt, e_sl, e_rev, e_lc, es_nil, es_cons, i_seq, i_rng, i_zip, i_enum, a_nm, a_two, a_tup, a_lst, a_sub, s_ex', s_asg', s_two', s_aug', s_ret', s_ife', s_for', s_skip', s_rse', s_tr', h_nil', h_cons', tr_nx, tr_rt, tr_xc, e_xis, e_xat, e_fnl, ss_nil, ss_cons, it_tup, it_lst, zp_tup, zp_lst, en_lst, rev_lst, rev_tup, RP.neg_int, putTo_some, bi_len_tup, bi_len_lst, bi_list_tup, bi_tuple_lst, b_add, b_sub, c_lt, c_le, c_gt, c_ge, c_eqi, c_nei, c_isN, c_notN, c_eqnil, c_nenil, c_eqnilL, c_nenilL, c_eqstr, c_nestr, isB_bl, sz0, sz1, sz2, sz3, sz4, sz5, sz6, sz7, ix0, ix1, ix2, Tg.slots, wipeE, List.map_cons, List.map_nil, List.cons_append, List.nil_append, Nat.sub_self, List.replicate, List.getElem?_cons_zero, List.getElem?_cons_succ, List.set_cons_zero, List.set_cons_succ, Res.bind_ok, Res.thn_ok, Res.thn_exc, nxt_xc, nxt_nx, nxt_rt, br_some, tru_bl, if_true, if_false, Bool.false_eq_true, Bool.not_true, Bool.not_false, a_many, a_many3, a_many4, s_three', bi_mx2, bi_mn2, ix3, b_pow18, b_pow30, b_pow60, b_pow15, b_pow12, b_pow6, gg7, gg0, gg1, gg2, gg3, gg4, gg5, gg6, gg7])
local macro_rules | `(tactic| walk_at "end") => `(tactic| simp [nxt_nx, nxt_rt, ss_nil, br_some, tru_bl, D.top, tops, *])
/-! tidy_by, as_job, tidy -/
theorem mw_eq (v w : Bool) : decide (mw v = mw w) = decide (v = w) := by cases v <;> cases w <;> decide +kernel
theorem gw_mw (v w : Bool) : decide (gw v = mw w) = false := by cases v <;> cases w <;> decide +kernel
theorem fin_j {st : Sto} {z : J} (F : FS st) : fin false st.length (.rt (enc z)) st = .ok (enc z) st := fin_same F (enc_top z) rfl
theorem one_beq {n : Nat} : (((n : Nat) : Int) == 1) = decide (n = 1) := by
  by_cases h : n = 1
  · subst h; rfl
  · rw [decide_eq_false h, beq_eq_false_iff_ne]; omega
theorem zero_beq {n : Nat} : (((n : Nat) : Int) == 0) = decide (n = 0) := by
  by_cases h : n = 0
  · subst h; rfl
  · rw [decide_eq_false h, beq_eq_false_iff_ne]; omega
/-- the counts of a tidy form are small -/
theorem tid_count {x : J} {v : Bool} {m : Nat} {y : J} (S : Sm x) (e : tid x = .mul v m y) : (m : Int) ≤ big := by
  have nf := nf_tid x
  rw [e] at nf
  obtain ⟨m0, m1, hy, hye, _⟩ := nf
  have sy := nf_steps y hy hye
  have st := tid_steps x
  rw [e] at st
  simp only [steps] at st
  have hs := S.steps
  have : m ≤ m * steps y := Nat.le_mul_of_pos_right m sy
  omega
theorem tidy_by_eq : ∀ (k : Nat) {j : J} {n : Nat} {st : Sto}, dep j ≤ k → k ≤ 15 → Sm j → FS st → callN gl P (n + k + 4) 18 [enc j] st = .ok (enc (tid j)) st
  | 0, j, n, st, hk, _, _, _ => by have := dep_pos j; omega
  | k + 1, j, n, st, hk, hk2, S, F => by
    have big' : 20000 ≤ sizeLine := by decide
    rw [show n + (k + 1) + 4 = (n + k + 4) + 1 from rfl, call_eq p18 rfl]
    simp only [b18]
    walk_at "ev"
    rw [is_node_eq F (enc_top j), enc_ty]
    walk_at "ev"
    cases j with
    | step i =>
      simp only [isStep]
      walk_at "ev"
      exact fin_j F
    | grp w xs =>
      simp only [isStep, enc]
      walk_at "ev"
      rw [c_in rfl rfl, grp_word]
      walk_at "ev"
      rw [encs_map]
      have hS := S.2.2.2
      have hl := S.1
      rw [lc_mapG (g := fun x => enc (tid x)) F (fun x hx => by
        refine ⟨?_, enc_top _⟩
        simp only [b18c0]
        walk_at "ev"
        have dx := parts_dep (j := .grp w xs) (x := x) hx
        exact tidy_by_eq k (by simp only [dep] at hk dx; omega) (by omega) (Sms_mem hS x hx) F) (Nat.le_trans hl (by decide : 400 ≤ sizeLine))]
      walk_at "ev"
      have e1 : (xs.map fun x => enc (tid x)) = (tids xs).map enc := by rw [tids_map, List.map_map]; rfl
      rw [e1]
      have hd : ∀ x ∈ tids xs, dep x ≤ 30 := fun x hx => by
        have := tids_dep xs x hx
        simp only [dep] at hk; omega
      have hn : nodess (tids xs) ≤ 800 := by
        have := tids_nodes xs
        have := S.2.1
        simp only [nodes] at this; omega
      rw [show n + k + 4 = (n + k + 1) + 3 by omega, tidy_parts_eq F hd hn]
      walk_at "ev"
      exact fin_j F
    | mul w c x =>
      simp only [isStep, enc]
      walk_at "ev"
      rw [c_in rfl rfl, mul_word]
      walk_at "ev"
      obtain ⟨hc, _, _, Sx⟩ := S
      have dx : dep x ≤ k := by simp only [dep] at hk; omega
      rw [tidy_by_eq k dx (by omega) Sx F]
      walk_at "ev"
      rw [zero_beq, em_eq]
      have key : ∀ {z : J}, tidM w c (tid x) = z → fin false st.length (.rt (enc z)) st = .ok (enc (tid (.mul w c x))) st := fun {z} h => by
        rw [fin_j F]
        simp only [tid, h]
      by_cases c0 : c = 0
      · rw [decide_eq_true c0]
        walk_at "ev"
        exact key (z := emp) (by unfold tidM; rw [if_pos (.inl c0)])
      · rw [decide_eq_false c0]
        walk_at "ev"
        by_cases e0 : tid x = emp
        · rw [decide_eq_true e0]
          walk_at "ev"
          exact key (z := emp) (by unfold tidM; rw [if_pos (.inr e0)])
        · rw [decide_eq_false e0]
          walk_at "ev"
          rw [is_node_eq F (enc_top _), enc_ty]
          have no : ¬ (c = 0 ∨ tid x = emp) := fun h => h.elim c0 e0
          cases ex : tid x with
          | step i =>
            rw [ex] at e0 key
            simp only [isStep]
            walk_at "ev"
            rw [one_beq]
            have no' : ¬ (c = 0 ∨ J.step i = emp) := fun h => h.elim c0 e0
            by_cases c1 : c = 1
            · rw [decide_eq_true c1]
              walk_at "ev"
              exact key (by unfold tidM; rw [if_neg no']; simp only [c1, if_true])
            · rw [decide_eq_false c1]
              walk_at "ev"
              exact key (z := .mul w c (.step i)) (by unfold tidM; rw [if_neg no']; simp only [c1, if_false])
          | grp v ys =>
            rw [ex] at e0 key
            simp only [isStep, enc]
            walk_at "ev"
            rw [gw_mw]
            walk_at "ev"
            rw [one_beq]
            have no' : ¬ (c = 0 ∨ J.grp v ys = emp) := fun h => h.elim c0 e0
            by_cases c1 : c = 1
            · rw [decide_eq_true c1]
              walk_at "ev"
              exact key (z := .grp v ys) (by unfold tidM; rw [if_neg no']; simp only [c1, if_true])
            · rw [decide_eq_false c1]
              walk_at "ev"
              exact key (z := .mul w c (.grp v ys)) (by unfold tidM; rw [if_neg no']; simp only [c1, if_false])
          | mul v m y =>
            have hm := tid_count Sx ex
            rw [ex] at e0 key
            simp only [isStep, enc]
            walk_at "ev"
            rw [mw_eq]
            have no' : ¬ (c = 0 ∨ J.mul v m y = emp) := fun h => h.elim c0 e0
            by_cases ev' : v = w
            · rw [decide_eq_true ev']
              walk_at "ev"
              rw [b_mul (mulOk_of (natB hc) (natB hm))]
              walk_at "ev"
              rw [← Int.natCast_mul]
              exact key (z := .mul w (c * m) y) (by unfold tidM; rw [if_neg no']; simp only [ev', if_true])
            · rw [decide_eq_false ev']
              walk_at "ev"
              rw [one_beq]
              by_cases c1 : c = 1
              · rw [decide_eq_true c1]
                walk_at "ev"
                exact key (z := .mul v m y) (by unfold tidM; rw [if_neg no']; simp only [ev', c1, if_true, if_false])
              · rw [decide_eq_false c1]
                walk_at "ev"
                exact key (z := .mul w c (.mul v m y)) (by unfold tidM; rw [if_neg no']; simp only [ev', c1, if_false])
/-- what tidy gives or raises -/
def tyR (j : J) (st : Sto) : Res D := if (measM 13 (enc (tid j))).isSome = true then .ok (enc (tid j)) st else .exc ⟨1, [.int 400]⟩ st
theorem fin_xcV {mr : Bool} {st : Sto} {n c : Nat} {i : Int} {env : RP.Env} (F : FS st) (hn : n = st.length) : fin mr n (.xc ⟨c, [.int i]⟩ env) st = .exc ⟨c, [.int i]⟩ st := by
  rw [fin_xc (by simp [tops, D.top]), trim_same F (by simp [tops, D.top]) hn]
theorem as_job_eq {n : Nat} {j : J} {st : Sto} (F : FS st) : callN gl P (n + 31) 19 [enc j] st = if (measM 13 (enc j)).isSome = true then .ok (enc j) st else .exc ⟨1, [.int 400]⟩ st := by
  rw [call_eq p19 rfl]
  simp only [b19]
  walk_at "ev"
  rw [is_job_eq F (enc_top j)]
  cases (measM 13 (enc j)).isSome with
  | true =>
    walk_at "ev"
    exact fin_j F
  | false =>
    walk_at "ev"
    exact fin_xcV F rfl
theorem tidy_eq {n : Nat} {j : J} {st : Sto} (hd : dep j ≤ 13) (S : Sm j) (F : FS st) : callN gl P (n + 33) 20 [enc j] st = tyR j st := by
  rw [call_eq p20 rfl]
  simp only [b20]
  walk_at "ev"
  rw [check_ok (n := n + 1) hd S F]
  walk_at "ev"
  rw [show n + 32 = (n + 15) + 13 + 4 by omega, tidy_by_eq 13 hd (by decide) S F]
  walk_at "ev"
  rw [show n + 15 + 13 + 4 = (n + 1) + 31 by omega, as_job_eq F]
  unfold tyR
  cases (measM 13 (enc (tid j))).isSome with
  | true =>
    simp only [if_true]
    walk_at "ev"
    exact fin_j F
  | false =>
    simp only [Bool.false_eq_true, if_false]
    walk_at "ev"
    exact fin_xcV F rfl
end Qk05

namespace Qk05
open PySem RP
local macro_rules | `(tactic| walk_at "ev") => `(tactic| simp only [e_v, lkV_some, lkG_some, e_k, e_g, e_tup, e_lst, e_lstM, e_dct, e_bin, e_cmp, e_chain, e_neg, e_not, e_and, e_or, e_ife, e_ix, e_call, e_bi, e_isi, e_mt, e_sl, e_rev, e_lc, es_nil, es_cons, i_seq, i_rng, i_zip, i_enum, a_nm, a_two, a_tup, a_lst, a_sub, s_ex', s_asg', s_two', s_aug', s_ret', s_ife', s_for', s_skip', s_rse', s_tr', h_nil', h_cons', tr_nx, tr_rt, tr_xc, e_xis, e_xat, e_fnl, ss_nil, ss_cons, it_tup, it_lst, zp_tup, zp_lst, en_lst, rev_lst, rev_tup, RP.neg_int, putTo_some, bi_len_tup, bi_len_lst, bi_list_tup, bi_tuple_lst, b_add, b_sub, c_lt, c_le, c_gt, c_ge, c_eqi, c_nei, c_isN, c_notN, c_eqnil, c_nenil, c_eqnilL, c_nenilL, c_eqstr, c_nestr, isB_bl, sz0, sz1, sz2, sz3, sz4, sz5, sz6, sz7, ix0, ix1, ix2, Tg.slots, wipeE, List.map_cons, List.map_nil, List.cons_append, List.nil_append, Nat.sub_self, List.replicate, List.getElem?_cons_zero, List.getElem?_cons_succ, List.set_cons_zero, List.set_cons_succ, Res.bind_ok, Res.thn_ok, Res.thn_exc, nxt_xc, nxt_nx, nxt_rt, br_some, tru_bl, if_true, if_false, Bool.false_eq_true, Bool.not_true, Bool.not_false, a_many, a_many3, a_many4, s_three', bi_mx2, bi_mn2, ix3, b_pow18, b_pow30, b_pow60, b_pow15, b_pow12, b_pow6, gg7, gg0, gg1, gg2, gg3, gg4, gg5, gg6, gg7])
local macro_rules | `(tactic| walk_at "end") => `(tactic| simp [nxt_nx, nxt_rt, ss_nil, br_some, tru_bl, D.top, tops, *])
/-! the law's own joining -/
def pD (q : Nat × J) : D := .lst [.int (q.1 : Int), enc q.2]
theorem pD_top (q : Nat × J) : (pD q).top = 0 := by simp only [pD, D.top, tops, enc_top]; rfl
theorem tops_pD : ∀ Q : List (Nat × J), tops (Q.map pD) = 0
  | [] => rfl
  | q :: Q => by simp only [List.map_cons, tops, tops_pD Q, pD_top]; rfl
theorem ix1L {a b : D} {st : Sto} : ixD (.lst [a, b]) (.int 1) st = .ok b st := rfl
theorem ix0L {a b : D} {st : Sto} : ixD (.lst [a, b]) (.int 0) st = .ok a st := rfl
theorem joinC_set : ∀ {Q : List (Nat × J)} {p : Nat × J} {i : Nat}, ixJ p.2 (Q.map Prod.snd) = some i → ∃ c : Nat, Q[i]? = some (c, p.2) ∧ joinC Q p = Q.set i (c + p.1, p.2)
  | [], p, i, h => by simp [ixJ] at h
  | q :: Q, p, i, h => by
    simp only [List.map_cons, ixJ] at h
    simp only [joinC]
    by_cases e : q.2 = p.2
    · rw [if_pos e] at h
      cases h
      rw [if_pos e]
      exact ⟨q.1, by simp [← e], by simp [← e]⟩
    · rw [if_neg e] at h
      obtain ⟨k, hk, rfl⟩ := Option.map_eq_some_iff.mp h
      obtain ⟨c, h1, h2⟩ := joinC_set hk
      rw [if_neg e]
      exact ⟨c, by simpa using h1, by simp [h2]⟩
/-- the places of equal ones -/
def sameL (y : J) (L : List J) (k : Nat) : List Nat := (List.range' k L.length).filter fun i => decide (L[i - k]? = some y)
theorem same_head (y : J) : ∀ (L : List J) (k : Nat), (ixJ y L = none → sameL y L k = []) ∧ ∀ i, ixJ y L = some i → ∃ r, sameL y L k = (k + i) :: r
  | [], k => ⟨fun _ => rfl, fun i h => by simp [ixJ] at h⟩
  | x :: L, k => by
    have e : sameL y (x :: L) k = if x = y then k :: sameL y L (k + 1) else sameL y L (k + 1) := by
      have c : (List.range' (k + 1) L.length).filter (fun i => decide ((x :: L)[i - k]? = some y)) = sameL y L (k + 1) := by
        refine List.filter_congr fun i hi => ?_
        have := List.mem_range'.mp hi
        have : i - k = (i - (k + 1)) + 1 := by omega
        rw [this, List.getElem?_cons_succ]
      rw [sameL, List.length_cons, List.range'_succ, List.filter_cons, c]
      simp only [Nat.sub_self, List.getElem?_cons_zero, Option.some.injEq]
      by_cases h : x = y
      · rw [if_pos h, if_pos (by simpa using h)]
      · rw [if_neg h, if_neg (by simpa using h)]
    obtain ⟨a, b⟩ := same_head y L (k + 1)
    simp only [ixJ]
    by_cases h : x = y
    · rw [if_pos h] at e ⊢
      exact ⟨(fun z => nomatch z), fun i hi => ⟨_, by cases hi; rw [e]; rfl⟩⟩
    · rw [if_neg h] at e ⊢
      refine ⟨fun z => by rw [e]; exact a (by simpa using z), fun i hi => ?_⟩
      obtain ⟨j, hj, rfl⟩ := Option.map_eq_some_iff.mp hi
      obtain ⟨r, hr⟩ := b j hj
      exact ⟨r, by rw [e, hr]; congr 1; omega⟩
theorem numb_range : ∀ (n k : Nat), numb (k : Int) n = (List.range' k n).map fun i : Nat => D.int (i : Int)
  | 0, _ => rfl
  | n + 1, k => by
    rw [List.range'_succ, List.map_cons, ← numb_range n (k + 1)]
    simp only [numb]
    rw [show (k : Int) + 1 = ((k + 1 : Nat) : Int) by omega]
theorem set_last {st : Sto} {a b : O} : (st ++ [a]).set st.length b = st ++ [b] := by simp [List.set_append]
def J0 : Ss := b25f0
def J1 : Ss := tailS J0
def J2 : Ss := tailS J1
def J3 : Ss := tailS J2
theorem j0c : b25f0 = .cons (headS J0) J1 := rfl
theorem j1c : J1 = .cons (headS J1) J2 := rfl
theorem j2c : J2 = .cons (headS J2) J3 := rfl
section
variable {cf : CallF} {s : Sto} {x : J} {d0 d1 : Option D} {f3 f4 f5 f6 : Option D}
theorem lj0 : evS gl cf (headS J0) [d0, d1, some (enc x), f3, f4, f5, f6] s = .ok (.nx [d0, d1, some (enc x), some (.int 1), some (enc x), f5, f6]) s := by
  simp only [J0, headS, b25f0]
  walk_at "ev"
theorem lj1 : evS gl cf (headS J1) [d0, d1, some (enc x), some (.int 1), some (enc x), f5, f6] s = .ok (.nx [d0, d1, some (enc x), some (.int ((cnt x).1 : Int)), some (enc (cnt x).2), f5, f6]) s := by
  simp only [J1, J0, tailS, headS, b25f0]
  walk_at "ev"
  rw [isi_top (enc_top x), enc_ty]
  cases x with
  | step i =>
    simp only [isStep]
    walk_at "ev"
    rfl
  | grp w xs =>
    simp only [isStep, enc]
    walk_at "ev"
    rw [gw_copies]
    walk_at "ev"
    rfl
  | mul w c y =>
    simp only [isStep, enc]
    walk_at "ev"
    rw [mw_copies]
    cases w with
    | false =>
      walk_at "ev"
      rfl
    | true =>
      walk_at "ev"
      rfl
end
theorem rng_len {k : Nat} {st : Sto} (hk : k ≤ 1000) : rngOf (.int 0) (.int (k : Int)) st = .ok ([], (List.range' 0 k).map fun i : Nat => D.int (i : Int)) st := by
  have e := numb_range k 0
  rw [Int.natCast_zero] at e
  rw [rng_of (by omega), show ((k : Int) - 0).toNat = k by omega, e]
theorem lj2_gen {cf : CallF} {s : Sto} {n : Nat} {L : Int} {ys zs : List D} {d0 d2 f3 f4 f5 f6 : Option D} (el : bi .len [.ref n] s = .ok (.int L) s) (er : rngOf (.int 0) (.int L) s = .ok ([], ys) s)
    (lc : lcLoop (asg gl cf (.nm 6)) (ev gl cf (.cmp .eq (.ix (.ix (.v 1) (.v 6)) (.k (.int (1)))) (.v 4))) (ev gl cf b25c0) [] s.length [d0, some (.ref n), d2, f3, f4, f5, none] ys [] s = .ok zs s) :
    evS gl cf (headS J2) [d0, some (.ref n), d2, f3, f4, f5, f6] s = .ok (.nx [d0, some (.ref n), d2, f3, f4, some (.lst zs), f6]) s := by
  simp only [J2, J1, J0, tailS, headS, b25f0]
  walk_at "ev"
  rw [el]
  walk_at "ev"
  rw [er]
  walk_at "ev"
  rw [lc]
  rfl
theorem lj2_cond {cf : CallF} {st : Sto} {Q : List (Nat × J)} {y : J} {d0 d2 d3 d5 : Option D} (hy : dep y ≤ 30) {i : Nat} (hi' : i < Q.length) :
    ev gl cf (.cmp .eq (.ix (.ix (.v 1) (.v 6)) (.k (.int (1)))) (.v 4)) [d0, some (.ref st.length), d2, d3, some (enc y), d5, some (.int (i : Int))] (st ++ [.lst (Q.map pD)]) = .ok (.bl (decide ((Q.map Prod.snd)[i - 0]? = some y))) (st ++ [.lst (Q.map pD)]) := by
  walk_at "ev"
  rw [ixL get_last (show (O.lst (Q.map pD)).items[i]? = some (pD Q[i]) by simp [O.items, hi'])]
  walk_at "ev"
  simp only [pD]
  rw [ix1L]
  walk_at "ev"
  rw [eq_enc (.inr hy)]
  simp [hi']
theorem lj2 {cf : CallF} {st : Sto} {Q : List (Nat × J)} {y : J} {c : Int} {d0 d2 : Option D} {f5 f6 : Option D} (F : FS st) (hQ : ∀ q ∈ Q, dep q.2 ≤ 30) (hy : dep y ≤ 30) (hl : Q.length ≤ 1000) :
    evS gl cf (headS J2) [d0, some (.ref st.length), d2, some (.int c), some (enc y), f5, f6] (st ++ [.lst (Q.map pD)]) = .ok (.nx [d0, some (.ref st.length), d2, some (.int c), some (enc y), some (.lst ((sameL y (Q.map Prod.snd) 0).map fun i : Nat => D.int (i : Int))), f6]) (st ++ [.lst (Q.map pD)]) := by
  have big : 20000 ≤ sizeLine := by decide
  have Fa : FS (st ++ [.lst (Q.map pD)]) := F.cut (tops_pD Q)
  have lc := lc_filtG (gl := gl) (cf := cf) (st := st ++ [.lst (Q.map pD)]) (env := [d0, some (.ref st.length), d2, some (.int c), some (enc y), f5, none]) (i := 6) (cnd := ev gl cf (.cmp .eq (.ix (.ix (.v 1) (.v 6)) (.k (.int (1)))) (.v 4))) (elt := ev gl cf b25c0) (en := fun i : Nat => .int (i : Int)) (g := fun i : Nat => .int (i : Int)) (p := fun i => decide ((Q.map Prod.snd)[i - 0]? = some y)) Fa (List.range' 0 Q.length) [] (fun i hi => by
    have hi' : i < Q.length := by
      have := List.mem_range'.mp hi
      omega
    refine ⟨lj2_cond hy hi', fun _ => ⟨?_, rfl⟩⟩
    simp only [b25c0, List.set_cons_succ, List.set_cons_zero]
    walk_at "ev") rfl (by simp; omega)
  rw [List.nil_append] at lc
  have le : bi .len [.ref st.length] (st ++ [.lst (Q.map pD)]) = .ok (.int ((Q.length : Nat) : Int)) (st ++ [.lst (Q.map pD)]) := by
    rw [bi_len_ref get_last, show (O.lst (Q.map pD)).items.length = Q.length by simp [O.items]]
  have out := lj2_gen (f6 := f6) le (rng_len hl) lc
  rw [out]
  simp only [sameL, List.length_map]
theorem lj_turn {cf : CallF} {st : Sto} {Q : List (Nat × J)} {x : J} {d0 : Option D} {f3 f4 f5 f6 : Option D} (F : FS st) (hQ : ∀ q ∈ Q, dep q.2 ≤ 30) (hx : dep x ≤ 30) (hl : Q.length ≤ 1000) :
    ∃ f3' f4' f5', evSs gl cf b25f0 [d0, some (.ref st.length), some (enc x), f3, f4, f5, f6] (st ++ [.lst (Q.map pD)]) =
      .ok (.nx [d0, some (.ref st.length), some (enc x), f3', f4', f5', f6]) (st ++ [.lst ((joinC Q (cnt x)).map pD)]) := by
  have big : 20000 ≤ sizeLine := by decide
  have hy : dep (cnt x).2 ≤ 30 := Nat.le_trans (cnt_dep x) hx
  rw [j0c, sk lj0, j1c, sk lj1]
  generalize cnt x = p at hy ⊢
  obtain ⟨c, y⟩ := p
  simp only at hy ⊢
  rw [j2c, sk (lj2 F hQ hy hl)]
  obtain ⟨sn, ss⟩ := same_head y (Q.map Prod.snd) 0
  simp only [J3, J2, J1, J0, tailS, b25f0]
  walk_at "ev"
  cases hi : ixJ y (Q.map Prod.snd) with
  | none =>
    rw [sn hi]
    simp only [List.map_nil, List.isEmpty_nil]
    walk_at "ev"
    rw [ap_last (by simp; omega)]
    walk_at "ev"
    have nm : ¬ y ∈ Q.map Prod.snd := fun m => by
      obtain ⟨i, h, _⟩ := ixJ_mem m
      rw [hi] at h; cases h
    have hj : joinC Q (c, y) = Q ++ [(c, y)] := join_new (p := (c, y)) nm
    rw [hj]
    refine ⟨some (.int (c : Int)), some (enc y), some (.lst []), ?_⟩
    rw [List.map_append]
    rfl
  | some i =>
    obtain ⟨r, hr⟩ := ss i hi
    rw [Nat.zero_add] at hr
    obtain ⟨k, h1, h2⟩ := joinC_set (p := (c, y)) hi
    rw [hr]
    simp only [List.map_cons, List.isEmpty_cons]
    walk_at "ev"
    have i0 : ∀ s : Sto, ixD (.lst (D.int (i : Int) :: r.map fun i : Nat => D.int (i : Int))) (.int 0) s = .ok (.int (i : Int)) s := fun s => by
      have h : L2.atI (D.int (i : Int) :: r.map fun i : Nat => D.int (i : Int)) (0 : Int) = some (.int (i : Int)) := atI_lit (i := 0) rfl
      simp only [ixD, seqOf, h]
    rw [i0]
    walk_at "ev"
    have il : i < Q.length := (List.getElem?_eq_some_iff.mp h1).1
    rw [ixL get_last (show (O.lst (Q.map pD)).items[i]? = some (pD (k, y)) by simp [O.items, h1])]
    walk_at "ev"
    simp only [pD]
    rw [ix0L]
    walk_at "ev"
    rw [i0]
    walk_at "ev"
    rw [put_at get_last (by simpa using il) (by simp; omega)]
    walk_at "ev"
    refine ⟨some (.int (c : Int)), some (enc y), some (.lst (D.int (i : Int) :: r.map fun i : Nat => D.int (i : Int))), ?_⟩
    rw [h2, List.map_set, set_last]
    rfl
end Qk05

namespace Qk05
open PySem RP
local macro_rules | `(tactic| walk_at "ev") => `(tactic| simp only [e_v, lkV_some, lkG_some, e_k, e_g, e_tup, e_lst, e_lstM, e_dct, e_bin, e_cmp, e_chain, e_neg, e_not, e_and, e_or, e_ife, e_ix, e_call, e_bi, e_isi, e_mt, e_sl, e_rev, e_lc, es_nil, es_cons, i_seq, i_rng, i_zip, i_enum, a_nm, a_two, a_tup, a_lst, a_sub, s_ex', s_asg', s_two', s_aug', s_ret', s_ife', s_for', s_skip', s_rse', s_tr', h_nil', h_cons', tr_nx, tr_rt, tr_xc, e_xis, e_xat, e_fnl, ss_nil, ss_cons, it_tup, it_lst, zp_tup, zp_lst, en_lst, rev_lst, rev_tup, RP.neg_int, putTo_some, bi_len_tup, bi_len_lst, bi_list_tup, bi_tuple_lst, b_add, b_sub, c_lt, c_le, c_gt, c_ge, c_eqi, c_nei, c_isN, c_notN, c_eqnil, c_nenil, c_eqnilL, c_nenilL, c_eqstr, c_nestr, isB_bl, sz0, sz1, sz2, sz3, sz4, sz5, sz6, sz7, ix0, ix1, ix2, Tg.slots, wipeE, List.map_cons, List.map_nil, List.cons_append, List.nil_append, Nat.sub_self, List.replicate, List.getElem?_cons_zero, List.getElem?_cons_succ, List.set_cons_zero, List.set_cons_succ, Res.bind_ok, Res.thn_ok, Res.thn_exc, nxt_xc, nxt_nx, nxt_rt, br_some, tru_bl, if_true, if_false, Bool.false_eq_true, Bool.not_true, Bool.not_false, a_many, a_many3, a_many4, s_three', bi_mx2, bi_mn2, ix3, b_pow18, b_pow30, b_pow60, b_pow15, b_pow12, b_pow6, gg7, gg0, gg1, gg2, gg3, gg4, gg5, gg6, gg7])
local macro_rules | `(tactic| walk_at "end") => `(tactic| simp [nxt_nx, nxt_rt, ss_nil, br_some, tru_bl, D.top, tops, *])
/-! the law's own joining and tidying -/
theorem lj_loop {cf : CallF} {N : Nat} {st : Sto} {d0 : Option D} {src : Src} (F : FS st) (hN : N = st.length + 1) (hs : ∀ Q : List (Nat × J), still src (st ++ [.lst (Q.map pD)]) = true) : ∀ (xs : List J) (Q : List (Nat × J)) (f2 f3 f4 f5 f6 : Option D), (∀ q ∈ Q, dep q.2 ≤ 30) → (∀ x ∈ xs, dep x ≤ 30) → Q.length + xs.length ≤ 1000 →
    ∃ f2' f3' f4' f5' f6', forLoop (asg gl cf (.nm 2)) (evSs gl cf b25f0) src N (xs.map enc) [d0, some (.ref st.length), f2, f3, f4, f5, f6] (st ++ [.lst (Q.map pD)]) =
      .ok (.nx [d0, some (.ref st.length), f2', f3', f4', f5', f6']) (st ++ [.lst (((xs.map cnt).foldl joinC Q).map pD)])
  | [], Q, f2, f3, f4, f5, f6, _, _, _ => ⟨f2, f3, f4, f5, f6, by simp only [List.map_nil, forLoop, hs, if_true, List.foldl_nil]⟩
  | x :: xs, Q, f2, f3, f4, f5, f6, hQ, hx, hl => by
    simp only [List.length_cons] at hl
    have len := joinC_len Q (cnt x)
    obtain ⟨a3, a4, a5, e1⟩ := lj_turn (cf := cf) (d0 := d0) (f3 := f3) (f4 := f4) (f5 := f5) (f6 := f6) F hQ (hx x List.mem_cons_self) (by omega)
    obtain ⟨b2, b3, b4, b5, b6, e⟩ := lj_loop (cf := cf) (d0 := d0) F hN hs xs (joinC Q (cnt x)) (some (enc x)) a3 a4 a5 f6 (fun q hq => by
      rcases mem_joinC hq with z | ⟨r, h1, h2⟩
      · rw [z]; exact Nat.le_trans (cnt_dep x) (hx x List.mem_cons_self)
      · rw [← h2]; exact hQ r h1) (fun y hy => hx y (List.mem_cons_of_mem _ hy)) (by omega)
    refine ⟨b2, b3, b4, b5, b6, ?_⟩
    simp only [List.map_cons, forLoop, hs, if_true, a_nm, Res.bind_ok, List.set_cons_zero, List.set_cons_succ]
    rw [e1, Res.bind_ok, nxt_nx, trim_len (by simp [hN]), e]
    rfl
theorem joinL_len (xs : List J) : (joinL xs).length ≤ xs.length := by
  have : ∀ (ps Q : List (Nat × J)), (ps.foldl joinC Q).length ≤ Q.length + ps.length := fun ps => by
    induction ps with
    | nil => intro Q; simp
    | cons p ps ih => intro Q; have := ih (joinC Q p); have := joinC_len Q p; simp only [List.foldl_cons, List.length_cons]; omega
  have := this (xs.map cnt) []
  simp only [List.length_map, List.length_nil, Nat.zero_add] at this
  exact this
def ljS : Ss := tailS b25
def ljR : Ss := tailS ljS
theorem lj_cut : b25 = .cons (headS b25) (.cons (headS ljS) ljR) := rfl
theorem lj_end {cf : CallF} {st : Sto} {Q : List (Nat × J)} {d0 f2 f3 f4 f5 f6 : Option D} (F : FS st) (hl : Q.length ≤ 900) :
    evSs gl cf ljR [d0, some (.ref st.length), f2, f3, f4, f5, f6] (st ++ [.lst (Q.map pD)]) = .ok (.rt (.ref (st.length + 1))) (st ++ [.lst (Q.map pD)] ++ [.lst (Q.map fun q => enc (ung q))]) := by
  have big : 20000 ≤ sizeLine := by decide
  simp only [ljR, ljS, tailS, b25]
  walk_at "ev"
  rw [e_comp]
  walk_at "ev"
  rw [it_ref get_last]
  walk_at "ev"
  have li : (O.lst (Q.map pD)).items = Q.map pD := rfl
  rw [li]
  have cr := comp_run (tg := asg gl cf (.two (.nm 3) (.nm 4))) (cnd := ev gl cf (.k (.bl true))) (elt := ev gl cf b25c1)
    (src := [(st.length, Q.map pD)]) (env := [d0, some (.ref st.length), f2, none, none, f5, f6]) (st := st ++ [.lst (Q.map pD)])
    (en := pD) (g := fun q => enc (ung q))
    (fun acc => still_r1 (by rw [List.getElem?_append_left (by simp)]; exact get_last)) Q [] (by simp; omega) (fun q _ acc => by
      refine ⟨[d0, some (.ref st.length), f2, some (.int (q.1 : Int)), some (enc q.2), f5, f6], by simp only [pD]; walk_at "ev", by walk_at "ev", ?_⟩
      simp only [b25c1]
      walk_at "ev"
      by_cases c : q.1 = 1
      · rw [show ((q.1 : Int) == 1) = true by rw [c]; rfl]
        walk_at "ev"
        simp only [ung, c, if_true]
      · rw [show ((q.1 : Int) == 1) = false by rw [beq_eq_false_iff_ne]; omega]
        walk_at "ev"
        simp only [ung, c, if_false]
        rfl)
  rw [cr]
  walk_at "ev"
  rw [show (st ++ [O.lst (Q.map pD)]).length = st.length + 1 by simp]
theorem lj_eq {n m : Nat} {xs : List J} {st : Sto} (F : FS st) (hm : st[m]? = some (.lst (xs.map enc))) (hx : ∀ x ∈ xs, dep x ≤ 30) (hl : xs.length ≤ 900) :
    ∃ a, callN gl P (n + 1) 25 [.ref m] st = .ok (.ref (st.length + 1)) (st ++ [a, .lst ((joined true xs).map enc)]) ∧ a.top = 0 := by
  have ml : m < st.length := (List.getElem?_eq_some_iff.mp hm).1
  refine ⟨.lst ((joinL xs).map pD), ?_, tops_pD _⟩
  rw [call_eq p25 rfl]
  simp only [List.map_cons, List.map_nil, List.cons_append, List.nil_append, List.replicate, Nat.reduceSub]
  have e0 : evS gl (callN gl P n) (headS b25) [some (.ref m), none, none, none, none, none, none] st = .ok (.nx [some (.ref m), some (.ref st.length), none, none, none, none, none]) (st ++ [.lst []]) := by
    simp only [headS, b25]
    walk_at "ev"
  have hmG : ∀ Q : List (Nat × J), (st ++ [O.lst (Q.map pD)])[m]? = some (.lst (xs.map enc)) := fun Q => by rw [List.getElem?_append_left ml]; exact hm
  obtain ⟨f2, f3, f4, f5, f6, el⟩ := lj_loop (cf := callN gl P n) (N := st.length + 1) (d0 := some (.ref m)) (src := [(m, xs.map enc)]) F rfl (fun Q => still_r1 (hmG Q)) xs [] none none none none none (fun q hq => nomatch hq) hx (by simp; omega)
  have e1 : evS gl (callN gl P n) (headS ljS) [some (.ref m), some (.ref st.length), none, none, none, none, none] (st ++ [.lst []]) = .ok (.nx [some (.ref m), some (.ref st.length), f2, f3, f4, f5, f6]) (st ++ [.lst ((joinL xs).map pD)]) := by
    simp only [ljS, tailS, headS, b25]
    walk_at "ev"
    have h0 := hmG []
    simp only [List.map_nil] at h0
    rw [it_ref h0]
    walk_at "ev"
    rw [show (st ++ [O.lst []]).length = st.length + 1 by simp]
    exact el
  have ll := joinL_len xs
  rw [lj_cut, sk e0, sk e1, lj_end F (by omega), Res.bind_ok, fin_rtM]
  have tb : ∀ s : Sto, trim st.length (D.ref (st.length + 1)).top s = s := fun s => by
    unfold trim
    rw [if_neg (by simp only [D.top]; omega)]
  rw [tb]
  have jx : joined true xs = (joinL xs).map ung := rfl
  rw [jx, List.map_map]
  simp
/-! tidying: where the list stands -/
/-- a list of jobs at k, in a store that goes on the one at hand -/
structure At (st s : Sto) (k : Nat) (acc : List J) : Prop where
  fs : FS s
  pre : s.take st.length = st
  at_ : s[k]? = some (.lst (acc.map enc))
  ge : st.length ≤ k
theorem At.lt {st s : Sto} {k : Nat} {acc : List J} (h : At st s k acc) : k < s.length := (List.getElem?_eq_some_iff.mp h.at_).1
theorem At.put {st s : Sto} {k : Nat} {acc acc2 : List J} (h : At st s k acc) : At st (s.set k (.lst (acc2.map enc))) k acc2 where
  fs := h.fs.set (by show tops _ = 0; rw [← encs_map]; exact encs_top _)
  pre := by rw [List.take_set_of_le h.ge]; exact h.pre
  at_ := get_set h.at_
  ge := h.ge
theorem At.new {st s : Sto} {k : Nat} {acc acc2 : List J} (h : At st s k acc) : At st (s ++ [.lst (acc2.map enc)]) s.length acc2 where
  fs := h.fs.cut (by rw [← encs_map]; exact encs_top _)
  pre := by rw [List.take_append_of_le_length (by have := h.lt; have := h.ge; omega)]; exact h.pre
  at_ := get_last
  ge := by have := h.lt; have := h.ge; omega
theorem At.trim {st s : Sto} {k n t : Nat} {acc : List J} (h : At st s k acc) (hn : st.length ≤ n) (ht : k < t) : At st (RP.trim n t s) k acc := by
  unfold RP.trim
  split
  · rename_i c
    refine ⟨fun o ho => h.fs o (List.mem_of_mem_take ho), ?_, ?_, h.ge⟩
    · rw [List.take_take, Nat.min_eq_left hn]; exact h.pre
    · rw [List.getElem?_take, if_pos (by omega)]; exact h.at_
  · exact h
theorem addM_ok {s : Sto} {k : Nat} {xs ys : List D} (h : s[k]? = some (.lst xs)) (hz : xs.length + ys.length ≤ sizeLine) : bin .addM (.ref k) (.lst ys) s = .ok (.ref s.length) (s ++ [.lst (xs ++ ys)]) := by
  simp only [bin, ownOf, h, hz, if_true]
theorem lt_turn {cf : CallF} {w : Bool} {x : J} {ps acc : List J} {st s : Sto} {k : Nat} {f1 f4 : Option D} (A : At st s k acc) (hl : acc.length + nodes x ≤ 5000) :
    ∃ k' s', evSs gl cf b26f0 [some (enc (.grp w ps)), f1, some (.ref k), some (enc x), f4] s = .ok (.nx [some (enc (.grp w ps)), f1, some (.ref k'), some (enc x), f4]) s' ∧ At st s' k' (acc ++ flat1 w x) := by
  have big : 20000 ≤ sizeLine := by decide
  have np := nodes_pos x
  have i0 : ∀ s : Sto, ixD (enc (.grp w ps)) (.int 0) s = .ok (.str (gw w)) s := fun s => ix0
  simp only [b26f0]
  walk_at "ev"
  rw [isi_top (enc_top x), enc_ty]
  cases x with
  | step i =>
    simp only [isStep]
    walk_at "ev"
    rw [em_ne, decide_eq_false (by simp [emp])]
    walk_at "ev"
    rw [ap_at A.at_ (by simp; omega)]
    walk_at "ev"
    refine ⟨k, _, rfl, ?_⟩
    have := A.put (acc2 := acc ++ [.step i])
    rwa [List.map_append] at this
  | mul v c y =>
    simp only [isStep]
    walk_at "ev"
    rw [show ∀ s : Sto, ixD (enc (.mul v c y)) (.int 0) s = .ok (.str (mw v)) s from fun s => ix0]
    walk_at "ev"
    rw [i0]
    walk_at "ev"
    rw [mw_gw]
    walk_at "ev"
    rw [em_ne, decide_eq_false (by simp [emp])]
    walk_at "ev"
    rw [ap_at A.at_ (by simp; omega)]
    walk_at "ev"
    refine ⟨k, _, rfl, ?_⟩
    have := A.put (acc2 := acc ++ [.mul v c y])
    rwa [List.map_append] at this
  | grp v ys =>
    simp only [isStep]
    walk_at "ev"
    rw [show ∀ s : Sto, ixD (enc (.grp v ys)) (.int 0) s = .ok (.str (gw v)) s from fun s => ix0]
    walk_at "ev"
    rw [i0]
    walk_at "ev"
    rw [gw_eq]
    by_cases e : v = w
    · subst e
      rw [decide_eq_true rfl]
      walk_at "ev"
      rw [show ∀ s : Sto, ixD (enc (.grp v ys)) (.int 1) s = .ok (.tup (encs ys)) s from fun s => ix1]
      walk_at "ev"
      have l := len_nodess ys
      rw [addM_ok A.at_ (by rw [encs_len]; simp only [List.length_map]; simp only [nodes] at hl; omega)]
      walk_at "ev"
      refine ⟨s.length, _, rfl, ?_⟩
      have := A.new (acc2 := acc ++ ys)
      rw [List.map_append, ← encs_map (xs := ys)] at this
      simpa [flat1] using this
    · rw [decide_eq_false e]
      walk_at "ev"
      rw [em_ne]
      by_cases c : J.grp v ys = emp
      · rw [decide_eq_true c]
        walk_at "ev"
        refine ⟨k, s, rfl, ?_⟩
        simpa [flat1, e, c] using A
      · rw [decide_eq_false c]
        walk_at "ev"
        rw [ap_at A.at_ (by simp; omega)]
        walk_at "ev"
        refine ⟨k, _, rfl, ?_⟩
        have := A.put (acc2 := acc ++ [.grp v ys])
        rw [List.map_append] at this
        simpa [flat1, e, c] using this
theorem lt_loop {cf : CallF} {w : Bool} {ps : List J} {st : Sto} {n : Nat} {f1 f4 : Option D} (hn : st.length ≤ n) : ∀ (xs acc : List J) (k : Nat) (s : Sto) (f3 : Option D), At st s k acc → acc.length + nodess xs ≤ 4000 →
    ∃ k' s' f3', forLoop (asg gl cf (.nm 3)) (evSs gl cf b26f0) [] n (xs.map enc) [some (enc (.grp w ps)), f1, some (.ref k), f3, f4] s = .ok (.nx [some (enc (.grp w ps)), f1, some (.ref k'), f3', f4]) s' ∧ At st s' k' (acc ++ xs.flatMap (flat1 w))
  | [], acc, k, s, f3, A, _ => ⟨k, s, f3, by simp only [List.map_nil, forLoop, still, if_true], by simpa using A⟩
  | x :: xs, acc, k, s, f3, A, hl => by
    simp only [nodess] at hl
    have a := flat_nodes w x
    have b := len_nodess (flat1 w x)
    obtain ⟨k1, s1, e1, A1⟩ := lt_turn (cf := cf) (w := w) (x := x) (ps := ps) (f1 := f1) (f4 := f4) A (by omega)
    have A2 := A1.trim (n := n) (t := envTop [some (enc (.grp w ps)), f1, some (.ref k1), some (enc x), f4]) hn (by
      have h1 : envTop [some (enc (.grp w ps)), f1, some (.ref k1), some (enc x), f4] ≥ envTop [some (D.ref k1), some (enc x), f4] := by
        have g : ∀ (o : Option D) (e : RP.Env), envTop e ≤ envTop (o :: e) := fun o e => by cases o <;> simp [envTop]; omega
        exact Nat.le_trans (g f1 _) (g _ _)
      have h2 : envTop [some (D.ref k1), some (enc x), f4] ≥ k1 + 1 := by simp only [envTop, D.top]; omega
      omega)
    obtain ⟨k2, s2, f3', e2, A3⟩ := lt_loop (cf := cf) (ps := ps) (f1 := f1) (f4 := f4) hn xs (acc ++ flat1 w x) k1 _ (some (enc x)) A2 (by simp only [List.length_append]; omega)
    refine ⟨k2, s2, f3', ?_, by rw [List.flatMap_cons, ← List.append_assoc]; exact A3⟩
    simp only [List.map_cons, forLoop, still, if_true, a_nm, Res.bind_ok, List.set_cons_zero, List.set_cons_succ]
    rw [e1, Res.bind_ok, nxt_nx, e2]
end Qk05

namespace Qk05
open PySem RP
local macro_rules | `(tactic| walk_at "ev") => `(tactic| simp only [e_v, lkV_some, lkG_some, e_k, e_g, e_tup, e_lst, e_lstM, e_dct, e_bin, e_cmp, e_chain, e_neg, e_not, e_and, e_or, e_ife, e_ix, e_call, e_bi, e_isi, e_mt, e_sl, e_rev, e_lc, es_nil, es_cons, i_seq, i_rng, i_zip, i_enum, a_nm, a_two, a_tup, a_lst, a_sub, s_ex', s_asg', s_two', s_aug', s_ret', s_ife', s_for', s_skip', s_rse', s_tr', h_nil', h_cons', tr_nx, tr_rt, tr_xc, e_xis, e_xat, e_fnl, ss_nil, ss_cons, it_tup, it_lst, zp_tup, zp_lst, en_lst, rev_lst, rev_tup, RP.neg_int, putTo_some, bi_len_tup, bi_len_lst, bi_list_tup, bi_tuple_lst, b_add, b_sub, c_lt, c_le, c_gt, c_ge, c_eqi, c_nei, c_isN, c_notN, c_eqnil, c_nenil, c_eqnilL, c_nenilL, c_eqstr, c_nestr, isB_bl, sz0, sz1, sz2, sz3, sz4, sz5, sz6, sz7, ix0, ix1, ix2, Tg.slots, wipeE, List.map_cons, List.map_nil, List.cons_append, List.nil_append, Nat.sub_self, List.replicate, List.getElem?_cons_zero, List.getElem?_cons_succ, List.set_cons_zero, List.set_cons_succ, Res.bind_ok, Res.thn_ok, Res.thn_exc, nxt_xc, nxt_nx, nxt_rt, br_some, tru_bl, if_true, if_false, Bool.false_eq_true, Bool.not_true, Bool.not_false, a_many, a_many3, a_many4, s_three', bi_mx2, bi_mn2, ix3, b_pow18, b_pow30, b_pow60, b_pow15, b_pow12, b_pow6, gg7, gg0, gg1, gg2, gg3, gg4, gg5, gg6, gg7])
local macro_rules | `(tactic| walk_at "end") => `(tactic| simp [nxt_nx, nxt_rt, ss_nil, br_some, tru_bl, D.top, tops, *])
/-! the law's own tidy form -/
def ltA : S := headS b26
def lt1 : Ss := tailS b26
def ltB : S := headS lt1
def lt2 : Ss := tailS lt1
def ltC : S := headS lt2
def lt3 : Ss := tailS lt2
def ltD : S := headS lt3
def lt4 : Ss := tailS lt3
def ltE : S := headS lt4
def ltR : Ss := tailS lt4
theorem lt_cut : b26 = .cons ltA (.cons ltB (.cons ltC (.cons ltD (.cons ltE ltR)))) := rfl
theorem i0g {w : Bool} {xs : List J} {s : Sto} : ixD (enc (.grp w xs)) (.int 0) s = .ok (.str (gw w)) s := ix0
theorem i1g {w : Bool} {xs : List J} {s : Sto} : ixD (enc (.grp w xs)) (.int 1) s = .ok (.tup (encs xs)) s := ix1
theorem i0m {w : Bool} {c : Nat} {x : J} {s : Sto} : ixD (enc (.mul w c x)) (.int 0) s = .ok (.str (mw w)) s := ix0
theorem i1m {w : Bool} {c : Nat} {x : J} {s : Sto} : ixD (enc (.mul w c x)) (.int 1) s = .ok (.int (c : Int)) s := ix1
theorem i2m {w : Bool} {c : Nat} {x : J} {s : Sto} : ixD (enc (.mul w c x)) (.int 2) s = .ok (enc x) s := ix2
theorem ltA_ok {cf : CallF} {j : J} {st : Sto} {f1 f2 f3 f4 : Option D} : evS gl cf ltA [some (enc j), f1, f2, f3, f4] st = if isStep j = true then .ok (.rt (enc j)) st else .ok (.nx [some (enc j), f1, f2, f3, f4]) st := by
  simp only [ltA, headS, b26]
  walk_at "ev"
  rw [isi_top (enc_top j), enc_ty]
  cases isStep j with
  | true => walk_at "ev"
  | false => walk_at "ev"
theorem ltB_grp {cf : CallF} {w : Bool} {xs : List J} {st : Sto} {f1 f2 f3 f4 : Option D} : evS gl cf ltB [some (enc (.grp w xs)), f1, f2, f3, f4] st = .ok (.nx [some (enc (.grp w xs)), f1, f2, f3, f4]) st := by
  simp only [ltB, lt1, tailS, headS, b26]
  walk_at "ev"
  rw [i0g]
  walk_at "ev"
  rw [c_in rfl rfl, rep_grp]
  walk_at "ev"
theorem ltB_mul {cf : CallF} {w : Bool} {c : Nat} {x : J} {st : Sto} {f1 f2 f3 f4 : Option D} (F : FS st) (hc : (c : Int) ≤ big) (Sx : Sm x) (e : cf 26 [enc x] st = .ok (enc (tid x)) st) :
    evS gl cf ltB [some (enc (.mul w c x)), f1, f2, f3, f4] st = .ok (.rt (enc (tid (.mul w c x)))) st := by
  simp only [ltB, lt1, tailS, headS, b26]
  walk_at "ev"
  rw [i0m]
  walk_at "ev"
  rw [c_in rfl rfl, rep_mul]
  walk_at "ev"
  rw [i2m]
  walk_at "ev"
  rw [e]
  walk_at "ev"
  rw [i1m]
  walk_at "ev"
  rw [zero_beq, em_eq]
  have key : ∀ {z : J}, tidM w c (tid x) = z → Res.ok (Fl.rt (enc z)) st = Res.ok (Fl.rt (enc (tid (.mul w c x)))) st := fun {z} h => by simp only [tid, h]
  by_cases c0 : c = 0
  · rw [decide_eq_true c0]
    walk_at "ev"
    exact key (z := emp) (by unfold tidM; rw [if_pos (.inl c0)])
  · rw [decide_eq_false c0]
    walk_at "ev"
    by_cases e0 : tid x = emp
    · rw [decide_eq_true e0]
      walk_at "ev"
      exact key (z := emp) (by unfold tidM; rw [if_pos (.inr e0)])
    · rw [decide_eq_false e0]
      walk_at "ev"
      rw [isi_top (enc_top _), enc_ty]
      cases ex : tid x with
      | step i =>
        rw [ex] at e0 key
        simp only [isStep]
        walk_at "ev"
        rw [i1m]
        walk_at "ev"
        rw [one_beq]
        have no' : ¬ (c = 0 ∨ J.step i = emp) := fun h => h.elim c0 e0
        by_cases c1 : c = 1
        · rw [decide_eq_true c1]
          walk_at "ev"
          exact key (by unfold tidM; rw [if_neg no']; simp only [c1, if_true])
        · rw [decide_eq_false c1]
          walk_at "ev"
          rw [i0m]
          walk_at "ev"
          rw [i1m]
          walk_at "ev"
          exact key (z := .mul w c (.step i)) (by unfold tidM; rw [if_neg no']; simp only [c1, if_false])
      | grp v ys =>
        rw [ex] at e0 key
        simp only [isStep]
        walk_at "ev"
        rw [i0g]
        walk_at "ev"
        rw [i0m]
        walk_at "ev"
        rw [gw_mw]
        walk_at "ev"
        rw [i1m]
        walk_at "ev"
        rw [one_beq]
        have no' : ¬ (c = 0 ∨ J.grp v ys = emp) := fun h => h.elim c0 e0
        by_cases c1 : c = 1
        · rw [decide_eq_true c1]
          walk_at "ev"
          exact key (z := .grp v ys) (by unfold tidM; rw [if_neg no']; simp only [c1, if_true])
        · rw [decide_eq_false c1]
          walk_at "ev"
          rw [i0m]
          walk_at "ev"
          rw [i1m]
          walk_at "ev"
          exact key (z := .mul w c (.grp v ys)) (by unfold tidM; rw [if_neg no']; simp only [c1, if_false])
      | mul v m y =>
        have hm := tid_count Sx ex
        rw [ex] at e0 key
        simp only [isStep]
        walk_at "ev"
        rw [i0m]
        walk_at "ev"
        rw [i0m]
        walk_at "ev"
        rw [mw_eq]
        have no' : ¬ (c = 0 ∨ J.mul v m y = emp) := fun h => h.elim c0 e0
        by_cases ev' : v = w
        · rw [decide_eq_true ev']
          walk_at "ev"
          rw [i0m]
          walk_at "ev"
          rw [i1m]
          walk_at "ev"
          rw [i1m]
          walk_at "ev"
          rw [b_mul (mulOk_of (natB hc) (natB hm))]
          walk_at "ev"
          rw [i2m]
          walk_at "ev"
          rw [← Int.natCast_mul]
          exact key (z := .mul w (c * m) y) (by unfold tidM; rw [if_neg no']; simp only [ev', if_true])
        · rw [decide_eq_false ev']
          walk_at "ev"
          rw [i1m]
          walk_at "ev"
          rw [one_beq]
          by_cases c1 : c = 1
          · rw [decide_eq_true c1]
            walk_at "ev"
            exact key (z := .mul v m y) (by unfold tidM; rw [if_neg no']; simp only [ev', c1, if_true, if_false])
          · rw [decide_eq_false c1]
            walk_at "ev"
            rw [i0m]
            walk_at "ev"
            rw [i1m]
            walk_at "ev"
            exact key (z := .mul w c (.mul v m y)) (by unfold tidM; rw [if_neg no']; simp only [ev', c1, if_false])
/-- the end -/
theorem lt_end {cf : CallF} {w : Bool} {st s : Sto} {k : Nat} {ps zs : List J} {f1 f3 f4 : Option D} (A : At st s k zs) (hz : zs.length ≤ 5000) :
    evSs gl cf ltR [some (enc (.grp w ps)), f1, some (.ref k), f3, f4] s = .ok (.rt (enc (wrap w zs))) s := by
  have hk := A.at_
  simp only [ltR, lt4, lt3, lt2, lt1, tailS, b26]
  walk_at "ev"
  rw [bi_len_ref hk]
  walk_at "ev"
  have li : (O.lst (zs.map enc)).items.length = zs.length := by simp [O.items]
  rw [li]
  match zs with
  | [z] =>
    rw [show (((([z] : List J).length : Nat) : Int) == 1) = true from rfl]
    walk_at "ev"
    rw [show (0 : Int) = ((0 : Nat) : Int) from rfl, ixL hk (show (O.lst ([z].map enc)).items[0]? = some (enc z) from rfl)]
    walk_at "ev"
    rfl
  | [] =>
    rw [show (((([] : List J).length : Nat) : Int) == 1) = false from rfl]
    walk_at "ev"
    rw [eq_nil_ref hk rfl]
    simp only [O.items, List.map_nil, List.isEmpty_nil]
    walk_at "ev"
    rfl
  | z :: y :: zs =>
    have c : ((((z :: y :: zs : List J).length : Nat) : Int) == 1) = false := by rw [beq_eq_false_iff_ne]; simp only [List.length_cons]; omega
    rw [c]
    walk_at "ev"
    have pp : purs (O.lst ((z :: y :: zs).map enc)).items = true := by
      show purs ((z :: y :: zs).map enc) = true
      rw [← encs_map]; exact encs_pur _
    rw [eq_nil_ref hk pp]
    simp only [O.items, List.map_cons, List.isEmpty_cons]
    walk_at "ev"
    rw [i0g]
    walk_at "ev"
    rw [tup_ref hk]
    walk_at "ev"
    show Res.ok (Fl.rt (D.tup [.str (gw w), .tup (O.lst ((z :: y :: zs).map enc)).items])) s = _
    simp only [O.items, wrap, enc, encs_map]
theorem law_tidy_eq : ∀ (k : Nat) {j : J} {n : Nat} {st : Sto}, dep j ≤ k → k ≤ 15 → Sm j → FS st → callN gl P (n + k + 2) 26 [enc j] st = .ok (enc (tid j)) st
  | 0, j, n, st, hk, _, _, _ => by have := dep_pos j; omega
  | k + 1, j, n, st, hk, hk2, S, F => by
    rw [show n + (k + 1) + 2 = (n + k + 2) + 1 from rfl, call_eq p26 rfl]
    simp only [List.map_cons, List.map_nil, List.cons_append, List.nil_append, List.replicate, Nat.reduceSub]
    cases j with
    | step i =>
      rw [lt_cut, sk_rt (by rw [ltA_ok]; rfl), Res.bind_ok]
      exact fin_j F
    | mul w c x =>
      obtain ⟨hc, _, _, Sx⟩ := S
      have e := law_tidy_eq k (j := x) (n := n) (by simp only [dep] at hk; omega) (by omega) Sx F
      rw [lt_cut, sk (show evS gl _ ltA _ st = .ok (.nx _) st by rw [ltA_ok]; rfl), sk_rt (ltB_mul F hc Sx e), Res.bind_ok]
      exact fin_j F
    | grp w xs =>
      have hS := S.2.2.2
      have hl := S.1
      have hn : nodess (tids xs) ≤ 800 := by
        have := tids_nodes xs
        have := S.2.1
        simp only [nodes] at this; omega
      have eC : evS gl (callN gl P (n + k + 2)) ltC [some (enc (.grp w xs)), none, none, none, none] st = .ok (.nx [some (enc (.grp w xs)), none, some (.ref st.length), none, none]) (st ++ [.lst []]) := by
        simp only [ltC, lt2, lt1, tailS, headS, b26]
        walk_at "ev"
      have A0 : At st (st ++ [.lst (([] : List J).map enc)]) st.length [] := ⟨F.cut rfl, List.take_left, get_last, Nat.le_refl _⟩
      obtain ⟨k1, s1, f3, eL, A1⟩ := lt_loop (cf := callN gl P (n + k + 2)) (w := w) (ps := xs) (f1 := none) (f4 := none) (n := st.length + 1) (by omega) (tids xs) [] st.length _ none A0 (by simp only [List.length_nil]; omega)
      have eD : evS gl (callN gl P (n + k + 2)) ltD [some (enc (.grp w xs)), none, some (.ref st.length), none, none] (st ++ [.lst []]) = .ok (.nx [some (enc (.grp w xs)), none, some (.ref k1), f3, none]) s1 := by
        simp only [ltD, lt3, lt2, lt1, tailS, headS, b26]
        walk_at "ev"
        rw [i1g]
        walk_at "ev"
        rw [encs_map]
        have Fa : FS (st ++ [.lst []]) := F.cut rfl
        rw [lc_mapG (g := fun x => enc (tid x)) Fa (fun x hx => by
          refine ⟨?_, enc_top _⟩
          simp only [b26c0]
          walk_at "ev"
          have dx := parts_dep (j := .grp w xs) (x := x) hx
          exact law_tidy_eq k (by simp only [dep] at hk dx; omega) (by omega) (Sms_mem hS x hx) Fa) (Nat.le_trans hl (by decide : 400 ≤ sizeLine))]
        walk_at "ev"
        have e1 : (xs.map fun x => enc (tid x)) = (tids xs).map enc := by rw [tids_map, List.map_map]; rfl
        rw [e1, show (st ++ [O.lst []]).length = st.length + 1 by simp]
        exact eL
      rw [lt_cut, sk (show evS gl _ ltA _ st = .ok (.nx _) st by rw [ltA_ok]; rfl), sk ltB_grp, sk eC, sk eD]
      rw [List.nil_append] at A1
      have ln : nodess ((tids xs).flatMap (flat1 w)) ≤ nodess (tids xs) := flats_nodes w _
      have hy : ∀ y ∈ (tids xs).flatMap (flat1 w), dep y ≤ 30 := fun y hy => by
        obtain ⟨x, h1, h2⟩ := List.mem_flatMap.mp hy
        have := tids_dep xs x h1
        have := flat_dep h2
        simp only [dep] at hk; omega
      show _ = Res.ok (enc (wrap w (joined w ((tids xs).flatMap (flat1 w))))) st
      generalize (tids xs).flatMap (flat1 w) = ys at ln hy A1 ⊢
      have ll := len_nodess ys
      have jl := len_nodess (joined w ys)
      have jn := joined_nodes w ys
      have fin1 : ∀ {s : Sto} {k : Nat} {zs : List J} {z : J}, At st s k zs → (Res.ok (Fl.rt (enc z)) s).bind (fin false st.length) = .ok (enc z) st := fun {s k zs z} A => by
        rw [Res.bind_ok, fin_rt (by rw [enc_top]; omega), trim_fs A.fs (by rw [enc_top]; omega), A.pre]
      cases w with
      | false =>
        have eE : evS gl (callN gl P (n + k + 2)) ltE [some (enc (.grp false xs)), none, some (.ref k1), f3, none] s1 = .ok (.nx [some (enc (.grp false xs)), none, some (.ref k1), f3, none]) s1 := by
          simp only [ltE, lt4, lt3, lt2, lt1, tailS, headS, b26]
          walk_at "ev"
          rw [i0g]
          walk_at "ev"
          rw [gw_par]
          walk_at "ev"
        rw [sk eE, lt_end (zs := joined false ys) A1 (by omega)]
        exact fin1 A1
      | true =>
        obtain ⟨a, eg, ha⟩ := lj_eq (n := n + k + 1) (m := k1) A1.fs A1.at_ hy (by omega)
        have A2 : At st (s1 ++ [a, .lst ((joined true ys).map enc)]) (s1.length + 1) (joined true ys) := by
          refine ⟨fun o ho => ?_, ?_, by simp, by have := A1.lt; have := A1.ge; omega⟩
          · rcases List.mem_append.mp ho with h | h
            · exact A1.fs o h
            · simp only [List.mem_cons, List.not_mem_nil, or_false] at h
              rcases h with rfl | rfl
              · exact ha
              · show tops _ = 0
                rw [← encs_map]; exact encs_top _
          · rw [List.take_append_of_le_length (by have := A1.lt; have := A1.ge; omega)]; exact A1.pre
        have eE : evS gl (callN gl P (n + k + 2)) ltE [some (enc (.grp true xs)), none, some (.ref k1), f3, none] s1 = .ok (.nx [some (enc (.grp true xs)), none, some (.ref (s1.length + 1)), f3, none]) (s1 ++ [a, .lst ((joined true ys).map enc)]) := by
          simp only [ltE, lt4, lt3, lt2, lt1, tailS, headS, b26]
          walk_at "ev"
          rw [i0g]
          walk_at "ev"
          rw [gw_par]
          walk_at "ev"
          rw [eg]
          walk_at "ev"
        rw [sk eE, lt_end (zs := joined true ys) A2 (by omega)]
        exact fin1 A2
end Qk05

namespace Qk05
open PySem RP
local macro_rules | `(tactic| walk_at "ev") => `(tactic| simp only [e_v, lkV_some, lkG_some, e_k, e_g, e_tup, e_lst, e_lstM, e_dct, e_bin, e_cmp, e_chain, e_neg, e_not, e_and, e_or, e_ife, e_ix, e_call, e_bi, e_isi, e_mt, e_sl, e_rev, e_lc, es_nil, es_cons, i_seq, i_rng, i_zip, i_enum, a_nm, a_two, a_tup, a_lst, a_sub, s_ex', s_asg', s_two', s_aug', s_ret', s_ife', s_for', s_skip', s_rse', s_tr', h_nil', h_cons', tr_nx, tr_rt, tr_xc, e_xis, e_xat, e_fnl, ss_nil, ss_cons, it_tup, it_lst, zp_tup, zp_lst, en_lst, rev_lst, rev_tup, RP.neg_int, putTo_some, bi_len_tup, bi_len_lst, bi_list_tup, bi_tuple_lst, b_add, b_sub, c_lt, c_le, c_gt, c_ge, c_eqi, c_nei, c_isN, c_notN, c_eqnil, c_nenil, c_eqnilL, c_nenilL, c_eqstr, c_nestr, isB_bl, sz0, sz1, sz2, sz3, sz4, sz5, sz6, sz7, ix0, ix1, ix2, Tg.slots, wipeE, List.map_cons, List.map_nil, List.cons_append, List.nil_append, Nat.sub_self, List.replicate, List.getElem?_cons_zero, List.getElem?_cons_succ, List.set_cons_zero, List.set_cons_succ, Res.bind_ok, Res.thn_ok, Res.thn_exc, nxt_xc, nxt_nx, nxt_rt, br_some, tru_bl, if_true, if_false, Bool.false_eq_true, Bool.not_true, Bool.not_false, a_many, a_many3, a_many4, s_three', bi_mx2, bi_mn2, ix3, b_pow18, b_pow30, b_pow60, b_pow15, b_pow12, b_pow6, gg7, gg0, gg1, gg2, gg3, gg4, gg5, gg6, gg7])
local macro_rules | `(tactic| walk_at "end") => `(tactic| simp [nxt_nx, nxt_rt, ss_nil, br_some, tru_bl, D.top, tops, *])
/-! few kinds, the limits -/
structure GJob (j : J) : Prop where
  sm : Sm j
  dp : dep j ≤ 13
theorem GJob.mea {j : J} (g : GJob j) : (measM 13 (enc j)).isSome = true := by rw [measM_some g.dp g.sm]; rfl
theorem gw_len (w : Bool) : (gw w).cps.size = 3 := by cases w <;> decide +kernel
theorem mw_len (w : Bool) : (mw w).cps.size = 6 := by cases w <;> decide +kernel
mutual
theorem enc_bk : ∀ j : J, bk (enc j) + 1 ≤ 12 * nodes j
  | .step i => by simp only [enc, bk, nodes]; omega
  | .grp w xs => by
    have := encs_bk xs
    simp only [enc, bk, bks, nodes, gw_len]; omega
  | .mul w c x => by
    have := enc_bk x
    simp only [enc, bk, bks, nodes, mw_len]; omega
theorem encs_bk : ∀ xs : List J, bks (encs xs) ≤ 12 * nodess xs
  | [] => by simp [encs, bks, nodess]
  | x :: xs => by
    have := enc_bk x
    have := encs_bk xs
    simp only [encs, bks, nodess]; omega
end
mutual
theorem enc_dp : ∀ j : J, dp (enc j) ≤ 2 * dep j
  | .step i => by simp only [enc, dp, dep]; omega
  | .grp w xs => by
    have := encs_dp xs
    simp only [enc, dp, dps, dep]; omega
  | .mul w c x => by
    have := enc_dp x
    simp only [enc, dp, dps, dep]; omega
theorem encs_dp : ∀ xs : List J, dps (encs xs) ≤ 2 * deps xs
  | [] => by simp [encs, dps, deps]
  | x :: xs => by
    have := enc_dp x
    have := encs_dp xs
    simp only [encs, dps, deps]; omega
end
theorem bigI {i : Int} (h : 0 - big ≤ i ∧ i ≤ big) : i.natAbs < 2 ^ 130 := by
  have e : (10 : Nat) ^ 30 + 2 < 2 ^ 130 := by decide
  obtain ⟨a, b⟩ := h
  simp only [big] at a b
  omega
mutual
theorem enc_nv : ∀ j : J, Sm j → nv 130 (enc j) = true
  | .step i, h => by simp only [enc, nv]; exact decide_eq_true (bigI h)
  | .grp w xs, h => by simp only [enc, nv, nvs, gw_ok, encs_nv xs h.2.2.2, Bool.and_self]
  | .mul w c x, h => by
    have : decide (((c : Nat) : Int).natAbs < 2 ^ 130) = true := decide_eq_true (bigI ⟨by have : (0 : Int) ≤ c := Int.natCast_nonneg c; simp only [big]; omega, h.1⟩)
    simp only [enc, nv, nvs, mw_ok, this, enc_nv x h.2.2.2, Bool.and_self]
theorem encs_nv : ∀ xs : List J, Sms xs → nvs 130 (encs xs) = true
  | [], _ => rfl
  | x :: xs, h => by simp only [encs, nvs, enc_nv x h.1, encs_nv xs h.2, Bool.and_self]
end
theorem sm_nodes {j : J} (h : Sm j) : nodes j ≤ 400 := by
  cases j with
  | step i => simp [nodes]
  | grp w xs => exact h.2.1
  | mul w c x => exact h.2.1
theorem job_nv {j : J} (g : GJob j) : Nv 130 26 4800 (enc j) := ⟨enc_nv j g.sm, by have := enc_dp j; have := g.dp; omega, by have := enc_bk j; have := sm_nodes g.sm; omega⟩
theorem rep_job {j : J} {st : Sto} (g : GJob j) : bi .repr [enc j] st = .ok (.str (pyP (enc j)).shown) st := repr_nv (job_nv g) (by decide) (by decide) (by decide) (by decide)
theorem gj_of {j : J} (h : (measM 13 (enc j)).isSome = true) : GJob j := by
  obtain ⟨r, hr⟩ := Option.isSome_iff_exists.mp h
  obtain ⟨a, b, _⟩ := (measM_enc 13 j r).mp hr
  exact ⟨b, a⟩
def kJ : List J := [.step 2, .grp false [.step 2, .step (-3)], .mul false 2 (.mul false 3 (.step (-1))), .grp true [], .mul true 2 (.mul true 3 (.step 2))]
def kind1 : J := .grp false [.step 2, .step (-3)]
def opts (k : J) : List J := [k, .mul true 0 k, .mul true 1 k, .mul true 2 k, .mul true 3 k, .grp true [k, kind1], .grp false [k]]
def okO (x : J) : Bool := (measM 13 (enc x)).isSome && decide (dep x ≤ 6) && decide (nodes x ≤ 20) && decide (steps x ≤ 100)
theorem opts_ok : ∀ k ∈ kJ, ∀ x ∈ opts k, okO x = true := by
  have : (kJ.all fun k => (opts k).all okO) = true := by decide +kernel
  intro k hk x hx
  exact List.all_eq_true.mp (List.all_eq_true.mp this k hk) x hx
structure Okx (x : J) : Prop where
  sm : Sm x
  dp : dep x ≤ 6
  nd : nodes x ≤ 20
  sp : steps x ≤ 100
theorem okx_of {x : J} (h : okO x = true) : Okx x := by
  simp only [okO, Bool.and_eq_true, decide_eq_true_eq] at h
  exact ⟨(gj_of h.1.1.1).sm, h.1.1.2, h.1.2, h.2⟩
theorem few_job {xs : List J} (hl : xs.length ≤ 6) (h : ∀ x ∈ xs, Okx x) : GJob (.grp true xs) := by
  have a : ∀ {ys : List J}, (∀ x ∈ ys, Okx x) → nodess ys ≤ 20 * ys.length ∧ stepss ys ≤ 100 * ys.length ∧ deps ys ≤ 6 ∧ Sms ys := fun {ys} => by
    induction ys with
    | nil => intro _; exact ⟨Nat.le_refl _, Nat.le_refl _, Nat.zero_le _, trivial⟩
    | cons y ys ih =>
      intro hy
      obtain ⟨i1, i2, i3, i4⟩ := ih fun z hz => hy z (List.mem_cons_of_mem _ hz)
      have k := hy y List.mem_cons_self
      have k1 := k.nd; have k2 := k.sp; have k3 := k.dp
      refine ⟨?_, ?_, ?_, k.sm, i4⟩
      · simp only [nodess, List.length_cons]; omega
      · simp only [stepss, List.length_cons]; omega
      · simp only [deps]; omega
  obtain ⟨a1, a2, a3, a4⟩ := a h
  have B : (1000 : Int) ≤ big := by decide
  refine ⟨⟨by omega, by simp only [nodes]; omega, ?_, a4⟩, by simp only [dep]; omega⟩
  simp only [steps]
  exact Int.le_trans (show ((stepss xs : Nat) : Int) ≤ 1000 by omega) B
/-- a list of jobs behind the store, while draws go on -/
structure Fw (st : Sto) (p m : Nat) (s : Sto) (acc : List J) : Prop where
  pt : Pt p m s
  len : s.length = st.length + 1
  last : s[st.length]? = some (.lst (acc.map enc))
  oth : ∀ i, i < st.length → i ≠ p → s[i]? = st[i]?
theorem Fw.draw {st s s2 : Sto} {p m m2 : Nat} {acc : List J} (h : Fw st p m s acc) (hp : p < st.length) (d : Dr p m2 s s2) : Fw st p m2 s2 acc :=
  ⟨d.pt, by rw [d.len, h.len], by rw [d.oth _ (by omega), h.last], fun i hi ne => by rw [d.oth i ne, h.oth i hi ne]⟩
theorem Fw.app {st s : Sto} {p m : Nat} {acc : List J} {x : J} (h : Fw st p m s acc) (hp : p < st.length) : Fw st p m (s.set st.length (.lst (acc.map enc ++ [enc x]))) (acc ++ [x]) := by
  obtain ⟨a, b, c, h1, h2⟩ := h.pt.ex
  have t : tops (acc.map enc ++ [enc x]) = 0 := by
    have : acc.map enc ++ [enc x] = encs (acc ++ [x]) := by rw [encs_map, List.map_append]; rfl
    rw [this]; exact encs_top _
  refine ⟨⟨h.pt.fs.set t, a, b, c, by rw [List.getElem?_set_ne (by omega)]; exact h1, h2⟩, by rw [List.length_set, h.len], ?_, fun i hi ne => by rw [List.getElem?_set_ne (by omega)]; exact h.oth i hi ne⟩
  rw [get_set h.last, List.map_append]; rfl
theorem Fw.cut {st s : Sto} {p m : Nat} {acc : List J} (h : Fw st p m s acc) (hp : p < st.length) : Dr p m st (s.take st.length) := by
  obtain ⟨a, b, c, h1, h2⟩ := h.pt.ex
  refine ⟨⟨fun o ho => h.pt.fs o (List.mem_of_mem_take ho), a, b, c, by rw [List.getElem?_take, if_pos hp]; exact h1, h2⟩, by rw [List.length_take, h.len]; omega, fun i ne => ?_⟩
  rw [List.getElem?_take]
  by_cases c : i < st.length
  · rw [if_pos c]; exact h.oth i c ne
  · rw [if_neg c, List.getElem?_eq_none (by omega)]
theorem few_turn {n m p : Nat} {st s : Sto} {acc : List J} {f3 f4 f5 : Option D} (h : Fw st p m s acc) (hp : p < st.length) (hm : m + 10 < 2 ^ 60) (hl : acc.length ≤ 10) :
    ∃ x k c s', evSs gl (callN gl P (n + 1)) b27f0 [some (.ref p), some (.lst (kJ.map enc)), some (.ref st.length), f3, f4, f5] s = .ok (.nx [some (.ref p), some (.lst (kJ.map enc)), some (.ref st.length), f3, some (enc k), some (.int c)]) s' ∧ Fw st p (m + 3) s' (acc ++ [x]) ∧ Okx x := by
  have big : 20000 ≤ sizeLine := by decide
  simp only [b27f0]
  walk_at "ev"
  obtain ⟨_, s1, e1, r, rfl, r0, r1, d1⟩ := take_ok (n := n) (q := 5) h.pt (by omega) (by decide) (by decide)
  rw [e1]
  walk_at "ev"
  obtain ⟨d, hd, ed⟩ := ix_mem (i := r) (st := s1) (xs := kJ.map enc) r0 (by simpa [kJ] using r1)
  obtain ⟨k, hk, rfl⟩ := List.mem_map.mp hd
  rw [ed]
  walk_at "ev"
  obtain ⟨_, s2, e2, c, rfl, c0, c1, d2⟩ := take_ok (n := n) (q := 4) d1.pt (by omega) (by decide) (by decide)
  rw [e2]
  walk_at "ev"
  obtain ⟨_, s3, e3, q, rfl, q0, q1, d3⟩ := take_ok (n := n) (q := 4) d2.pt (by omega) (by decide) (by decide)
  rw [e3]
  walk_at "ev"
  rw [show ∀ s : Sto, ixD (.lst (kJ.map enc)) (.int 1) s = .ok (enc kind1) s from fun s => rfl]
  walk_at "ev"
  obtain ⟨q, rfl⟩ := Int.eq_ofNat_of_zero_le q0
  obtain ⟨y, hy, ey⟩ := ix_mem (i := c) (st := s3) (xs := [enc k, .tup [.str "copies", .int (q : Int), enc k], .tup [.str "par", .tup [enc k, enc kind1]], .tup [.str "seq", .tup [enc k]]]) c0 (by simpa using c1)
  rw [ey]
  walk_at "ev"
  have hx : ∃ x, y = enc x ∧ Okx x := by
    have qs : q = 0 ∨ q = 1 ∨ q = 2 ∨ q = 3 := by omega
    simp only [List.mem_cons, List.not_mem_nil, or_false] at hy
    rcases hy with rfl | rfl | rfl | rfl
    · exact ⟨k, rfl, okx_of (opts_ok k hk k (by simp [opts]))⟩
    · refine ⟨.mul true q k, rfl, okx_of (opts_ok k hk _ ?_)⟩
      rcases qs with rfl | rfl | rfl | rfl <;> simp [opts]
    · exact ⟨.grp true [k, kind1], rfl, okx_of (opts_ok k hk _ (by simp [opts]))⟩
    · exact ⟨.grp false [k], rfl, okx_of (opts_ok k hk _ (by simp [opts]))⟩
  obtain ⟨x, rfl, ox⟩ := hx
  have h3 : Fw st p (m + 3) s3 acc := (((h.draw hp d1).draw hp d2).draw hp d3)
  rw [ap_at h3.last (by simp; omega)]
  walk_at "ev"
  exact ⟨x, k, c, _, rfl, h3.app hp, ox⟩
theorem few_loop {n p : Nat} {st : Sto} {N : Nat} (hp : p < st.length) (hN : N = st.length + 1) : ∀ (xs : List D) (m : Nat) (s : Sto) (acc : List J) (f3 f4 f5 : Option D), Fw st p m s acc → m + 3 * xs.length + 20 < 2 ^ 60 → acc.length + xs.length ≤ 10 → (∀ x ∈ acc, Okx x) →
    ∃ s' acc' f3' f4' f5', forLoop (asg gl (callN gl P (n + 1)) (.nm 3)) (evSs gl (callN gl P (n + 1)) b27f0) [] N xs [some (.ref p), some (.lst (kJ.map enc)), some (.ref st.length), f3, f4, f5] s = .ok (.nx [some (.ref p), some (.lst (kJ.map enc)), some (.ref st.length), f3', f4', f5']) s' ∧ Fw st p (m + 3 * xs.length) s' acc' ∧ acc'.length = acc.length + xs.length ∧ ∀ x ∈ acc', Okx x
  | [], m, s, acc, f3, f4, f5, h, _, _, ha => ⟨s, acc, f3, f4, f5, by simp only [forLoop, still, if_true], by simpa using h, rfl, ha⟩
  | x :: xs, m, s, acc, f3, f4, f5, h, hm, hl, ha => by
    simp only [List.length_cons] at hm hl
    obtain ⟨y, k, c, s1, e1, h1, oy⟩ := few_turn (n := n) (f3 := some x) (f4 := f4) (f5 := f5) h hp (by omega) (by omega)
    obtain ⟨s2, acc', a3, a4, a5, e2, h2, l2, o2⟩ := few_loop (n := n) hp hN xs (m + 3) s1 (acc ++ [y]) (some x) (some (enc k)) (some (.int c)) h1 (by omega) (by simp only [List.length_append, List.length_cons, List.length_nil]; omega) (fun z hz => by
      rcases List.mem_append.mp hz with hz | hz
      · exact ha z hz
      · obtain rfl : z = y := by simpa using hz
        exact oy)
    refine ⟨s2, acc', a3, a4, a5, ?_, ?_, by rw [l2]; simp only [List.length_append, List.length_cons, List.length_nil]; omega, o2⟩
    · simp only [forLoop, still, if_true, a_nm, Res.bind_ok, List.set_cons_zero, List.set_cons_succ]
      rw [e1, Res.bind_ok, nxt_nx, trim_len (by rw [hN, h1.len]), e2]
    · rw [show m + 3 * (x :: xs).length = m + 3 + 3 * xs.length by simp only [List.length_cons]; omega]; exact h2
def fwA : S := headS b27
def fw1 : Ss := tailS b27
def fwB : S := headS fw1
def fw2 : Ss := tailS fw1
def fwC : S := headS fw2
def fwR : Ss := tailS fw2
theorem fw_cut : b27 = .cons fwA (.cons fwB (.cons fwC fwR)) := rfl
theorem few_ok {n m p : Nat} {st : Sto} (h : Pt p m st) (hm : m + 100 < 2 ^ 60) : ∃ j s, callN gl P (n + 2) 27 [.ref p] st = .ok (enc j) s ∧ GJob j ∧ Dr p (m + 30) st s := by
  have hp := pt_in h
  rw [call_eq p27 rfl]
  simp only [List.map_cons, List.map_nil, List.cons_append, List.nil_append, List.replicate, Nat.reduceSub]
  have eA : evS gl (callN gl P (n + 1)) fwA [some (.ref p), none, none, none, none, none] st = .ok (.nx [some (.ref p), some (.lst (kJ.map enc)), none, none, none, none]) st := by
    simp only [fwA, headS, b27]
    walk_at "ev"
    rfl
  have eB : evS gl (callN gl P (n + 1)) fwB [some (.ref p), some (.lst (kJ.map enc)), none, none, none, none] st = .ok (.nx [some (.ref p), some (.lst (kJ.map enc)), some (.ref st.length), none, none, none]) (st ++ [.lst []]) := by
    simp only [fwB, fw1, tailS, headS, b27]
    walk_at "ev"
  have Fa : Fw st p m (st ++ [.lst (([] : List J).map enc)]) [] := by
    obtain ⟨a, b, c, h1, h2⟩ := h.ex
    exact ⟨⟨h.fs.cut rfl, a, b, c, by rw [List.getElem?_append_left hp]; exact h1, h2⟩, by simp, get_last, fun i hi _ => List.getElem?_append_left hi⟩
  obtain ⟨_, s1, e1, r, rfl, r0, r1, d1⟩ := take_ok (n := n) (q := 7) Fa.pt (by omega) (by decide) (by decide)
  have F1 := Fa.draw hp d1
  have ln : (numb 0 r.toNat).length = r.toNat := numb_len _ _
  obtain ⟨s2, xs, f3, f4, f5, eL, F2, l2, o2⟩ := few_loop (n := n) (N := st.length + 1) hp rfl (numb 0 r.toNat) (m + 1) s1 [] none none none F1 (by omega) (by simp only [List.length_nil]; omega) (fun x hx => nomatch hx)
  have eC : evS gl (callN gl P (n + 1)) fwC [some (.ref p), some (.lst (kJ.map enc)), some (.ref st.length), none, none, none] (st ++ [.lst []]) = .ok (.nx [some (.ref p), some (.lst (kJ.map enc)), some (.ref st.length), f3, f4, f5]) s2 := by
    simp only [fwC, fw2, fw1, tailS, headS, b27]
    walk_at "ev"
    simp only [List.map_nil] at e1
    rw [e1]
    walk_at "ev"
    rw [rng_of (by omega)]
    walk_at "ev"
    rw [show (r - 0).toNat = r.toNat by omega, F1.len]
    exact eL
  rw [fw_cut, sk eA, sk eB, sk eC]
  have jb := few_job (xs := xs) (by rw [l2]; simp only [List.length_nil]; omega) o2
  have eR : evSs gl (callN gl P (n + 1)) fwR [some (.ref p), some (.lst (kJ.map enc)), some (.ref st.length), f3, f4, f5] s2 = .ok (.rt (enc (.grp true xs))) s2 := by
    simp only [fwR, fw2, fw1, tailS, b27]
    walk_at "ev"
    rw [tup_ref F2.last]
    walk_at "ev"
    show Res.ok (Fl.rt (D.tup [.str "par", .tup (O.lst (xs.map enc)).items])) s2 = _
    simp only [O.items, enc, encs_map]
    rfl
  rw [eR, Res.bind_ok, fin_rt (by rw [enc_top]; omega), trim_fs F2.pt.fs (by rw [enc_top]; omega)]
  exact ⟨.grp true xs, _, rfl, jb, (F2.cut hp).mono (by omega)⟩
/-- whether tidy raises -/
theorem xat_ok {st : Sto} {d : D} : xatD [1] (.exn 1 [d]) st = .ok d st := rfl
theorem xis_ok {st : Sto} {d : D} : xisD [0] (.exn 1 [d]) st = .ok (.bl false) st := rfl
theorem raised_eq {n : Nat} {j : J} {st : Sto} (g : GJob j) (F : FS st) : callN gl P (n + 34) 28 [enc j] st = .ok (.bl (!(measM 13 (enc (tid j))).isSome)) st := by
  rw [call_eq p28 rfl]
  simp only [b28]
  walk_at "ev"
  rw [tidy_eq g.dp g.sm F]
  unfold tyR
  cases (measM 13 (enc (tid j))).isSome with
  | true =>
    simp only [if_true]
    walk_at "ev"
    exact fin_same F rfl rfl
  | false =>
    simp only [Bool.false_eq_true, if_false]
    walk_at "ev"
    simp only [show ([1] : List Nat).contains 1 = true from rfl, putX]
    walk_at "ev"
    rw [xat_ok]
    walk_at "ev"
    rw [show ((400 : Int) == 400) = true from rfl]
    walk_at "ev"
    rw [xis_ok]
    walk_at "ev"
    rw [sut_rt F rfl rfl]
    walk_at "ev"
    exact fin_same F rfl rfl
end Qk05

namespace Qk05
open PySem RP
local macro_rules | `(tactic| walk_at "ev") => `(tactic| simp only [e_v, lkV_some, lkG_some, e_k, e_g, e_tup, e_lst, e_lstM, e_dct, e_bin, e_cmp, e_chain, e_neg, e_not, e_and, e_or, e_ife, e_ix, e_call, e_bi, e_isi, e_mt, e_sl, e_rev, e_lc, es_nil, es_cons, i_seq, i_rng, i_zip, i_enum, a_nm, a_two, a_tup, a_lst, a_sub, s_ex', s_asg', s_two', s_aug', s_ret', s_ife', s_for', s_skip', s_rse', s_tr', h_nil', h_cons', tr_nx, tr_rt, tr_xc, e_xis, e_xat, e_fnl, ss_nil, ss_cons, it_tup, it_lst, zp_tup, zp_lst, en_lst, rev_lst, rev_tup, RP.neg_int, putTo_some, bi_len_tup, bi_len_lst, bi_list_tup, bi_tuple_lst, b_add, b_sub, c_lt, c_le, c_gt, c_ge, c_eqi, c_nei, c_isN, c_notN, c_eqnil, c_nenil, c_eqnilL, c_nenilL, c_eqstr, c_nestr, isB_bl, sz0, sz1, sz2, sz3, sz4, sz5, sz6, sz7, ix0, ix1, ix2, Tg.slots, wipeE, List.map_cons, List.map_nil, List.cons_append, List.nil_append, Nat.sub_self, List.replicate, List.getElem?_cons_zero, List.getElem?_cons_succ, List.set_cons_zero, List.set_cons_succ, Res.bind_ok, Res.thn_ok, Res.thn_exc, nxt_xc, nxt_nx, nxt_rt, br_some, tru_bl, if_true, if_false, Bool.false_eq_true, Bool.not_true, Bool.not_false, a_many, a_many3, a_many4, s_three', bi_mx2, bi_mn2, ix3, b_pow18, b_pow30, b_pow60, b_pow15, b_pow12, b_pow6, gg7, gg0, gg1, gg2, gg3, gg4, gg5, gg6, gg7])
local macro_rules | `(tactic| walk_at "end") => `(tactic| simp [nxt_nx, nxt_rt, ss_nil, br_some, tru_bl, D.top, tops, *])
/-! nests, the limits, the law -/
def nst (k : Nat) : Nat → J
  | 0 => .step 5
  | i + 1 => if (k - i) % 2 = 1 then .grp false [nst k i, .step 1] else .grp true [nst k i, .step 2]
theorem nst_turn {cf : CallF} {k i : Nat} {st : Sto} (h : i < k) : evSs gl cf b29f0 [some (.int (k : Int)), some (enc (nst k i)), some (.int (i : Int))] st = .ok (.nx [some (.int (k : Int)), some (enc (nst k (i + 1))), some (.int (i : Int))]) st := by
  simp only [b29f0]
  walk_at "ev"
  rw [b_mod (by decide)]
  walk_at "ev"
  have e : (((k : Int) - (i : Int)) % 2 == 1) = decide ((k - i) % 2 = 1) := by
    by_cases c : (k - i) % 2 = 1
    · rw [decide_eq_true c, beq_iff_eq]; omega
    · rw [decide_eq_false c, beq_eq_false_iff_ne]; omega
  rw [e]
  by_cases c : (k - i) % 2 = 1
  · rw [decide_eq_true c]
    walk_at "ev"
    simp only [nst, c, if_true]
    rfl
  · rw [decide_eq_false c]
    walk_at "ev"
    simp only [nst, c, if_false]
    rfl
theorem nst_loop {cf : CallF} {k : Nat} {st : Sto} : ∀ (r i : Nat) (f2 : Option D), i + r ≤ k → ∃ f2', forLoop (asg gl cf (.nm 2)) (evSs gl cf b29f0) [] st.length (numb (i : Int) r) [some (.int (k : Int)), some (enc (nst k i)), f2] st = .ok (.nx [some (.int (k : Int)), some (enc (nst k (i + r))), f2']) st
  | 0, i, f2, _ => ⟨f2, by simp only [numb, forLoop, still, if_true]; rfl⟩
  | r + 1, i, f2, h => by
    obtain ⟨f2', e⟩ := nst_loop (cf := cf) (k := k) (st := st) r (i + 1) (some (.int (i : Int))) (by omega)
    refine ⟨f2', ?_⟩
    simp only [numb, forLoop, still, if_true, a_nm, Res.bind_ok, List.set_cons_zero, List.set_cons_succ]
    rw [nst_turn (by omega), Res.bind_ok, nxt_nx, trim_len rfl, show ((i : Int) + 1) = ((i + 1 : Nat) : Int) by omega, e, show i + 1 + r = i + (r + 1) by omega]
theorem rng_numb {k : Nat} {st : Sto} (hk : k ≤ 1000) : rngOf (.int 0) (.int (k : Int)) st = .ok ([], numb 0 k) st := by
  rw [rng_of (by omega), show ((k : Int) - 0).toNat = k by omega]
theorem nest_gen {n : Nat} {i : Int} {st : Sto} {L : List D} {z : J} {f2 : Option D} (F : FS st) (er : rngOf (.int 0) (.int i) st = .ok ([], L) st)
    (el : forLoop (asg gl (callN gl P n) (.nm 2)) (evSs gl (callN gl P n) b29f0) [] st.length L [some (.int i), some (.int 5), none] st = .ok (.nx [some (.int i), some (enc z), f2]) st) : callN gl P (n + 1) 29 [.int i] st = .ok (enc z) st := by
  rw [call_eq p29 rfl]
  simp only [b29]
  walk_at "ev"
  rw [er]
  walk_at "ev"
  rw [el]
  walk_at "ev"
  exact fin_j F
theorem nest_eq {n k : Nat} {st : Sto} (F : FS st) (hk : k ≤ 100) : callN gl P (n + 1) 29 [.int (k : Int)] st = .ok (enc (nst k k)) st := by
  obtain ⟨f2, e⟩ := nst_loop (cf := callN gl P n) (k := k) (st := st) k 0 none (by omega)
  rw [Nat.zero_add, Int.natCast_zero] at e
  exact nest_gen F (rng_numb (by omega)) e
def ones (k : Nat) : List J := List.replicate k (.step 1)
def rowJ : J := .grp false [.grp false [.step 0, .step 0], .grp false (ones 120)]
def l1 : J := .grp false [rowJ, .step 1]
def t1 : J := .grp false (.step 0 :: .step 0 :: ones 121)
def l2 : J := .grp true [.grp true (ones 390), .step 1, .step 2]
def t2 : J := .grp true [.mul true 391 (.step 1), .step 2]
def l3 : J := .grp true [nst 10 10, .step 1, nst 10 10]
def t3 : J := .grp true [.mul true 2 (nst 10 10), .step 1]
def l4 : J := .grp true [nst 11 11, .step 1, nst 11 11]
theorem l1_ok : GJob l1 := gj_of (by decide +kernel)
theorem l2_ok : GJob l2 := gj_of (by decide +kernel)
theorem l3_ok : GJob l3 := gj_of (by decide +kernel)
theorem l4_ok : GJob l4 := gj_of (by decide +kernel)
theorem t1_eq : tid l1 = t1 := by decide +kernel
theorem t2_eq : tid l2 = t2 := by decide +kernel
theorem t3_eq : tid l3 = t3 := by decide +kernel
theorem t1_ok : (measM 13 (enc t1)).isSome = true := by decide +kernel
theorem t2_ok : (measM 13 (enc t2)).isSome = true := by decide +kernel
theorem t3_ok : (measM 13 (enc t3)).isSome = true := by decide +kernel
theorem t4_no : (measM 13 (enc (tid l4))).isSome = false := by decide +kernel
theorem mul1 {st : Sto} : bin .mul (.tup [.int 1]) (.int 120) st = .ok (.tup (encs (ones 120))) st := rfl
theorem mul2 {st : Sto} : bin .mul (.tup [.int 1]) (.int 121) st = .ok (.tup (encs (ones 121))) st := rfl
theorem mul3 {st : Sto} : bin .mul (.tup [.int 1]) (.int 390) st = .ok (.tup (encs (ones 390))) st := rfl
theorem tidy_at {n : Nat} {j t : J} {st : Sto} (g : GJob j) (e : tid j = t) (ok : (measM 13 (enc t)).isSome = true) (F : FS st) : callN gl P (n + 33) 20 [enc j] st = .ok (enc t) st := by
  rw [tidy_eq g.dp g.sm F]
  unfold tyR
  rw [e, if_pos ok]
theorem ne_same {t : J} {st : Sto} (h : dep t ≤ 30) : cmp .ne (enc t) (enc t) st = .ok (.bl false) st := by
  rw [ne_enc (.inl h), decide_eq_true rfl]; rfl
def M1 : Ss := tailS b30
def M2 : Ss := tailS M1
def M3 : Ss := tailS M2
def M4 : Ss := tailS M3
theorem m0c : b30 = .cons (headS b30) M1 := rfl
theorem m1c : M1 = .cons (headS M1) M2 := rfl
theorem m2c : M2 = .cons (headS M2) M3 := rfl
theorem m3c : M3 = .cons (headS M3) M4 := rfl
section
variable {n : Nat} {st : Sto} {f0 : Option D}
theorem m0_ok {cf : CallF} : evS gl cf (headS b30) [f0] st = .ok (.nx [some (enc rowJ)]) st := by
  simp only [headS, b30]
  walk_at "ev"
  rw [mul1]
  walk_at "ev"
  rfl
theorem m1_ok (F : FS st) : evS gl (callN gl P (n + 50)) (headS M1) [some (enc rowJ)] st = .ok (.nx [some (enc rowJ)]) st := by
  have e := tidy_at (n := n + 17) l1_ok t1_eq t1_ok F
  rw [show n + 17 + 33 = n + 50 by omega] at e
  simp only [M1, tailS, headS, b30]
  walk_at "ev"
  rw [show D.tup [.str "seq", .tup [enc rowJ, .int 1]] = enc l1 from rfl, e]
  walk_at "ev"
  rw [mul2]
  walk_at "ev"
  rw [b_cat (by rw [encs_len]; show 2 + 121 ≤ sizeLine; decide)]
  walk_at "ev"
  rw [show D.tup [.str "seq", .tup (D.int 0 :: D.int 0 :: encs (ones 121))] = enc t1 from rfl, ne_same (by decide)]
  walk_at "ev"
theorem m2_ok (F : FS st) : evS gl (callN gl P (n + 50)) (headS M2) [f0] st = .ok (.nx [f0]) st := by
  have e := tidy_at (n := n + 17) l2_ok t2_eq t2_ok F
  rw [show n + 17 + 33 = n + 50 by omega] at e
  simp only [M2, M1, tailS, headS, b30]
  walk_at "ev"
  rw [mul3]
  walk_at "ev"
  rw [show D.tup [.str "par", .tup [.tup [.str "par", .tup (encs (ones 390))], .int 1, .int 2]] = enc l2 from rfl, e]
  walk_at "ev"
  rw [show D.tup [.str "par", .tup [.tup [.str "copies", .int 391, .int 1], .int 2]] = enc t2 from rfl, ne_same (by decide)]
  walk_at "ev"
theorem m3_ok (F : FS st) : evS gl (callN gl P (n + 50)) (headS M3) [f0] st = .ok (.nx [f0]) st := by
  have e := tidy_at (n := n + 17) l3_ok t3_eq t3_ok F
  rw [show n + 17 + 33 = n + 50 by omega] at e
  have q : callN gl P (n + 50) 29 [.int 10] st = .ok (enc (nst 10 10)) st := nest_eq (n := n + 49) (k := 10) F (by decide)
  simp only [M3, M2, M1, tailS, headS, b30]
  walk_at "ev"
  rw [q]
  walk_at "ev"
  rw [q]
  walk_at "ev"
  rw [show D.tup [.str "par", .tup [enc (nst 10 10), .int 1, enc (nst 10 10)]] = enc l3 from rfl, e]
  walk_at "ev"
  rw [q]
  walk_at "ev"
  rw [show D.tup [.str "par", .tup [.tup [.str "copies", .int 2, enc (nst 10 10)], .int 1]] = enc t3 from rfl, ne_same (by decide)]
  walk_at "ev"
theorem m4_ok (F : FS st) : evSs gl (callN gl P (n + 50)) M4 [f0] st = .ok (.rt (.bl true)) st := by
  have e := raised_eq (n := n + 16) l4_ok F
  rw [show n + 16 + 34 = n + 50 by omega, t4_no] at e
  have q : callN gl P (n + 50) 29 [.int 11] st = .ok (enc (nst 11 11)) st := nest_eq (n := n + 49) (k := 11) F (by decide)
  simp only [M4, M3, M2, M1, tailS, b30]
  walk_at "ev"
  rw [q]
  walk_at "ev"
  rw [q]
  walk_at "ev"
  rw [show D.tup [.str "par", .tup [enc (nst 11 11), .int 1, enc (nst 11 11)]] = enc l4 from rfl, e]
  walk_at "ev"
theorem limits_eq (F : FS st) : callN gl P (n + 51) 30 [] st = .ok (.bl true) st := by
  rw [call_eq p30 rfl]
  simp only [List.map_nil, List.nil_append, List.replicate, Nat.reduceSub]
  rw [m0c, sk m0_ok, m1c, sk (m1_ok F), m2c, sk (m2_ok F), m3c, sk (m3_ok F), m4_ok F, Res.bind_ok]
  exact fin_same F rfl rfl
end
/-! one job -/
theorem neL_same {x : D} {xs : List D} {st : Sto} (hp : purs (x :: xs) = true) (hd : (pyP (.lst (x :: xs))).depth ≤ 64) : cmp .ne (.lst (x :: xs)) (.lst (x :: xs)) st = .ok (.bl false) st := by
  have t1 : toPy st (.lst (x :: xs)) = some (.list (pyPs (x :: xs))) := toPy_of (by simp only [D.top]; exact purs_top _ hp) st
  have l1 : (PyData.list (pyPs (x :: xs))).canLay0 = true := by simp only [PyData.canLay0]; exact purs_lay _ hp
  have e : eqD (.lst (x :: xs)) (.lst (x :: xs)) st = some true := by
    show eqP (.lst (x :: xs)) (.lst (x :: xs)) st = _
    unfold eqP
    rw [t1]
    simp only [l1, true_and, Nat.min_self]
    rw [if_pos (by simpa [pyP] using hd), SeqAt.eqv_refl _ l1]
  simp only [cmp, e, Option.map_some, ofB, Bool.not_true]
def K0 : S := headS b31f0
def K1 : S := headS (tailS b31f0)
theorem kc : b31f0 = .cons K0 (.cons K1 .nil) := rfl
section
variable {n : Nat} {j : J} {st : Sto} {f0 f1 f2 f3 f5 f6 f7 : Option D}
theorem k0_ok (F : FS st) (g : GJob j) : evS gl (callN gl P (n + 60)) K0 [f0, f1, f2, f3, some (enc j), f5, f6, f7] st = .ok (.nx [f0, f1, f2, f3, some (enc j), some (.str (pyP (enc j)).shown), some (enc (tid j)), f7]) st := by
  have e := law_tidy_eq 13 (n := n + 45) g.dp (by decide) g.sm F
  rw [show n + 45 + 13 + 2 = n + 60 by omega] at e
  simp only [K0, headS, b31f0]
  walk_at "ev"
  rw [rep_job g]
  walk_at "ev"
  rw [e]
  walk_at "ev"
theorem k1_ok (F : FS st) (g : GJob j) : ∃ f7', evS gl (callN gl P (n + 60)) K1 [f0, f1, f2, f3, some (enc j), some (.str (pyP (enc j)).shown), some (enc (tid j)), f7] st = .ok (.nx [f0, f1, f2, f3, some (enc j), some (.str (pyP (enc j)).shown), some (enc (tid j)), f7']) st := by
  have e6 := is_job_eq (n := n + 30) (d := enc (tid j)) F (enc_top _)
  rw [show n + 30 + 30 = n + 60 by omega] at e6
  have er := raised_eq (n := n + 26) g F
  rw [show n + 26 + 34 = n + 60 by omega] at er
  simp only [K1, tailS, headS, b31f0]
  walk_at "ev"
  rw [e6]
  cases hm : (measM 13 (enc (tid j))).isSome with
  | false =>
    rw [hm] at er
    walk_at "ev"
    rw [er]
    walk_at "ev"
    exact ⟨f7, rfl⟩
  | true =>
    have gt : GJob (tid j) := gj_of hm
    have t1 := tidy_at (n := n + 27) g rfl hm F
    have t2 := tidy_at (n := n + 27) gt (tid_tid j) hm F
    rw [show n + 27 + 33 = n + 60 by omega] at t1 t2
    have a1 := step_count_ok (n := n + 27) gt.dp gt.sm F
    have a2 := net_eq (n := n + 27) gt.dp gt.sm F
    have a3 := lowest_eq (n := n + 27) gt.dp gt.sm F
    have b1 := step_count_ok (n := n + 27) g.dp g.sm F
    have b2 := net_eq (n := n + 27) g.dp g.sm F
    have b3 := lowest_eq (n := n + 27) g.dp g.sm F
    rw [show n + 27 + 33 = n + 60 by omega] at a1 a2 a3 b1 b2 b3
    rw [tid_steps] at a1
    rw [tid_net] at a2
    rw [tid_low] at a3
    walk_at "ev"
    rw [t1]
    walk_at "ev"
    rw [rep_job gt]
    walk_at "ev"
    rw [rep_job gt]
    walk_at "ev"
    try simp only [decide_true]
    try walk_at "ev"
    rw [t2]
    walk_at "ev"
    rw [ne_same (by have := gt.dp; omega)]
    walk_at "ev"
    rw [rep_job g]
    walk_at "ev"
    try simp only [decide_true]
    try walk_at "ev"
    rw [a1]
    walk_at "ev"
    rw [a2]
    walk_at "ev"
    rw [a3]
    walk_at "ev"
    rw [b1]
    walk_at "ev"
    rw [b2]
    walk_at "ev"
    rw [b3]
    walk_at "ev"
    rw [neL_same rfl (by simp [pyP, pyPs, PyData.depth, PyData.depthAll])]
    walk_at "ev"
    exact ⟨_, rfl⟩
theorem job_turn (F : FS st) (g : GJob j) : ∃ f5' f6' f7', evSs gl (callN gl P (n + 60)) b31f0 [f0, f1, f2, f3, some (enc j), f5, f6, f7] st = .ok (.nx [f0, f1, f2, f3, some (enc j), f5', f6', f7']) st := by
  obtain ⟨f7', e⟩ := k1_ok (n := n) (f0 := f0) (f1 := f1) (f2 := f2) (f3 := f3) (f7 := f7) F g
  exact ⟨_, _, f7', by rw [kc, sk (k0_ok F g), sk e, ss_nil]⟩
end
/-! one number of the script -/
def wrJ : J := .mul true 2 (.mul true (10 ^ 9) (.grp true [.step 1, .step 1]))
theorem wr_ok : GJob wrJ := gj_of (by decide +kernel)
def U0 : Ss := b31f1
def U1 : Ss := tailS U0
def U2 : Ss := tailS U1
theorem u0c : b31f1 = .cons (headS U0) U1 := rfl
theorem u1c : U1 = .cons (headS U1) U2 := rfl
theorem u2c : U2 = .cons (headS U2) .nil := rfl
section
variable {n m p : Nat} {j : J} {st : Sto} {f0 f1 f2 f3 f4 f5 f6 f7 : Option D}
theorem u0_ok {k : Nat} {ns : List Int} (F : FS st) (h0 : st[0]? = some (.fro (ns.map D.int))) (hk : k < 100) :
    ∃ L, evS gl (callN gl P (n + 60)) (headS U0) [some (.ref 0), some (.int (k : Int)), f2, f3, f4, f5, f6, f7] st = .ok (.nx [some (.ref 0), some (.int (k : Int)), some (.ref st.length), f3, f4, f5, f6, f7]) (st ++ [.lst L]) ∧ Pt st.length 0 (st ++ [.lst L]) := by
  obtain ⟨L, eL, hp⟩ := pot_ok (n := n + 59) F h0 hk
  refine ⟨L, ?_, hp⟩
  simp only [U0, headS, b31f1]
  walk_at "ev"
  rw [eL]
  walk_at "ev"
theorem u1_ok (h : Pt p m st) (hm : m + 20000 < 2 ^ 60) :
    ∃ j s, evS gl (callN gl P (n + 60)) (headS U1) [f0, f1, some (.ref p), f3, f4, f5, f6, f7] st = .ok (.nx [f0, f1, some (.ref p), some (enc j), f4, f5, f6, f7]) s ∧ Dr p (m + 20000) st s := by
  have d5 : drN (4 + 1) = 10230 := by decide
  obtain ⟨_, s, e, j, rfl, g, d⟩ := job_ok (C := 10 ^ 12) 4 (n + 53) m p st [0, 1, 2, 3, 10 ^ 12, 1] (by decide) (by decide) (fun c hc => by
    simp only [List.mem_cons, List.not_mem_nil, or_false] at hc
    rcases hc with rfl | rfl | rfl | rfl | rfl | rfl <;> decide) h (by omega)
  refine ⟨j, s, ?_, d.mono (by omega)⟩
  simp only [U1, U0, headS, tailS, b31f1]
  walk_at "ev"
  rw [show n + 60 = n + 53 + 4 + 3 by omega, show ([D.int 0, D.int 1, D.int 2, D.int 3, D.int (10 ^ 12), D.int 1] : List D) = ([0, 1, 2, 3, 10 ^ 12, 1] : List Int).map D.int from rfl, show (D.int 5) = D.int ((4 + 1 : Nat) : Int) from rfl, e]
  walk_at "ev"
theorem two_jobs {a b : J} {f4 : Option D} (F : FS st) (ga : GJob a) (gb : GJob b) : ∃ f4' f5' f6' f7', forLoop (asg gl (callN gl P (n + 60)) (.nm 4)) (evSs gl (callN gl P (n + 60)) b31f0) [] st.length [enc a, enc b] [f0, f1, f2, f3, f4, f5, f6, f7] st = .ok (.nx [f0, f1, f2, f3, f4', f5', f6', f7']) st := by
  obtain ⟨a5, a6, a7, e1⟩ := job_turn (n := n) (f0 := f0) (f1 := f1) (f2 := f2) (f3 := f3) (f5 := f5) (f6 := f6) (f7 := f7) F ga
  obtain ⟨b5, b6, b7, e2⟩ := job_turn (n := n) (f0 := f0) (f1 := f1) (f2 := f2) (f3 := f3) (f5 := a5) (f6 := a6) (f7 := a7) F gb
  refine ⟨some (enc b), b5, b6, b7, ?_⟩
  simp only [forLoop, still, if_true, a_nm, Res.bind_ok, List.set_cons_zero, List.set_cons_succ]
  rw [e1, Res.bind_ok, nxt_nx, trim_len rfl]
  simp only [List.set_cons_zero, List.set_cons_succ]
  rw [e2, Res.bind_ok, nxt_nx, trim_len rfl]
theorem u2_ok (h : Pt p m st) (hm : m + 1000 < 2 ^ 60) : ∃ f4' f5' f6' f7' s, evS gl (callN gl P (n + 60)) (headS U2) [f0, f1, some (.ref p), some (enc j), f4, f5, f6, f7] st = .ok (.nx [f0, f1, some (.ref p), some (enc j), f4', f5', f6', f7']) s ∧ Dr p (m + 30) st s := by
  have e6 := is_job_eq (n := n + 30) (d := enc j) h.fs (enc_top _)
  rw [show n + 30 + 30 = n + 60 by omega] at e6
  obtain ⟨b, s, eb, gb, d⟩ := few_ok (n := n + 58) h (by omega)
  rw [show n + 58 + 2 = n + 60 by omega] at eb
  simp only [U2, U1, U0, headS, tailS, b31f1]
  walk_at "ev"
  rw [e6]
  cases hq : (measM 13 (enc j)).isSome with
  | true =>
    walk_at "ev"
    rw [eb]
    walk_at "ev"
    obtain ⟨g4, g5, g6, g7, e⟩ := two_jobs (n := n) (f0 := f0) (f1 := f1) (f2 := some (.ref p)) (f3 := some (enc j)) (f4 := f4) (f5 := f5) (f6 := f6) (f7 := f7) d.pt.fs (gj_of hq) gb
    exact ⟨g4, g5, g6, g7, s, e, d⟩
  | false =>
    walk_at "ev"
    rw [b_pow (by decide +kernel)]
    walk_at "ev"
    rw [eb]
    walk_at "ev"
    obtain ⟨g4, g5, g6, g7, e⟩ := two_jobs (n := n) (f0 := f0) (f1 := f1) (f2 := some (.ref p)) (f3 := some (enc j)) (f4 := f4) (f5 := f5) (f6 := f6) (f7 := f7) d.pt.fs wr_ok gb
    exact ⟨g4, g5, g6, g7, s, e, d⟩
end
theorem num_ok {n k : Nat} {st : Sto} {ns : List Int} {f2 f3 f4 f5 f6 f7 : Option D} (F : FS st) (h0 : st[0]? = some (.fro (ns.map D.int))) (hk : k < 100) :
    Wp (evSs gl (callN gl P (n + 60)) b31f1 [some (.ref 0), some (.int (k : Int)), f2, f3, f4, f5, f6, f7] st) fun f s => ∃ f2 f3 f4 f5 f6 f7, f = .nx [some (.ref 0), some (.int (k : Int)), f2, f3, f4, f5, f6, f7] ∧ FS s ∧ s[0]? = some (.fro (ns.map D.int)) := by
  have p0 : 0 < st.length := (List.getElem?_eq_some_iff.mp h0).1
  obtain ⟨L, e0, hp⟩ := u0_ok (n := n) (f2 := f2) (f3 := f3) (f4 := f4) (f5 := f5) (f6 := f6) (f7 := f7) F h0 hk
  have h01 : (st ++ [O.lst L])[0]? = some (.fro (ns.map D.int)) := by rw [List.getElem?_append_left p0]; exact h0
  obtain ⟨j, s1, e1, d1⟩ := u1_ok (n := n) (f0 := some (.ref 0)) (f1 := some (.int (k : Int))) (f3 := f3) (f4 := f4) (f5 := f5) (f6 := f6) (f7 := f7) hp (by omega)
  obtain ⟨g4, g5, g6, g7, s2, e2, d2⟩ := u2_ok (n := n) (j := j) (f0 := some (.ref 0)) (f1 := some (.int (k : Int))) (f4 := f4) (f5 := f5) (f6 := f6) (f7 := f7) d1.pt (by omega)
  rw [u0c, sk e0, u1c, sk e1, u2c, sk e2, ss_nil]
  have dd := d1.trans d2
  refine wp_ok ⟨_, _, _, _, _, _, rfl, dd.pt.fs, ?_⟩
  rw [dd.oth 0 (by omega)]
  exact h01
theorem trim_keep {st : Sto} {n t : Nat} {o : O} (F : FS st) (h : st[0]? = some o) (hn : 1 ≤ n) : FS (trim n t st) ∧ (trim n t st)[0]? = some o := by
  unfold trim
  split
  · refine ⟨F.take n, ?_⟩
    rw [List.getElem?_take]
    rw [if_pos (by omega)]; exact h
  · exact ⟨F, h⟩
theorem numb_mem : ∀ {n : Nat} {i x}, x ∈ numb i n → ∃ k : Nat, k < n ∧ x = .int (i + k)
  | n + 1, i, x, h => by
    simp only [numb, List.mem_cons] at h
    rcases h with rfl | h
    · exact ⟨0, by omega, by simp⟩
    · obtain ⟨k, hk, rfl⟩ := numb_mem h
      exact ⟨k + 1, by omega, by rw [Int.natCast_succ]; congr 1; omega⟩
def V1 : Ss := tailS b31
theorem v0 : b31 = .cons (headS b31) V1 := rfl
theorem law_run {n : Nat} (ns : List Int) (hl : ns.length ≤ 63) : ∃ st', callN gl P (n + 61) 31 [.ref 0] [.fro (ns.map D.int)] = .ok (.bl true) st' := by
  have F : FS [O.fro (ns.map D.int)] := fun o ho => by
    obtain rfl : o = .fro (ns.map D.int) := by simpa using ho
    exact tops_ints _
  rw [call_eq p31 rfl]
  simp only [List.map_cons, List.map_nil, List.cons_append, List.nil_append, List.replicate, Nat.reduceSub]
  have first : ∃ s e1 e2 e3 e4 e5 e6 e7, evS gl (callN gl P (n + 60)) (headS b31) [some (.ref 0), none, none, none, none, none, none, none] [O.fro (ns.map D.int)] = .ok (.nx [some (.ref 0), e1, e2, e3, e4, e5, e6, e7]) s ∧ FS s := by
    simp only [headS, b31]
    walk_at "ev"
    rw [bi_len_ref (o := .fro (ns.map D.int)) rfl]
    walk_at "ev"
    generalize hz : max 1 (min 6 (((O.fro (ns.map D.int)).items.length : Nat) : Int)) = z
    have z1 : 1 ≤ z := by omega
    have z2 : z ≤ 64 := by omega
    rw [rng_of (by omega)]
    walk_at "ev"
    have loop := wp_for (tg := asg gl (callN gl P (n + 60)) (.nm 1)) (body := evSs gl (callN gl P (n + 60)) b31f1) (n := ([O.fro (ns.map D.int)] : Sto).length)
      (fun xs e s => FS s ∧ s[0]? = some (.fro (ns.map D.int)) ∧ (∃ e1 e2 e3 e4 e5 e6 e7, e = [some (.ref 0), e1, e2, e3, e4, e5, e6, e7]) ∧ ∀ x ∈ xs, ∃ k : Nat, k < 100 ∧ x = .int (k : Int)) (fun _ _ => False)
      (fun x xs e s hI => by
        obtain ⟨Fs, hs, ⟨e1, e2, e3, e4, e5, e6, e7, rfl⟩, hx⟩ := hI
        obtain ⟨k, hk, rfl⟩ := hx x List.mem_cons_self
        rw [a_nm]
        refine wp_ok ?_
        simp only [List.set_cons_zero, List.set_cons_succ]
        refine wp_mono (num_ok (n := n) Fs hs hk) fun f s' hf => ?_
        obtain ⟨f2, f3, f4, f5, f6, f7, rfl, Fs', hs'⟩ := hf
        obtain ⟨a, b⟩ := trim_keep (n := ([O.fro (ns.map D.int)] : Sto).length) (t := envTop [some (.ref 0), some (.int (k : Int)), f2, f3, f4, f5, f6, f7]) Fs' hs' (by simp)
        exact ⟨a, b, ⟨_, _, _, _, _, _, _, rfl⟩, fun y hy => hx y (List.mem_cons_of_mem _ hy)⟩)
      (numb 0 (z - 0).toNat) [some (.ref 0), none, none, none, none, none, none, none] [O.fro (ns.map D.int)]
      ⟨F, rfl, ⟨_, _, _, _, _, _, _, rfl⟩, fun x hx => by
        obtain ⟨k, hk, rfl⟩ := numb_mem hx
        exact ⟨k, by omega, by simp⟩⟩
    obtain ⟨f, s, ef, qf⟩ := loop
    rw [ef]
    cases f with
    | rt d => exact qf.elim
    | xc y e => exact qf.elim
    | nx e =>
      obtain ⟨Fs, _, ⟨e1, e2, e3, e4, e5, e6, e7, rfl⟩, _⟩ := qf
      exact ⟨s, e1, e2, e3, e4, e5, e6, e7, rfl, Fs⟩
  obtain ⟨s, e1, e2, e3, e4, e5, e6, e7, ef, Fs⟩ := first
  rw [v0, sk ef]
  simp only [V1, tailS, b31]
  walk_at "ev"
  rw [show n + 60 = (n + 9) + 51 by omega, limits_eq Fs]
  walk_at "ev"
  exact ⟨_, rfl⟩
theorem law_true : ∀ ns : List Int, ns.length ≤ 63 → ∃ st', callN tab.gl tab.P 100 31 [.ref 0] [.fro (ns.map D.int)] = .ok (.bl true) st' := by
  rw [tab_gl, tab_P]
  exact fun ns hl => law_run (n := 39) ns hl
end Qk05

namespace Qk05
open PySem L2 RP
theorem facts_mk {K : PySem.W.Frag} {h : Heap} {mg : Str → Option Value} (X : K.In h) (G : h.Ns mainGlobals mg)
    {f0 : Addr} {od0 an0 : Option Addr} {sl0 : Array (Option Value)} {oc0 kV0 dc0 pm0 cd0 ct0 : Value}
    {f1 : Addr} {od1 an1 : Option Addr} {sl1 : Array (Option Value)} {oc1 kV1 dc1 pm1 cd1 ct1 : Value}
    {f2 : Addr} {od2 an2 : Option Addr} {sl2 : Array (Option Value)} {oc2 kV2 dc2 pm2 cd2 ct2 : Value}
    {f3 : Addr} {od3 an3 : Option Addr} {sl3 : Array (Option Value)} {oc3 kV3 dc3 pm3 cd3 ct3 : Value}
    {f4 : Addr} {od4 an4 : Option Addr} {sl4 : Array (Option Value)} {oc4 kV4 dc4 pm4 cd4 ct4 : Value}
    {f5 : Addr} {od5 an5 : Option Addr} {sl5 : Array (Option Value)} {oc5 kV5 dc5 pm5 cd5 ct5 : Value}
    {f6 : Addr} {od6 an6 : Option Addr} {sl6 : Array (Option Value)} {oc6 kV6 dc6 pm6 cd6 ct6 : Value}
    {f7 : Addr} {od7 an7 : Option Addr} {sl7 : Array (Option Value)} {oc7 kV7 dc7 pm7 cd7 ct7 : Value}
    {f8 : Addr} {od8 an8 : Option Addr} {sl8 : Array (Option Value)} {oc8 kV8 dc8 pm8 cd8 ct8 : Value}
    {f9 : Addr} {od9 an9 : Option Addr} {sl9 : Array (Option Value)} {oc9 kV9 dc9 pm9 cd9 ct9 : Value}
    {f10 : Addr} {od10 an10 : Option Addr} {sl10 : Array (Option Value)} {oc10 kV10 dc10 pm10 cd10 ct10 : Value}
    {f11 : Addr} {od11 an11 : Option Addr} {sl11 : Array (Option Value)} {oc11 kV11 dc11 pm11 cd11 ct11 : Value}
    {f12 : Addr} {od12 an12 : Option Addr} {sl12 : Array (Option Value)} {oc12 kV12 dc12 pm12 cd12 ct12 : Value}
    {f13 : Addr} {od13 an13 : Option Addr} {sl13 : Array (Option Value)} {oc13 kV13 dc13 pm13 cd13 ct13 : Value}
    {f14 : Addr} {od14 an14 : Option Addr} {sl14 : Array (Option Value)} {oc14 kV14 dc14 pm14 cd14 ct14 : Value}
    {f15 : Addr} {od15 an15 : Option Addr} {sl15 : Array (Option Value)} {oc15 kV15 dc15 pm15 cd15 ct15 : Value}
    {f16 : Addr} {od16 an16 : Option Addr} {sl16 : Array (Option Value)} {oc16 kV16 dc16 pm16 cd16 ct16 : Value}
    {f17 : Addr} {od17 an17 : Option Addr} {sl17 : Array (Option Value)} {oc17 kV17 dc17 pm17 cd17 ct17 : Value}
    {f18 : Addr} {od18 an18 : Option Addr} {sl18 : Array (Option Value)} {oc18 kV18 dc18 pm18 cd18 ct18 : Value}
    {f19 : Addr} {od19 an19 : Option Addr} {sl19 : Array (Option Value)} {oc19 kV19 dc19 pm19 cd19 ct19 : Value}
    {f20 : Addr} {od20 an20 : Option Addr} {sl20 : Array (Option Value)} {oc20 kV20 dc20 pm20 cd20 ct20 : Value}
    {f21 : Addr} {od21 an21 : Option Addr} {sl21 : Array (Option Value)} {oc21 kV21 dc21 pm21 cd21 ct21 : Value}
    {f22 : Addr} {od22 an22 : Option Addr} {sl22 : Array (Option Value)} {oc22 kV22 dc22 pm22 cd22 ct22 : Value}
    {f23 : Addr} {od23 an23 : Option Addr} {sl23 : Array (Option Value)} {oc23 kV23 dc23 pm23 cd23 ct23 : Value}
    {f24 : Addr} {od24 an24 : Option Addr} {sl24 : Array (Option Value)} {oc24 kV24 dc24 pm24 cd24 ct24 : Value}
    {f25 : Addr} {od25 an25 : Option Addr} {sl25 : Array (Option Value)} {oc25 kV25 dc25 pm25 cd25 ct25 : Value}
    {f26 : Addr} {od26 an26 : Option Addr} {sl26 : Array (Option Value)} {oc26 kV26 dc26 pm26 cd26 ct26 : Value}
    {f27 : Addr} {od27 an27 : Option Addr} {sl27 : Array (Option Value)} {oc27 kV27 dc27 pm27 cd27 ct27 : Value}
    {f28 : Addr} {od28 an28 : Option Addr} {sl28 : Array (Option Value)} {oc28 kV28 dc28 pm28 cd28 ct28 : Value}
    {f29 : Addr} {od29 an29 : Option Addr} {sl29 : Array (Option Value)} {oc29 kV29 dc29 pm29 cd29 ct29 : Value}
    {f30 : Addr} {od30 an30 : Option Addr} {sl30 : Array (Option Value)} {oc30 kV30 dc30 pm30 cd30 ct30 : Value}
    {f31 : Addr} {od31 an31 : Option Addr} {sl31 : Array (Option Value)} {oc31 kV31 dc31 pm31 cd31 ct31 : Value}
    {t0 : Tok} {t1 : Tok} {t2 : Tok} {t3 : Tok} {t4 : Tok} {t6 : Tok} {t7 : Tok} {ta5 : Addr} {tod5 : Option Addr} {tn5 : Nat} {tsl5 : Array (Option Value)} {t9 : Tok} {t10 : Tok} {ta8 : Addr} {tod8 : Option Addr} {tn8 : Nat} {tsl8 : Array (Option Value)} {t12 : Tok} {ta13 : Addr} {tod13 : Option Addr} {tn13 : Nat} {tsl13 : Array (Option Value)} {ta11 : Addr} {tod11 : Option Addr} {tn11 : Nat} {tsl11 : Array (Option Value)}
    {C0 : Addr} {C1 : Addr} {C2 : Addr} {fI2 : Addr} {oI2 kI2 dI2 pI2 cI2 tI2 : Value} {odI2 anI2 : Option Addr} {slI2 : Array (Option Value)}
    (a0 : PySem.W.nsIn K mainGlobals "is_integer" = some (some (.ref f0))) (l0 : K.lookup f0 = some ⟨oc0, od0, .func (PySem.W.fnOf "is_integer" "is_integer" (defArgs (topS 5)) (defBody (topS 5)) (defScope (topS 5)) .none kV0 dc0 pm0 an0 cd0 ct0), sl0⟩) (c0 : PySem.W.codeIn K cd0 "is_integer" = true) (k0 : PySem.W.keepIn K (.ref f0) = true)
    (a1 : PySem.W.nsIn K mainGlobals "is_between" = some (some (.ref f1))) (l1 : K.lookup f1 = some ⟨oc1, od1, .func (PySem.W.fnOf "is_between" "is_between" (defArgs (topS 6)) (defBody (topS 6)) (defScope (topS 6)) .none kV1 dc1 pm1 an1 cd1 ct1), sl1⟩) (c1 : PySem.W.codeIn K cd1 "is_between" = true) (k1 : PySem.W.keepIn K (.ref f1) = true)
    (a2 : PySem.W.nsIn K mainGlobals "is_node" = some (some (.ref f2))) (l2 : K.lookup f2 = some ⟨oc2, od2, .func (PySem.W.fnOf "is_node" "is_node" (defArgs (topS 16)) (defBody (topS 16)) (defScope (topS 16)) .none kV2 dc2 pm2 an2 cd2 ct2), sl2⟩) (c2 : PySem.W.codeIn K cd2 "is_node" = true) (k2 : PySem.W.keepIn K (.ref f2) = true)
    (a3 : PySem.W.nsIn K mainGlobals "measured" = some (some (.ref f3))) (l3 : K.lookup f3 = some ⟨oc3, od3, .func (PySem.W.fnOf "measured" "measured" (defArgs (topS 17)) (defBody (topS 17)) (defScope (topS 17)) .none kV3 dc3 pm3 an3 cd3 ct3), sl3⟩) (c3 : PySem.W.codeIn K cd3 "measured" = true) (k3 : PySem.W.keepIn K (.ref f3) = true)
    (a4 : PySem.W.nsIn K mainGlobals "measured_parts" = some (some (.ref f4))) (l4 : K.lookup f4 = some ⟨oc4, od4, .func (PySem.W.fnOf "measured_parts" "measured_parts" (defArgs (topS 18)) (defBody (topS 18)) (defScope (topS 18)) .none kV4 dc4 pm4 an4 cd4 ct4), sl4⟩) (c4 : PySem.W.codeIn K cd4 "measured_parts" = true) (k4 : PySem.W.keepIn K (.ref f4) = true)
    (a5 : PySem.W.nsIn K mainGlobals "measured_multiple" = some (some (.ref f5))) (l5 : K.lookup f5 = some ⟨oc5, od5, .func (PySem.W.fnOf "measured_multiple" "measured_multiple" (defArgs (topS 19)) (defBody (topS 19)) (defScope (topS 19)) .none kV5 dc5 pm5 an5 cd5 ct5), sl5⟩) (c5 : PySem.W.codeIn K cd5 "measured_multiple" = true) (k5 : PySem.W.keepIn K (.ref f5) = true)
    (a6 : PySem.W.nsIn K mainGlobals "is_job" = some (some (.ref f6))) (l6 : K.lookup f6 = some ⟨oc6, od6, .func (PySem.W.fnOf "is_job" "is_job" (defArgs (topS 20)) (defBody (topS 20)) (defScope (topS 20)) .none kV6 dc6 pm6 an6 cd6 ct6), sl6⟩) (c6 : PySem.W.codeIn K cd6 "is_job" = true) (k6 : PySem.W.keepIn K (.ref f6) = true)
    (a7 : PySem.W.nsIn K mainGlobals "check_job" = some (some (.ref f7))) (l7 : K.lookup f7 = some ⟨oc7, od7, .func (PySem.W.fnOf "check_job" "check_job" (defArgs (topS 21)) (defBody (topS 21)) (defScope (topS 21)) .none kV7 dc7 pm7 an7 cd7 ct7), sl7⟩) (c7 : PySem.W.codeIn K cd7 "check_job" = true) (k7 : PySem.W.keepIn K (.ref f7) = true)
    (a8 : PySem.W.nsIn K mainGlobals "step_count_by" = some (some (.ref f8))) (l8 : K.lookup f8 = some ⟨oc8, od8, .func (PySem.W.fnOf "step_count_by" "step_count_by" (defArgs (topS 22)) (defBody (topS 22)) (defScope (topS 22)) .none kV8 dc8 pm8 an8 cd8 ct8), sl8⟩) (c8 : PySem.W.codeIn K cd8 "step_count_by" = true) (k8 : PySem.W.keepIn K (.ref f8) = true)
    (a9 : PySem.W.nsIn K mainGlobals "step_count" = some (some (.ref f9))) (l9 : K.lookup f9 = some ⟨oc9, od9, .func (PySem.W.fnOf "step_count" "step_count" (defArgs (topS 23)) (defBody (topS 23)) (defScope (topS 23)) .none kV9 dc9 pm9 an9 cd9 ct9), sl9⟩) (c9 : PySem.W.codeIn K cd9 "step_count" = true) (k9 : PySem.W.keepIn K (.ref f9) = true)
    (a10 : PySem.W.nsIn K mainGlobals "extent_by" = some (some (.ref f10))) (l10 : K.lookup f10 = some ⟨oc10, od10, .func (PySem.W.fnOf "extent_by" "extent_by" (defArgs (topS 24)) (defBody (topS 24)) (defScope (topS 24)) .none kV10 dc10 pm10 an10 cd10 ct10), sl10⟩) (c10 : PySem.W.codeIn K cd10 "extent_by" = true) (k10 : PySem.W.keepIn K (.ref f10) = true)
    (a11 : PySem.W.nsIn K mainGlobals "extent_of_parts" = some (some (.ref f11))) (l11 : K.lookup f11 = some ⟨oc11, od11, .func (PySem.W.fnOf "extent_of_parts" "extent_of_parts" (defArgs (topS 25)) (defBody (topS 25)) (defScope (topS 25)) .none kV11 dc11 pm11 an11 cd11 ct11), sl11⟩) (c11 : PySem.W.codeIn K cd11 "extent_of_parts" = true) (k11 : PySem.W.keepIn K (.ref f11) = true)
    (a12 : PySem.W.nsIn K mainGlobals "net_by" = some (some (.ref f12))) (l12 : K.lookup f12 = some ⟨oc12, od12, .func (PySem.W.fnOf "net_by" "net_by" (defArgs (topS 26)) (defBody (topS 26)) (defScope (topS 26)) .none kV12 dc12 pm12 an12 cd12 ct12), sl12⟩) (c12 : PySem.W.codeIn K cd12 "net_by" = true) (k12 : PySem.W.keepIn K (.ref f12) = true)
    (a13 : PySem.W.nsIn K mainGlobals "lowest_by" = some (some (.ref f13))) (l13 : K.lookup f13 = some ⟨oc13, od13, .func (PySem.W.fnOf "lowest_by" "lowest_by" (defArgs (topS 27)) (defBody (topS 27)) (defScope (topS 27)) .none kV13 dc13 pm13 an13 cd13 ct13), sl13⟩) (c13 : PySem.W.codeIn K cd13 "lowest_by" = true) (k13 : PySem.W.keepIn K (.ref f13) = true)
    (a14 : PySem.W.nsIn K mainGlobals "net" = some (some (.ref f14))) (l14 : K.lookup f14 = some ⟨oc14, od14, .func (PySem.W.fnOf "net" "net" (defArgs (topS 28)) (defBody (topS 28)) (defScope (topS 28)) .none kV14 dc14 pm14 an14 cd14 ct14), sl14⟩) (c14 : PySem.W.codeIn K cd14 "net" = true) (k14 : PySem.W.keepIn K (.ref f14) = true)
    (a15 : PySem.W.nsIn K mainGlobals "lowest" = some (some (.ref f15))) (l15 : K.lookup f15 = some ⟨oc15, od15, .func (PySem.W.fnOf "lowest" "lowest" (defArgs (topS 29)) (defBody (topS 29)) (defScope (topS 29)) .none kV15 dc15 pm15 an15 cd15 ct15), sl15⟩) (c15 : PySem.W.codeIn K cd15 "lowest" = true) (k15 : PySem.W.keepIn K (.ref f15) = true)
    (a16 : PySem.W.nsIn K mainGlobals "grouped" = some (some (.ref f16))) (l16 : K.lookup f16 = some ⟨oc16, od16, .func (PySem.W.fnOf "grouped" "grouped" (defArgs (topS 30)) (defBody (topS 30)) (defScope (topS 30)) .none kV16 dc16 pm16 an16 cd16 ct16), sl16⟩) (c16 : PySem.W.codeIn K cd16 "grouped" = true) (k16 : PySem.W.keepIn K (.ref f16) = true)
    (a17 : PySem.W.nsIn K mainGlobals "tidy_parts" = some (some (.ref f17))) (l17 : K.lookup f17 = some ⟨oc17, od17, .func (PySem.W.fnOf "tidy_parts" "tidy_parts" (defArgs (topS 31)) (defBody (topS 31)) (defScope (topS 31)) .none kV17 dc17 pm17 an17 cd17 ct17), sl17⟩) (c17 : PySem.W.codeIn K cd17 "tidy_parts" = true) (k17 : PySem.W.keepIn K (.ref f17) = true)
    (a18 : PySem.W.nsIn K mainGlobals "tidy_by" = some (some (.ref f18))) (l18 : K.lookup f18 = some ⟨oc18, od18, .func (PySem.W.fnOf "tidy_by" "tidy_by" (defArgs (topS 32)) (defBody (topS 32)) (defScope (topS 32)) .none kV18 dc18 pm18 an18 cd18 ct18), sl18⟩) (c18 : PySem.W.codeIn K cd18 "tidy_by" = true) (k18 : PySem.W.keepIn K (.ref f18) = true)
    (a19 : PySem.W.nsIn K mainGlobals "as_job" = some (some (.ref f19))) (l19 : K.lookup f19 = some ⟨oc19, od19, .func (PySem.W.fnOf "as_job" "as_job" (defArgs (topS 33)) (defBody (topS 33)) (defScope (topS 33)) .none kV19 dc19 pm19 an19 cd19 ct19), sl19⟩) (c19 : PySem.W.codeIn K cd19 "as_job" = true) (k19 : PySem.W.keepIn K (.ref f19) = true)
    (a20 : PySem.W.nsIn K mainGlobals "tidy" = some (some (.ref f20))) (l20 : K.lookup f20 = some ⟨oc20, od20, .func (PySem.W.fnOf "tidy" "tidy" (defArgs (topS 34)) (defBody (topS 34)) (defScope (topS 34)) .none kV20 dc20 pm20 an20 cd20 ct20), sl20⟩) (c20 : PySem.W.codeIn K cd20 "tidy" = true) (k20 : PySem.W.keepIn K (.ref f20) = true)
    (a21 : PySem.W.nsIn K mainGlobals "_law_pot" = some (some (.ref f21))) (l21 : K.lookup f21 = some ⟨oc21, od21, .func (PySem.W.fnOf "_law_pot" "_law_pot" (defArgs (topS 36)) (defBody (topS 36)) (defScope (topS 36)) .none kV21 dc21 pm21 an21 cd21 ct21), sl21⟩) (c21 : PySem.W.codeIn K cd21 "_law_pot" = true) (k21 : PySem.W.keepIn K (.ref f21) = true)
    (a22 : PySem.W.nsIn K mainGlobals "_law_take" = some (some (.ref f22))) (l22 : K.lookup f22 = some ⟨oc22, od22, .func (PySem.W.fnOf "_law_take" "_law_take" (defArgs (topS 37)) (defBody (topS 37)) (defScope (topS 37)) .none kV22 dc22 pm22 an22 cd22 ct22), sl22⟩) (c22 : PySem.W.codeIn K cd22 "_law_take" = true) (k22 : PySem.W.keepIn K (.ref f22) = true)
    (a23 : PySem.W.nsIn K mainGlobals "_law_step" = some (some (.ref f23))) (l23 : K.lookup f23 = some ⟨oc23, od23, .func (PySem.W.fnOf "_law_step" "_law_step" (defArgs (topS 38)) (defBody (topS 38)) (defScope (topS 38)) .none kV23 dc23 pm23 an23 cd23 ct23), sl23⟩) (c23 : PySem.W.codeIn K cd23 "_law_step" = true) (k23 : PySem.W.keepIn K (.ref f23) = true)
    (a24 : PySem.W.nsIn K mainGlobals "_law_job" = some (some (.ref f24))) (l24 : K.lookup f24 = some ⟨oc24, od24, .func (PySem.W.fnOf "_law_job" "_law_job" (defArgs (topS 39)) (defBody (topS 39)) (defScope (topS 39)) .none kV24 dc24 pm24 an24 cd24 ct24), sl24⟩) (c24 : PySem.W.codeIn K cd24 "_law_job" = true) (k24 : PySem.W.keepIn K (.ref f24) = true)
    (a25 : PySem.W.nsIn K mainGlobals "_law_joined" = some (some (.ref f25))) (l25 : K.lookup f25 = some ⟨oc25, od25, .func (PySem.W.fnOf "_law_joined" "_law_joined" (defArgs (topS 40)) (defBody (topS 40)) (defScope (topS 40)) .none kV25 dc25 pm25 an25 cd25 ct25), sl25⟩) (c25 : PySem.W.codeIn K cd25 "_law_joined" = true) (k25 : PySem.W.keepIn K (.ref f25) = true)
    (a26 : PySem.W.nsIn K mainGlobals "_law_tidy" = some (some (.ref f26))) (l26 : K.lookup f26 = some ⟨oc26, od26, .func (PySem.W.fnOf "_law_tidy" "_law_tidy" (defArgs (topS 41)) (defBody (topS 41)) (defScope (topS 41)) .none kV26 dc26 pm26 an26 cd26 ct26), sl26⟩) (c26 : PySem.W.codeIn K cd26 "_law_tidy" = true) (k26 : PySem.W.keepIn K (.ref f26) = true)
    (a27 : PySem.W.nsIn K mainGlobals "_law_few" = some (some (.ref f27))) (l27 : K.lookup f27 = some ⟨oc27, od27, .func (PySem.W.fnOf "_law_few" "_law_few" (defArgs (topS 42)) (defBody (topS 42)) (defScope (topS 42)) .none kV27 dc27 pm27 an27 cd27 ct27), sl27⟩) (c27 : PySem.W.codeIn K cd27 "_law_few" = true) (k27 : PySem.W.keepIn K (.ref f27) = true)
    (a28 : PySem.W.nsIn K mainGlobals "_law_raised" = some (some (.ref f28))) (l28 : K.lookup f28 = some ⟨oc28, od28, .func (PySem.W.fnOf "_law_raised" "_law_raised" (defArgs (topS 43)) (defBody (topS 43)) (defScope (topS 43)) .none kV28 dc28 pm28 an28 cd28 ct28), sl28⟩) (c28 : PySem.W.codeIn K cd28 "_law_raised" = true) (k28 : PySem.W.keepIn K (.ref f28) = true)
    (a29 : PySem.W.nsIn K mainGlobals "_law_nest" = some (some (.ref f29))) (l29 : K.lookup f29 = some ⟨oc29, od29, .func (PySem.W.fnOf "_law_nest" "_law_nest" (defArgs (topS 44)) (defBody (topS 44)) (defScope (topS 44)) .none kV29 dc29 pm29 an29 cd29 ct29), sl29⟩) (c29 : PySem.W.codeIn K cd29 "_law_nest" = true) (k29 : PySem.W.keepIn K (.ref f29) = true)
    (a30 : PySem.W.nsIn K mainGlobals "_law_limits_right" = some (some (.ref f30))) (l30 : K.lookup f30 = some ⟨oc30, od30, .func (PySem.W.fnOf "_law_limits_right" "_law_limits_right" (defArgs (topS 45)) (defBody (topS 45)) (defScope (topS 45)) .none kV30 dc30 pm30 an30 cd30 ct30), sl30⟩) (c30 : PySem.W.codeIn K cd30 "_law_limits_right" = true) (k30 : PySem.W.keepIn K (.ref f30) = true)
    (a31 : PySem.W.nsIn K mainGlobals "law" = some (some (.ref f31))) (l31 : K.lookup f31 = some ⟨oc31, od31, .func (PySem.W.fnOf "law" "law" (defArgs (topS 46)) (defBody (topS 46)) (defScope (topS 46)) .none kV31 dc31 pm31 an31 cd31 ct31), sl31⟩) (c31 : PySem.W.codeIn K cd31 "law" = true) (k31 : PySem.W.keepIn K (.ref f31) = true)
    (ug0 : PySem.W.nsIn K mainGlobals "MAX_STEP" = some (some (.int (1000000000000000000000000000000) t0)))
    (ug1 : PySem.W.nsIn K mainGlobals "MAX_COUNT" = some (some (.int (1000000000000000000000000000000) t1)))
    (ug2 : PySem.W.nsIn K mainGlobals "MAX_PARTS" = some (some (.int (400) t2)))
    (ug3 : PySem.W.nsIn K mainGlobals "MAX_NODES" = some (some (.int (400) t3)))
    (ug4 : PySem.W.nsIn K mainGlobals "MAX_DEPTH" = some (some (.int (13) t4)))
    (ug5 : PySem.W.nsIn K mainGlobals "GROUPS" = some (some (.ref ta5)))
    (tl5 : K.lookup ta5 = some ⟨.type "tuple", tod5, .seq #[.str "seq" t6, .str "par" t7] tn5, tsl5⟩)
    (ug6 : PySem.W.nsIn K mainGlobals "MULTIPLES" = some (some (.ref ta8)))
    (tl8 : K.lookup ta8 = some ⟨.type "tuple", tod8, .seq #[.str "repeat" t9, .str "copies" t10] tn8, tsl8⟩)
    (ug7 : PySem.W.nsIn K mainGlobals "EMPTY" = some (some (.ref ta11)))
    (tl13 : K.lookup ta13 = some ⟨.type "tuple", tod13, .seq #[] tn13, tsl13⟩)
    (tl11 : K.lookup ta11 = some ⟨.type "tuple", tod11, .seq #[.str "seq" t12, .ref ta13] tn11, tsl11⟩)
    (z0 : PySem.W.nsIn K mainGlobals "len" = some none)
    (z1 : PySem.W.nsIn K mainGlobals "sum" = some none)
    (z2 : PySem.W.nsIn K mainGlobals "abs" = some none)
    (z3 : PySem.W.nsIn K mainGlobals "max" = some none)
    (z4 : PySem.W.nsIn K mainGlobals "min" = some none)
    (z5 : PySem.W.nsIn K mainGlobals "int" = some none)
    (z6 : PySem.W.nsIn K mainGlobals "tuple" = some none)
    (z7 : PySem.W.nsIn K mainGlobals "list" = some none)
    (z8 : PySem.W.nsIn K mainGlobals "repr" = some none)
    (z9 : PySem.W.nsIn K mainGlobals "str" = some none)
    (z10 : PySem.W.nsIn K mainGlobals "bool" = some none)
    (z11 : PySem.W.nsIn K mainGlobals "isinstance" = some none)
    (z12 : PySem.W.nsIn K mainGlobals "range" = some none)
    (z13 : PySem.W.nsIn K mainGlobals "zip" = some none)
    (xm0 : PySem.W.nsIn K mainGlobals "JobError" = some (some (.ref C0)))
    (xb0 : PySem.W.subIn K (.ref C0) (.type "BaseException") = some true)
    (xt0 : PySem.W.typeIn K (.ref C0) = some (.type "type"))
    (xi0 : PySem.W.isClsIn K C0 = true)
    (xs0 : PySem.W.subIn K (.ref C0) (.ref C0) = some true)
    (xm1 : PySem.W.nsIn K mainGlobals "InvalidJob" = some (some (.ref C1)))
    (xb1 : PySem.W.subIn K (.ref C1) (.type "BaseException") = some true)
    (xt1 : PySem.W.typeIn K (.ref C1) = some (.type "type"))
    (xm2 : PySem.W.nsIn K mainGlobals "TooMany" = some (some (.ref C2)))
    (xb2 : PySem.W.subIn K (.ref C2) (.type "BaseException") = some true)
    (xt2 : PySem.W.typeIn K (.ref C2) = some (.type "type"))
    (xi2 : PySem.W.isClsIn K C2 = true)
    (xs2 : PySem.W.subIn K (.ref C2) (.ref C2) = some true)
    (ya1 : PySem.W.findIn K (.ref C1) "__getattribute__" = some (some (.builtin "BaseException.__getattribute__")))
    (yg1 : PySem.W.findIn K (.ref C1) "__getattr__" = some none)
    (yk1 : PySem.W.keepIn K (.ref C1) = true)
    (yd1 : PySem.W.hasDictIn K C1 = true)
    (yc1 : PySem.W.findIn K (.ref C1) "__class__" = some (some (.builtin "object.__class__")))
    (yo1 : PySem.W.mroIn K C1 (.type "object") = some true)
    (yx1 : PySem.W.excIn K C1 [.type "ValueError", .type "Exception", .type "BaseException", .type "object"] "ValueError.__new__" = true)
    (ya2 : PySem.W.findIn K (.ref C2) "__getattribute__" = some (some (.builtin "BaseException.__getattribute__")))
    (yg2 : PySem.W.findIn K (.ref C2) "__getattr__" = some none)
    (yk2 : PySem.W.keepIn K (.ref C2) = true)
    (yd2 : PySem.W.hasDictIn K C2 = true)
    (yc2 : PySem.W.findIn K (.ref C2) "__class__" = some (some (.builtin "object.__class__")))
    (yo2 : PySem.W.mroIn K C2 (.type "object") = some true)
    (yv2 : PySem.W.findIn K (.ref C2) "limit" = some none)
    (ia2 : PySem.W.findIn K (.ref C2) "__init__" = some (some (.ref fI2)))
    (il2 : K.lookup fI2 = some ⟨oI2, odI2, .func (PySem.W.fnOf "__init__" "TooMany.__init__" (defArgs (inC (topS 3) 0)) (defBody (inC (topS 3) 0)) (defScope (inC (topS 3) 0)) .none kI2 dI2 pI2 anI2 cI2 tI2), slI2⟩)
    (ic2 : PySem.W.codeIn K cI2 "TooMany.__init__" = true)
    (ik2 : PySem.W.keepIn K (.ref fI2) = true)
    (it2 : PySem.W.typeIn K (.ref fI2) = some (.type "function"))
    (is2 : PySem.W.findIn K (.ref C2) "__setattr__" = some (some (.builtin "object.__setattr__")))
    (ie2 : PySem.W.excInitIn K C2 [.type "OverflowError", .type "ArithmeticError", .type "Exception", .type "BaseException", .type "object"] "OverflowError.__new__" = true)
    (ib2 : PySem.W.nsIn K mainGlobals "OverflowError" = some none)
    (eg : PySem.W.specialIn K (.builtin "object.__class__") "__get__" = some (some (.builtin "getset_descriptor.__get__")))
    (et : PySem.W.takesIn K (.builtin "object.__class__") = some true)
    (w0_0 : PySem.W.subIn K (.ref C1) (.ref C2) = some false)
    (w1_0 : PySem.W.subIn K (.ref C1) (.ref C0) = some true)
    (w1_1 : PySem.W.subIn K (.ref C2) (.ref C0) = some false)
    : Facts tab K mg where
  rows := fa_cons (ok0) (fa_cons (ok1) (fa_cons (ok2) (fa_cons (ok3) (fa_cons (ok4) (fa_cons (ok5) (fa_cons (ok6) (fa_cons (ok7) (fa_cons (ok8) (fa_cons (ok9) (fa_cons (ok10) (fa_cons (ok11) (fa_cons (ok12) (fa_cons (ok13) (fa_cons (ok14) (fa_cons (ok15) (fa_cons (ok16) (fa_cons (ok17) (fa_cons (ok18) (fa_cons (ok19) (fa_cons (ok20) (fa_cons (ok21) (fa_cons (ok22) (fa_cons (ok23) (fa_cons (ok24) (fa_cons (ok25) (fa_cons (ok26) (fa_cons (ok27) (fa_cons (ok28) (fa_cons (ok29) (fa_cons (ok30) (fa_cons (ok31) (fa_nil))))))))))))))))))))))))))))))))
  live := fa_cons (live_mk (r := r0) X G a0 l0 c0 k0 (fun _ _ _ _ _ _ us hl => match us, hl with | [_], _ => rfl)) (fa_cons (live_mk (r := r1) X G a1 l1 c1 k1 (fun _ _ _ _ _ _ us hl => match us, hl with | [_, _, _], _ => rfl)) (fa_cons (live_mk (r := r2) X G a2 l2 c2 k2 (fun _ _ _ _ _ _ us hl => match us, hl with | [_], _ => rfl)) (fa_cons (live_mk (r := r3) X G a3 l3 c3 k3 (fun _ _ _ _ _ _ us hl => match us, hl with | [_, _], _ => rfl)) (fa_cons (live_mk (r := r4) X G a4 l4 c4 k4 (fun _ _ _ _ _ _ us hl => match us, hl with | [_, _], _ => rfl)) (fa_cons (live_mk (r := r5) X G a5 l5 c5 k5 (fun _ _ _ _ _ _ us hl => match us, hl with | [_, _, _], _ => rfl)) (fa_cons (live_mk (r := r6) X G a6 l6 c6 k6 (fun _ _ _ _ _ _ us hl => match us, hl with | [_], _ => rfl)) (fa_cons (live_mk (r := r7) X G a7 l7 c7 k7 (fun _ _ _ _ _ _ us hl => match us, hl with | [_], _ => rfl)) (fa_cons (live_mk (r := r8) X G a8 l8 c8 k8 (fun _ _ _ _ _ _ us hl => match us, hl with | [_], _ => rfl)) (fa_cons (live_mk (r := r9) X G a9 l9 c9 k9 (fun _ _ _ _ _ _ us hl => match us, hl with | [_], _ => rfl)) (fa_cons (live_mk (r := r10) X G a10 l10 c10 k10 (fun _ _ _ _ _ _ us hl => match us, hl with | [_], _ => rfl)) (fa_cons (live_mk (r := r11) X G a11 l11 c11 k11 (fun _ _ _ _ _ _ us hl => match us, hl with | [_, _], _ => rfl)) (fa_cons (live_mk (r := r12) X G a12 l12 c12 k12 (fun _ _ _ _ _ _ us hl => match us, hl with | [_], _ => rfl)) (fa_cons (live_mk (r := r13) X G a13 l13 c13 k13 (fun _ _ _ _ _ _ us hl => match us, hl with | [_], _ => rfl)) (fa_cons (live_mk (r := r14) X G a14 l14 c14 k14 (fun _ _ _ _ _ _ us hl => match us, hl with | [_], _ => rfl)) (fa_cons (live_mk (r := r15) X G a15 l15 c15 k15 (fun _ _ _ _ _ _ us hl => match us, hl with | [_], _ => rfl)) (fa_cons (live_mk (r := r16) X G a16 l16 c16 k16 (fun _ _ _ _ _ _ us hl => match us, hl with | [_], _ => rfl)) (fa_cons (live_mk (r := r17) X G a17 l17 c17 k17 (fun _ _ _ _ _ _ us hl => match us, hl with | [_, _], _ => rfl)) (fa_cons (live_mk (r := r18) X G a18 l18 c18 k18 (fun _ _ _ _ _ _ us hl => match us, hl with | [_], _ => rfl)) (fa_cons (live_mk (r := r19) X G a19 l19 c19 k19 (fun _ _ _ _ _ _ us hl => match us, hl with | [_], _ => rfl)) (fa_cons (live_mk (r := r20) X G a20 l20 c20 k20 (fun _ _ _ _ _ _ us hl => match us, hl with | [_], _ => rfl)) (fa_cons (live_mk (r := r21) X G a21 l21 c21 k21 (fun _ _ _ _ _ _ us hl => match us, hl with | [_, _], _ => rfl)) (fa_cons (live_mk (r := r22) X G a22 l22 c22 k22 (fun _ _ _ _ _ _ us hl => match us, hl with | [_, _], _ => rfl)) (fa_cons (live_mk (r := r23) X G a23 l23 c23 k23 (fun _ _ _ _ _ _ us hl => match us, hl with | [_], _ => rfl)) (fa_cons (live_mk (r := r24) X G a24 l24 c24 k24 (fun _ _ _ _ _ _ us hl => match us, hl with | [_, _, _], _ => rfl)) (fa_cons (live_mk (r := r25) X G a25 l25 c25 k25 (fun _ _ _ _ _ _ us hl => match us, hl with | [_], _ => rfl)) (fa_cons (live_mk (r := r26) X G a26 l26 c26 k26 (fun _ _ _ _ _ _ us hl => match us, hl with | [_], _ => rfl)) (fa_cons (live_mk (r := r27) X G a27 l27 c27 k27 (fun _ _ _ _ _ _ us hl => match us, hl with | [_], _ => rfl)) (fa_cons (live_mk (r := r28) X G a28 l28 c28 k28 (fun _ _ _ _ _ _ us hl => match us, hl with | [_], _ => rfl)) (fa_cons (live_mk (r := r29) X G a29 l29 c29 k29 (fun _ _ _ _ _ _ us hl => match us, hl with | [_], _ => rfl)) (fa_cons (live_mk (r := r30) X G a30 l30 c30 k30 (fun _ _ _ _ _ _ us hl => match us, hl with | [], _ => rfl)) (fa_cons (live_mk (r := r31) X G a31 l31 c31 k31 (fun _ _ _ _ _ _ us hl => match us, hl with | [_], _ => rfl)) (fa_nil))))))))))))))))))))))))))))))))
  gl := gl_of_mem (fa_cons (⟨_, PySem.W.mg_of X G ug0, .int _ _⟩) (fa_cons (⟨_, PySem.W.mg_of X G ug1, .int _ _⟩) (fa_cons (⟨_, PySem.W.mg_of X G ug2, .int _ _⟩) (fa_cons (⟨_, PySem.W.mg_of X G ug3, .int _ _⟩) (fa_cons (⟨_, PySem.W.mg_of X G ug4, .int _ _⟩) (fa_cons (⟨_, PySem.W.mg_of X G ug5, .tup (us := [.str "seq" t6, .str "par" t7]) tl5 (by show 2 ≤ sizeLine; decide) (.cons (.str _ _) (.cons (.str _ _) (.nil)))⟩) (fa_cons (⟨_, PySem.W.mg_of X G ug6, .tup (us := [.str "repeat" t9, .str "copies" t10]) tl8 (by show 2 ≤ sizeLine; decide) (.cons (.str _ _) (.cons (.str _ _) (.nil)))⟩) (fa_cons (⟨_, PySem.W.mg_of X G ug7, .tup (us := [.str "seq" t12, .ref ta13]) tl11 (by show 2 ≤ sizeLine; decide) (.cons (.str _ _) (.cons (.tup (us := []) tl13 (by show 0 ≤ sizeLine; decide) (.nil)) (.nil)))⟩) (fa_nil)))))))))
  blt := fa_cons (PySem.W.mg_none_of X G z0) (fa_cons (PySem.W.mg_none_of X G z1) (fa_cons (PySem.W.mg_none_of X G z2) (fa_cons (PySem.W.mg_none_of X G z3) (fa_cons (PySem.W.mg_none_of X G z4) (fa_cons (PySem.W.mg_none_of X G z5) (fa_cons (PySem.W.mg_none_of X G z6) (fa_cons (PySem.W.mg_none_of X G z7) (fa_cons (PySem.W.mg_none_of X G z8) (fa_cons (PySem.W.mg_none_of X G z9) (fa_cons (PySem.W.mg_none_of X G z10) (fa_cons (PySem.W.mg_none_of X G z11) (fa_cons (PySem.W.mg_none_of X G z12) (fa_cons (PySem.W.mg_none_of X G z13) (fa_nil))))))))))))))
  exs := exs_of (fa_cons (⟨C1, PySem.W.mg_of X G xm1, ⟨ya1, yg1, xb1, xt1, yk1, yd1, yc1, yo1⟩, (fun _ => yx1), (fun h => absurd h (by decide)), (fun _ h => nomatch h)⟩) (fa_cons (⟨C2, PySem.W.mg_of X G xm2, ⟨ya2, yg2, xb2, xt2, yk2, yd2, yc2, yo2⟩, (fun h => nomatch h), (fun _ f hf => by cases hf; exact exmk_mk (me := "self") (p := "limit") X G base_Overflow rfl ie2 yd2 is2 yv2 ia2 it2 il2 ic2 ik2 (fun _ _ _ _ _ _ us hl => match us, hl with | [_, _], _ => rfl) ⟨rfl, rfl, rfl, by decide +kernel, rfl, by decide +kernel, by decide +kernel⟩ ⟨by decide +kernel, by decide +kernel⟩ ib2 (by decide +kernel) ⟨_, _, _, _, _, _, _, _, _, _, _, _, rfl, by decide +kernel⟩ ⟨by decide +kernel, by decide +kernel, by decide +kernel, by decide +kernel⟩), (fun _ h => by cases h; exact ⟨yv2⟩)⟩) (fa_nil)))
  exa := fun _ => ⟨eg, et⟩
  tys := fa_cons (ty_of (.own C2) (.inl (PySem.W.mg_of X G xm2)) (fa_cons (fun C hC => by obtain rfl := mg_same (PySem.W.mg_of X G xm1) hC; exact ty_own xi2 xb2 xt2 xs2 w0_0) (fa_cons (fun C hC => by obtain rfl := mg_same (PySem.W.mg_of X G xm2) hC; exact ty_own xi2 xb2 xt2 xs2 xs2) (fa_nil)))) (fa_cons (ty_of (.own C0) (.inl (PySem.W.mg_of X G xm0)) (fa_cons (fun C hC => by obtain rfl := mg_same (PySem.W.mg_of X G xm1) hC; exact ty_own xi0 xb0 xt0 xs0 w1_0) (fa_cons (fun C hC => by obtain rfl := mg_same (PySem.W.mg_of X G xm2) hC; exact ty_own xi0 xb0 xt0 xs0 w1_1) (fa_nil)))) (fa_nil))
theorem binds_law (K : PySem.W.Frag) (f : Addr) (fd : FuncData) (F : Fun K r31.x r31.x r31.st f fd) (s : Shared) (u : Value) : BindsTo s fd ⟨[u], []⟩ [("_law_script", u)] := by
  obtain ⟨oc, od, kV, doc, pm, an, cdv, ct, osl, rfl, lk, hcd⟩ := F.ex
  exact .of_eq rfl
end Qk05
open PySem PySem.W PyProof.Rows
set_option maxRecDepth 100000 in
set_option maxHeartbeats 0 in
theorem PySem.Challenge.cw_roomprofile_k05_tidy_jobs_holds : PySem.Challenge.rw_roomprofile_k05_tidy_jobs.Holds := by
  w_on; o_law; k_head; (case hw => w_witness2)
  k_fill
  refine RP.walk_rp (l := PySem.Challenge.rw_roomprofile_k05_tidy_jobs) (T := Qk05.tab) (r := Qk05.r31) (kL := 31) (N := 100) rfl (by decide) rfl ⟨rfl, by decide, by decide⟩ (fun w h Y => PySem.W.kIn_of Y) rfl rfl rfl rfl ?F Qk05.binds_law Qk05.law_true
  case F =>
    intro w mg h KX G _
    refine' Qk05.facts_mk KX G ?a0 ?l0 ?c0 ?k0 ?a1 ?l1 ?c1 ?k1 ?a2 ?l2 ?c2 ?k2 ?a3 ?l3 ?c3 ?k3 ?a4 ?l4 ?c4 ?k4 ?a5 ?l5 ?c5 ?k5 ?a6 ?l6 ?c6 ?k6 ?a7 ?l7 ?c7 ?k7 ?a8 ?l8 ?c8 ?k8 ?a9 ?l9 ?c9 ?k9 ?a10 ?l10 ?c10 ?k10 ?a11 ?l11 ?c11 ?k11 ?a12 ?l12 ?c12 ?k12 ?a13 ?l13 ?c13 ?k13 ?a14 ?l14 ?c14 ?k14 ?a15 ?l15 ?c15 ?k15 ?a16 ?l16 ?c16 ?k16 ?a17 ?l17 ?c17 ?k17 ?a18 ?l18 ?c18 ?k18 ?a19 ?l19 ?c19 ?k19 ?a20 ?l20 ?c20 ?k20 ?a21 ?l21 ?c21 ?k21 ?a22 ?l22 ?c22 ?k22 ?a23 ?l23 ?c23 ?k23 ?a24 ?l24 ?c24 ?k24 ?a25 ?l25 ?c25 ?k25 ?a26 ?l26 ?c26 ?k26 ?a27 ?l27 ?c27 ?k27 ?a28 ?l28 ?c28 ?k28 ?a29 ?l29 ?c29 ?k29 ?a30 ?l30 ?c30 ?k30 ?a31 ?l31 ?c31 ?k31 ?ug0 ?ug1 ?ug2 ?ug3 ?ug4 ?ug5 ?tl5 ?ug6 ?tl8 ?ug7 ?tl13 ?tl11 ?z0 ?z1 ?z2 ?z3 ?z4 ?z5 ?z6 ?z7 ?z8 ?z9 ?z10 ?z11 ?z12 ?z13 ?xm0 ?xb0 ?xt0 ?xi0 ?xs0 ?xm1 ?xb1 ?xt1 ?xm2 ?xb2 ?xt2 ?xi2 ?xs2 ?ya1 ?yg1 ?yk1 ?yd1 ?yc1 ?yo1 ?yx1 ?ya2 ?yg2 ?yk2 ?yd2 ?yc2 ?yo2 ?yv2 ?ia2 ?il2 ?ic2 ?ik2 ?it2 ?is2 ?ie2 ?ib2 ?eg ?et ?w0_0 ?w1_0 ?w1_1
    (case a0 => k_is)
    (case l0 => k_is)
    (case c0 => k_is)
    (case k0 => k_is)
    (case a1 => k_is)
    (case l1 => k_is)
    (case c1 => k_is)
    (case k1 => k_is)
    (case a2 => k_is)
    (case l2 => k_is)
    (case c2 => k_is)
    (case k2 => k_is)
    (case a3 => k_is)
    (case l3 => k_is)
    (case c3 => k_is)
    (case k3 => k_is)
    (case a4 => k_is)
    (case l4 => k_is)
    (case c4 => k_is)
    (case k4 => k_is)
    (case a5 => k_is)
    (case l5 => k_is)
    (case c5 => k_is)
    (case k5 => k_is)
    (case a6 => k_is)
    (case l6 => k_is)
    (case c6 => k_is)
    (case k6 => k_is)
    (case a7 => k_is)
    (case l7 => k_is)
    (case c7 => k_is)
    (case k7 => k_is)
    (case a8 => k_is)
    (case l8 => k_is)
    (case c8 => k_is)
    (case k8 => k_is)
    (case a9 => k_is)
    (case l9 => k_is)
    (case c9 => k_is)
    (case k9 => k_is)
    (case a10 => k_is)
    (case l10 => k_is)
    (case c10 => k_is)
    (case k10 => k_is)
    (case a11 => k_is)
    (case l11 => k_is)
    (case c11 => k_is)
    (case k11 => k_is)
    (case a12 => k_is)
    (case l12 => k_is)
    (case c12 => k_is)
    (case k12 => k_is)
    (case a13 => k_is)
    (case l13 => k_is)
    (case c13 => k_is)
    (case k13 => k_is)
    (case a14 => k_is)
    (case l14 => k_is)
    (case c14 => k_is)
    (case k14 => k_is)
    (case a15 => k_is)
    (case l15 => k_is)
    (case c15 => k_is)
    (case k15 => k_is)
    (case a16 => k_is)
    (case l16 => k_is)
    (case c16 => k_is)
    (case k16 => k_is)
    (case a17 => k_is)
    (case l17 => k_is)
    (case c17 => k_is)
    (case k17 => k_is)
    (case a18 => k_is)
    (case l18 => k_is)
    (case c18 => k_is)
    (case k18 => k_is)
    (case a19 => k_is)
    (case l19 => k_is)
    (case c19 => k_is)
    (case k19 => k_is)
    (case a20 => k_is)
    (case l20 => k_is)
    (case c20 => k_is)
    (case k20 => k_is)
    (case a21 => k_is)
    (case l21 => k_is)
    (case c21 => k_is)
    (case k21 => k_is)
    (case a22 => k_is)
    (case l22 => k_is)
    (case c22 => k_is)
    (case k22 => k_is)
    (case a23 => k_is)
    (case l23 => k_is)
    (case c23 => k_is)
    (case k23 => k_is)
    (case a24 => k_is)
    (case l24 => k_is)
    (case c24 => k_is)
    (case k24 => k_is)
    (case a25 => k_is)
    (case l25 => k_is)
    (case c25 => k_is)
    (case k25 => k_is)
    (case a26 => k_is)
    (case l26 => k_is)
    (case c26 => k_is)
    (case k26 => k_is)
    (case a27 => k_is)
    (case l27 => k_is)
    (case c27 => k_is)
    (case k27 => k_is)
    (case a28 => k_is)
    (case l28 => k_is)
    (case c28 => k_is)
    (case k28 => k_is)
    (case a29 => k_is)
    (case l29 => k_is)
    (case c29 => k_is)
    (case k29 => k_is)
    (case a30 => k_is)
    (case l30 => k_is)
    (case c30 => k_is)
    (case k30 => k_is)
    (case a31 => k_is)
    (case l31 => k_is)
    (case c31 => k_is)
    (case k31 => k_is)
    (case ug0 => k_is)
    (case ug1 => k_is)
    (case ug2 => k_is)
    (case ug3 => k_is)
    (case ug4 => k_is)
    (case ug5 => k_is)
    (case tl5 => k_is)
    (case ug6 => k_is)
    (case tl8 => k_is)
    (case ug7 => k_is)
    (case tl11 => k_is)
    (case tl13 => k_is)
    (case z0 => k_is)
    (case z1 => k_is)
    (case z2 => k_is)
    (case z3 => k_is)
    (case z4 => k_is)
    (case z5 => k_is)
    (case z6 => k_is)
    (case z7 => k_is)
    (case z8 => k_is)
    (case z9 => k_is)
    (case z10 => k_is)
    (case z11 => k_is)
    (case z12 => k_is)
    (case z13 => k_is)
    (case xm0 => k_is)
    (case xb0 => k_is)
    (case xt0 => k_is)
    (case xi0 => k_is)
    (case xs0 => (first | rfl | k_is))
    (case xm1 => k_is)
    (case xb1 => k_is)
    (case xt1 => k_is)
    (case xm2 => k_is)
    (case xb2 => k_is)
    (case xt2 => k_is)
    (case xi2 => k_is)
    (case xs2 => (first | rfl | k_is))
    (case ya1 => k_is)
    (case yg1 => k_is)
    (case yk1 => k_is)
    (case yd1 => k_is)
    (case yc1 => k_is)
    (case yo1 => k_is)
    (case yx1 => k_exc)
    (case ya2 => k_is)
    (case yg2 => k_is)
    (case yk2 => k_is)
    (case yd2 => k_is)
    (case yc2 => k_is)
    (case yo2 => k_is)
    (case yv2 => k_is)
    (case ia2 => k_is)
    (case il2 => k_is)
    (case ic2 => k_is)
    (case ik2 => k_is)
    (case it2 => k_is)
    (case is2 => k_is)
    (case ie2 => kx_is)
    (case ib2 => k_is)
    (case eg => k_is)
    (case et => k_is)
    (case w0_0 => k_is)
    (case w1_0 => k_is)
    (case w1_1 => k_is)
