import PyProof.Rows.All
import Wide.All
import OpenK.AllK
import Wide.FinOn
import HandS.ForMost
import HandS.IsInst
import HandS.Style
import HandS.More
import HandS.Zip
import HandS.Deep
import HandS.Codes
import PySem.Challenge.RW_joinedends_k31_whole_combined_alike
set_option Elab.async false
set_option linter.all false
set_option maxRecDepth 100000
set_option maxHeartbeats 4000000
/-! Terms, their order, combined forms: plain mathematics, no program in sight. -/
namespace J
open PySem

/-! ### terms -/
inductive Tm where
  | var (n : Int)
  | app (f : Str) (as : List Tm)
instance : Inhabited Tm := ⟨.var 0⟩
section
variable {P : Tm → Prop} (hv : ∀ n, P (.var n)) (ha : ∀ f as, (∀ a ∈ as, P a) → P (.app f as))
include hv ha
mutual
theorem Tm.ind : ∀ t, P t
  | .var n => hv n
  | .app f as => ha f as (Tm.indL as)
theorem Tm.indL : ∀ as : List Tm, ∀ a ∈ as, P a
  | [], a, h => absurd h (by simp)
  | x :: r, a, h => by
    rcases List.mem_cons.mp h with e | e
    · rw [e]; exact Tm.ind x
    · exact Tm.indL r a e
end
end

inductive Sy where
  | v (n : Int)
  | nm (s : Str)
  deriving DecidableEq

mutual
def symb : Tm → List Sy
  | .var n => [.v n]
  | .app f as => .nm f :: symbL as
def symbL : List Tm → List Sy
  | [] => []
  | a :: r => symb a ++ symbL r
end
mutual
def tsz : Tm → Nat
  | .var _ => 1
  | .app _ as => 1 + tszL as
def tszL : List Tm → Nat
  | [] => 0
  | a :: r => tsz a + tszL r
end
mutual
def dep : Tm → Nat
  | .var _ => 1
  | .app _ as => 1 + depL as
def depL : List Tm → Nat
  | [] => 0
  | a :: r => max (dep a) (depL r)
end
/-! inn: the number of applications that have arguments -/
mutual
def inn : Tm → Nat
  | .var _ => 0
  | .app _ as => (if as.isEmpty then 0 else 1) + innL as
def innL : List Tm → Nat
  | [] => 0
  | a :: r => inn a + innL r
end
/-- a name that can be laid: all its signs are signs -/
def nmOk (x : Str) : Bool := x.cps.all (· < 0x110000)
section
variable (ar : Str → Nat)
mutual
def ok : Tm → Prop
  | .var _ => True
  | .app f as => (nmOk f = true ∧ as.length = ar f) ∧ okL as
def okL : List Tm → Prop
  | [] => True
  | a :: r => ok a ∧ okL r
end
end
theorem okL_iff {ar : Str → Nat} : ∀ {as : List Tm}, okL ar as ↔ ∀ a ∈ as, ok ar a
  | [] => by simp [okL]
  | a :: r => by simp [okL, okL_iff (as := r)]
theorem tsz_pos : ∀ t : Tm, 1 ≤ tsz t
  | .var _ => Nat.le_refl 1
  | .app _ _ => by simp [tsz]
theorem dep_pos : ∀ t : Tm, 1 ≤ dep t
  | .var _ => Nat.le_refl 1
  | .app _ _ => by simp [dep]
mutual
theorem symb_len : ∀ t : Tm, (symb t).length = tsz t
  | .var _ => rfl
  | .app _ as => by simp [symb, tsz, symbL_len as]; omega
theorem symbL_len : ∀ as : List Tm, (symbL as).length = tszL as
  | [] => rfl
  | a :: r => by simp [symbL, tszL, symb_len a, symbL_len r]
end
theorem depL_mem : ∀ {as : List Tm} {a : Tm}, a ∈ as → dep a ≤ depL as
  | x :: r, a, h => by
    rcases List.mem_cons.mp h with e | e
    · rw [e, depL]; omega
    · have := depL_mem e
      rw [depL]; omega
theorem innL_mem : ∀ {as : List Tm} {a : Tm}, a ∈ as → inn a ≤ innL as
  | x :: r, a, h => by
    rcases List.mem_cons.mp h with e | e
    · rw [e, innL]; omega
    · have := innL_mem e
      rw [innL]; omega
theorem tszL_mem : ∀ {as : List Tm} {a : Tm}, a ∈ as → tsz a ≤ tszL as
  | x :: r, a, h => by
    rcases List.mem_cons.mp h with e | e
    · rw [e, tszL]; omega
    · have := tszL_mem e
      rw [tszL]; omega
mutual
theorem dep_le : ∀ t : Tm, dep t ≤ inn t + 1
  | .var _ => by simp [dep, inn]
  | .app _ [] => by simp [dep, depL]
  | .app _ (a :: r) => by
    have := depL_le (a :: r)
    rw [dep, inn]
    simp only [List.isEmpty_cons, Bool.false_eq_true, if_false]
    omega
theorem depL_le : ∀ as : List Tm, depL as ≤ innL as + 1
  | [] => by simp [depL]
  | a :: r => by
    have h1 := dep_le a
    have h2 := depL_le r
    rw [depL, innL]
    omega
end
mutual
theorem dep_le_tsz : ∀ t : Tm, dep t ≤ tsz t
  | .var _ => Nat.le_refl 1
  | .app _ as => by
    have := depL_le_tszL as
    rw [dep, tsz]
    omega
theorem depL_le_tszL : ∀ as : List Tm, depL as ≤ tszL as
  | [] => Nat.le_refl 0
  | a :: r => by
    have h1 := dep_le_tsz a
    have h2 := depL_le_tszL r
    rw [depL, tszL]
    omega
end
section
variable {ar : Str → Nat} (h3 : ∀ f, ar f ≤ 3)
include h3
mutual
theorem tsz_le : ∀ t : Tm, ok ar t → tsz t ≤ 1 + 3 * inn t
  | .var _, _ => by simp [tsz, inn]
  | .app f [], _ => by simp [tsz, tszL]
  | .app f (a :: r), h => by
    obtain ⟨⟨_, hl⟩, hr⟩ := h
    have h1 := tszL_le (a :: r) hr
    have h2 := h3 f
    rw [tsz, inn]
    simp only [List.isEmpty_cons, Bool.false_eq_true, if_false]
    omega
theorem tszL_le : ∀ as : List Tm, okL ar as → tszL as ≤ as.length + 3 * innL as
  | [], _ => by simp [tszL]
  | a :: r, h => by
    have h1 := tsz_le a h.1
    have h2 := tszL_le r h.2
    rw [tszL, innL, List.length_cons]
    omega
end
end

/-! ### prefix notation is injective on terms that fit -/
mutual
theorem symb_inj {ar : Str → Nat} : ∀ (a b : Tm) (r r' : List Sy), ok ar a → ok ar b → symb a ++ r = symb b ++ r' → a = b ∧ r = r'
  | .var n, .var m, r, r', _, _, h => by
    simp [symb] at h
    exact ⟨by rw [h.1], h.2⟩
  | .var n, .app g bs, r, r', _, _, h => by simp [symb] at h
  | .app f as, .var m, r, r', _, _, h => by simp [symb] at h
  | .app f as, .app g bs, r, r', ha, hb, h => by
    simp only [symb, List.cons_append, List.cons.injEq, Sy.nm.injEq] at h
    obtain ⟨e, h⟩ := h
    subst e
    obtain ⟨e1, e2⟩ := symbL_inj as bs r r' ha.2 hb.2 (ha.1.2.trans hb.1.2.symm) h
    exact ⟨by rw [e1], e2⟩
theorem symbL_inj {ar : Str → Nat} : ∀ (as bs : List Tm) (r r' : List Sy), okL ar as → okL ar bs → as.length = bs.length → symbL as ++ r = symbL bs ++ r' → as = bs ∧ r = r'
  | [], [], r, r', _, _, _, h => by
    simp only [symbL, List.nil_append] at h
    exact ⟨rfl, h⟩
  | [], _ :: _, _, _, _, _, hl, _ => by simp at hl
  | _ :: _, [], _, _, _, _, hl, _ => by simp at hl
  | a :: as, b :: bs, r, r', ha, hb, hl, h => by
    simp only [symbL, List.append_assoc] at h
    obtain ⟨e1, h⟩ := symb_inj a b _ _ ha.1 hb.1 h
    obtain ⟨e2, h⟩ := symbL_inj as bs r r' ha.2 hb.2 (by simpa using hl) h
    exact ⟨by rw [e1, e2], h⟩
end

/-! ### the order -/
def slt (a b : Str) : Bool := decide (a.cps.toList < b.cps.toList)
theorem slt_irrefl (a : Str) : slt a a = false := decide_eq_false (List.lt_irrefl _)
theorem slt_trans {a b c : Str} (h : slt a b = true) (h' : slt b c = true) : slt a c = true :=
  decide_eq_true (List.lt_trans (of_decide_eq_true h) (of_decide_eq_true h'))
theorem slt_asymm {a b : Str} (h : slt a b = true) : slt b a = false := by
  cases q : slt b a with
  | false => rfl
  | true => have := slt_trans h q; rw [slt_irrefl] at this; cases this
theorem slt_tri {a b : Str} (h : slt a b = false) (h' : slt b a = false) : a = b := by
  have h1 : ¬ a.cps.toList < b.cps.toList := of_decide_eq_false h
  have h2 : ¬ b.cps.toList < a.cps.toList := of_decide_eq_false h'
  have e : a.cps.toList = b.cps.toList := List.le_antisymm (List.not_lt.mp h2) (List.not_lt.mp h1)
  cases a with
  | mk x =>
    cases b with
    | mk y =>
      have : x = y := Array.ext' e
      rw [this]
/-- the one symbol stands ahead of the other -/
def sylt : Sy → Sy → Bool
  | .v a, .v b => decide (a < b)
  | .v _, .nm _ => true
  | .nm _, .v _ => false
  | .nm a, .nm b => slt a b
theorem sylt_irrefl : ∀ a : Sy, sylt a a = false
  | .v a => decide_eq_false (Int.lt_irrefl a)
  | .nm a => slt_irrefl a
theorem sylt_trans : ∀ {a b c : Sy}, sylt a b = true → sylt b c = true → sylt a c = true
  | .v a, .v b, .v c, h, h' => by
    have h1 : a < b := of_decide_eq_true h
    have h2 : b < c := of_decide_eq_true h'
    exact decide_eq_true (Int.lt_trans h1 h2)
  | .v _, .v _, .nm _, _, _ => rfl
  | .v _, .nm _, .nm _, _, _ => rfl
  | .v _, .nm _, .v _, _, h' => by cases h'
  | .nm _, .v _, _, h, _ => by cases h
  | .nm _, .nm _, .v _, _, h' => by cases h'
  | .nm _, .nm _, .nm _, h, h' => slt_trans h h'
theorem sylt_tri : ∀ {a b : Sy}, sylt a b = false → sylt b a = false → a = b
  | .v a, .v b, h, h' => by
    have h1 : ¬ a < b := of_decide_eq_false h
    have h2 : ¬ b < a := of_decide_eq_false h'
    have : a = b := by omega
    rw [this]
  | .v _, .nm _, h, _ => by cases h
  | .nm _, .v _, _, h' => by cases h'
  | .nm _, .nm _, h, h' => by rw [slt_tri h h']
/-- -1 or 1: two different symbols -/
def symc (a b : Sy) : Int := if sylt a b then -1 else 1
def lexc : List Sy → List Sy → Int
  | x :: xs, y :: ys => if x = y then lexc xs ys else symc x y
  | _, _ => 0
/-- the fixed order: -1, 0, 1 -/
def cmp (a b : Tm) : Int := if tsz a ≠ tsz b then (if tsz a < tsz b then -1 else 1) else lexc (symb a) (symb b)

theorem lexc_refl : ∀ xs : List Sy, lexc xs xs = 0
  | [] => rfl
  | x :: xs => by rw [lexc, if_pos rfl]; exact lexc_refl xs
theorem lexc_zero : ∀ {xs ys : List Sy}, xs.length = ys.length → lexc xs ys = 0 → xs = ys
  | [], [], _, _ => rfl
  | [], _ :: _, h, _ => by simp at h
  | _ :: _, [], h, _ => by simp at h
  | x :: xs, y :: ys, hl, h => by
    rw [lexc] at h
    by_cases e : x = y
    · rw [if_pos e] at h
      rw [e, lexc_zero (by simpa using hl) h]
    · rw [if_neg e] at h
      unfold symc at h
      split at h <;> cases h
theorem lexc_total : ∀ xs ys : List Sy, lexc xs ys ≤ 0 ∨ lexc ys xs ≤ 0
  | [], _ => .inl (by cases ‹List Sy› <;> exact Int.le_refl 0)
  | _ :: _, [] => .inl (Int.le_refl 0)
  | x :: xs, y :: ys => by
    rw [lexc, lexc]
    by_cases e : x = y
    · rw [if_pos e, if_pos e.symm]; exact lexc_total xs ys
    · rw [if_neg e, if_neg (Ne.symm e)]
      unfold symc
      cases h1 : sylt x y with
      | true => exact .inl (by simp)
      | false =>
        cases h2 : sylt y x with
        | true => exact .inr (by simp)
        | false => exact absurd (sylt_tri h1 h2) e
theorem symc_le {x y : Sy} (h : symc x y ≤ 0) : sylt x y = true := by
  unfold symc at h
  cases q : sylt x y with
  | true => rfl
  | false => rw [q] at h; simp at h
theorem lexc_anti : ∀ {xs ys : List Sy}, xs.length = ys.length → lexc xs ys ≤ 0 → lexc ys xs ≤ 0 → xs = ys
  | [], [], _, _, _ => rfl
  | [], _ :: _, h, _, _ => by simp at h
  | _ :: _, [], h, _, _ => by simp at h
  | x :: xs, y :: ys, hl, h, h' => by
    rw [lexc] at h h'
    by_cases e : x = y
    · rw [if_pos e] at h
      rw [if_pos e.symm] at h'
      rw [e, lexc_anti (by simpa using hl) h h']
    · rw [if_neg e] at h
      rw [if_neg (Ne.symm e)] at h'
      have := sylt_trans (symc_le h) (symc_le h')
      rw [sylt_irrefl] at this; cases this
theorem lexc_trans : ∀ {xs ys zs : List Sy}, xs.length = ys.length → ys.length = zs.length → lexc xs ys ≤ 0 → lexc ys zs ≤ 0 → lexc xs zs ≤ 0
  | [], [], zs, _, _, _, _ => by cases zs <;> exact Int.le_refl 0
  | [], _ :: _, _, h, _, _, _ => by simp at h
  | _ :: _, [], _, h, _, _, _ => by simp at h
  | _ :: _, _ :: _, [], _, h, _, _ => by simp at h
  | x :: xs, y :: ys, z :: zs, h1, h2, h, h' => by
    rw [lexc] at h h' ⊢
    by_cases e : x = y
    · subst e
      rw [if_pos rfl] at h
      by_cases e' : x = z
      · rw [if_pos e'] at h' ⊢
        exact lexc_trans (by simpa using h1) (by simpa using h2) h h'
      · rw [if_neg e'] at h' ⊢
        exact h'
    · rw [if_neg e] at h
      by_cases e' : y = z
      · subst e'
        rw [if_neg e]
        exact h
      · rw [if_neg e'] at h'
        have q := sylt_trans (symc_le h) (symc_le h')
        have ne : ¬ x = z := fun z' => by rw [z', sylt_irrefl] at q; cases q
        rw [if_neg ne]
        unfold symc
        rw [q]
        decide

theorem cmp_total (a b : Tm) : cmp a b ≤ 0 ∨ cmp b a ≤ 0 := by
  unfold cmp
  by_cases e : tsz a = tsz b
  · rw [if_neg (by simp [e]), if_neg (by simp [e])]
    exact lexc_total _ _
  · rw [if_pos e, if_pos (Ne.symm e)]
    by_cases h : tsz a < tsz b
    · rw [if_pos h]; exact .inl (by decide)
    · rw [if_pos (show tsz b < tsz a by omega)]; exact .inr (by decide)
theorem cmp_trans {a b c : Tm} (h : cmp a b ≤ 0) (h' : cmp b c ≤ 0) : cmp a c ≤ 0 := by
  unfold cmp at h h' ⊢
  by_cases e : tsz a = tsz b
  · rw [if_neg (by simp [e])] at h
    by_cases e' : tsz b = tsz c
    · rw [if_neg (by simp [e'])] at h'
      rw [if_neg (by simp [e, e'])]
      exact lexc_trans (by rw [symb_len, symb_len, e]) (by rw [symb_len, symb_len, e']) h h'
    · rw [if_pos e'] at h'
      rw [if_pos (by rw [e]; exact e'), e]
      exact h'
  · rw [if_pos e] at h
    have l1 : tsz a < tsz b := by
      by_cases q : tsz a < tsz b
      · exact q
      · rw [if_neg q] at h; exact absurd h (by decide)
    by_cases e' : tsz b = tsz c
    · rw [if_pos (by rw [← e']; exact e), if_pos (by rw [← e']; exact l1)]
      decide
    · rw [if_pos e'] at h'
      have l2 : tsz b < tsz c := by
        by_cases q : tsz b < tsz c
        · exact q
        · rw [if_neg q] at h'; exact absurd h' (by decide)
      rw [if_pos (by omega), if_pos (by omega)]
      decide
theorem cmp_anti {ar : Str → Nat} {a b : Tm} (oa : ok ar a) (ob : ok ar b) (h : cmp a b ≤ 0) (h' : cmp b a ≤ 0) : a = b := by
  unfold cmp at h h'
  by_cases e : tsz a = tsz b
  · rw [if_neg (by simp [e])] at h
    rw [if_neg (by simp [e])] at h'
    have q := lexc_anti (by rw [symb_len, symb_len, e]) h h'
    exact (symb_inj a b [] [] oa ob (by rw [q])).1
  · rw [if_pos e] at h
    rw [if_pos (Ne.symm e)] at h'
    by_cases q : tsz a < tsz b
    · rw [if_neg (by omega)] at h'; exact absurd h' (by decide)
    · rw [if_neg q] at h; exact absurd h (by decide)
theorem cmp_refl (a : Tm) : cmp a a ≤ 0 := by rcases cmp_total a a with h | h <;> exact h

/-! ### sorting -/
abbrev le (a b : Tm) : Prop := cmp a b ≤ 0
def ins (x : Tm) : List Tm → List Tm
  | [] => [x]
  | y :: r => if cmp y x ≤ 0 then y :: ins x r else x :: y :: r
def isort (l : List Tm) : List Tm := l.foldl (fun acc x => ins x acc) []
theorem ins_perm (x : Tm) : ∀ l : List Tm, (ins x l).Perm (x :: l)
  | [] => .refl _
  | y :: r => by
    rw [ins]
    split
    · exact ((ins_perm x r).cons y).trans (.swap x y r)
    · exact .refl _
theorem ins_sorted (x : Tm) : ∀ l : List Tm, l.Pairwise le → (ins x l).Pairwise le
  | [], _ => by simp [ins]
  | y :: r, h => by
    rw [ins]
    have h1 := List.pairwise_cons.mp h
    split
    · rename_i c
      refine List.pairwise_cons.mpr ⟨fun z hz => ?_, ins_sorted x r h1.2⟩
      rcases List.mem_cons.mp ((ins_perm x r).mem_iff.mp hz) with e | e
      · rw [e]; exact c
      · exact h1.1 z e
    · rename_i c
      have c' : cmp x y ≤ 0 := (cmp_total x y).elim id fun z => absurd z c
      refine List.pairwise_cons.mpr ⟨fun z hz => ?_, h⟩
      rcases List.mem_cons.mp hz with e | e
      · rw [e]; exact c'
      · exact cmp_trans c' (h1.1 z e)
theorem isort_go : ∀ (l acc : List Tm), acc.Pairwise le → (l.foldl (fun acc x => ins x acc) acc).Perm (acc ++ l) ∧ (l.foldl (fun acc x => ins x acc) acc).Pairwise le
  | [], acc, h => by simp [h]
  | x :: r, acc, h => by
    have ih := isort_go r (ins x acc) (ins_sorted x acc h)
    refine ⟨ih.1.trans ?_, ih.2⟩
    refine ((ins_perm x acc).append_right r).trans ?_
    exact List.perm_middle.symm
theorem isort_perm (l : List Tm) : (isort l).Perm l := by simpa [isort] using (isort_go l [] .nil).1
theorem isort_sorted (l : List Tm) : (isort l).Pairwise le := (isort_go l [] .nil).2
/-- two sorted arrangements of terms that fit are one -/
theorem sorted_unique {ar : Str → Nat} : ∀ {l l' : List Tm}, (∀ a ∈ l, ok ar a) → l.Pairwise le → l'.Pairwise le → l.Perm l' → l = l'
  | [], l', _, _, _, p => by rw [p.symm.eq_nil]
  | a :: r, [], _, _, _, p => by have := p.length_eq; simp at this
  | a :: r, b :: r', ho, h, h', p => by
    have h1 := List.pairwise_cons.mp h
    have h2 := List.pairwise_cons.mp h'
    have e : a = b := by
      have ma : a ∈ b :: r' := p.mem_iff.mp List.mem_cons_self
      have mb : b ∈ a :: r := p.mem_iff.mpr List.mem_cons_self
      rcases List.mem_cons.mp ma with z | z
      · exact z
      · rcases List.mem_cons.mp mb with y | y
        · exact y.symm
        · exact cmp_anti (ho a List.mem_cons_self) (ho b mb) (h1.1 b y) (h2.1 a z)
    subst e
    rw [sorted_unique (fun c hc => ho c (List.mem_cons_of_mem _ hc)) h1.2 h2.2 (p.cons_inv)]
theorem isort_eq {ar : Str → Nat} {l l' : List Tm} (ho : ∀ a ∈ l, ok ar a) (h : l'.Pairwise le) (p : l'.Perm l) : l' = isort l :=
  sorted_unique (fun a ha => ho a (p.mem_iff.mp ha)) h (isort_sorted l) (p.trans (isort_perm l).symm)
theorem isort_congr {ar : Str → Nat} {l l' : List Tm} (ho : ∀ a ∈ l, ok ar a) (p : l.Perm l') : isort l = isort l' :=
  sorted_unique (fun a ha => ho a ((isort_perm l).mem_iff.mp ha)) (isort_sorted l) (isort_sorted l') ((isort_perm l).trans (p.trans (isort_perm l').symm))

/-! ### combined forms -/
def build (f : Str) : List Tm → Tm
  | [] => .var 0
  | t :: r => if r.isEmpty then t else .app f [t, build f r]
theorem build_one (f : Str) (t : Tm) : build f [t] = t := by simp [build]
theorem build_cons {f : Str} {t : Tm} {r : List Tm} (h : r ≠ []) : build f (t :: r) = .app f [t, build f r] := by
  cases r with
  | nil => exact absurd rfl h
  | cons a b => rw [build]; simp
section
variable (ops : List Str)
mutual
def both : Tm → Tm × (Str → List Tm)
  | .var n => (.var n, fun _ => [.var n])
  | .app g as =>
    ((if g ∈ ops then build g (isort (((bothL as).map fun p => p.2 g).flatten)) else .app g ((bothL as).map (·.1))),
     fun f => if f = g then ((bothL as).map fun p => p.2 f).flatten
       else [if g ∈ ops then build g (isort (((bothL as).map fun p => p.2 g).flatten)) else .app g ((bothL as).map (·.1))])
def bothL : List Tm → List (Tm × (Str → List Tm))
  | [] => []
  | a :: r => both a :: bothL r
end
theorem bothL_map : ∀ as : List Tm, bothL ops as = as.map (both ops)
  | [] => rfl
  | a :: r => by rw [bothL, bothL_map r]; rfl
def comb (t : Tm) : Tm := (both ops t).1
def flat (f : Str) (t : Tm) : List Tm := (both ops t).2 f
def flatL (f : Str) (as : List Tm) : List Tm := (as.map (flat ops f)).flatten
end
section
variable {ops : List Str}
theorem comb_var (n : Int) : comb ops (.var n) = .var n := by simp [comb, both]
theorem flat_var (f : Str) (n : Int) : flat ops f (.var n) = [.var n] := by simp [flat, both]
theorem comb_in {g : Str} {as : List Tm} (h : g ∈ ops) : comb ops (.app g as) = build g (isort (flatL ops g as)) := by
  simp only [comb, both, bothL_map, if_pos h, flatL, flat, List.map_map]; rfl
theorem comb_out {g : Str} {as : List Tm} (h : ¬ g ∈ ops) : comb ops (.app g as) = .app g (as.map (comb ops)) := by
  simp only [comb, both, bothL_map, if_neg h, List.map_map]; rfl
theorem flat_same {g : Str} {as : List Tm} : flat ops g (.app g as) = flatL ops g as := by
  simp only [flat, both, bothL_map, if_pos, flatL, List.map_map]; rfl
theorem flat_other {f g : Str} {as : List Tm} (h : f ≠ g) : flat ops f (.app g as) = [comb ops (.app g as)] := by
  simp only [flat, comb, both, if_neg h]
theorem flatL_two (f : Str) (l r : Tm) : flatL ops f [l, r] = flat ops f l ++ flat ops f r := by simp [flatL]

/-! what stands in them -/
def sumI (l : List Tm) : Nat := innL l
theorem innL_append : ∀ l l' : List Tm, innL (l ++ l') = innL l + innL l'
  | [], l' => by simp [innL]
  | a :: r, l' => by rw [List.cons_append, innL, innL, innL_append r l']; omega
theorem innL_perm {l l' : List Tm} (p : l.Perm l') : innL l = innL l' := by
  induction p with
  | nil => rfl
  | cons x _ ih => rw [innL, innL, ih]
  | swap x y l => rw [innL, innL, innL, innL]; omega
  | trans _ _ h1 h2 => exact h1.trans h2
theorem inn_build {f : Str} : ∀ {l : List Tm}, l ≠ [] → inn (build f l) + 1 = l.length + innL l
  | [], h => absurd rfl h
  | [t], _ => by rw [build_one]; simp only [innL, List.length_singleton]; omega
  | t :: a :: r, _ => by
    have ih := inn_build (f := f) (l := a :: r) (by simp)
    have e : build f (t :: a :: r) = .app f [t, build f (a :: r)] := build_cons (by simp)
    rw [e, inn, innL]
    simp only [List.isEmpty_cons, Bool.false_eq_true, if_false, innL, List.length_cons] at ih ⊢
    omega
theorem ok_build {ar : Str → Nat} {f : Str} (hn : nmOk f = true) (h2 : ar f = 2) : ∀ {l : List Tm}, l ≠ [] → (∀ a ∈ l, ok ar a) → ok ar (build f l)
  | [], h, _ => absurd rfl h
  | [t], _, ho => by rw [build_one]; exact ho t (by simp)
  | t :: a :: r, _, ho => by
    have ih := ok_build hn h2 (l := a :: r) (by simp) (fun x hx => ho x (List.mem_cons_of_mem _ hx))
    have e : build f (t :: a :: r) = .app f [t, build f (a :: r)] := build_cons (by simp)
    rw [e, ok]
    exact ⟨⟨hn, by rw [h2]; rfl⟩, ho t (by simp), ih, trivial⟩
end

/-- what is known of the signature and the operations -/
structure Sig (ar : Str → Nat) (ops : List Str) : Prop where
  three : ∀ f, ar f ≤ 3
  two : ∀ f ∈ ops, ar f = 2
section
variable {ar : Str → Nat} {ops : List Str} (S : Sig ar ops)
include S
theorem two_args {f : Str} {as : List Tm} (hf : f ∈ ops) (h : ok ar (.app f as)) : ∃ l r, as = [l, r] ∧ ok ar l ∧ ok ar r := by
  obtain ⟨⟨_, hl⟩, ho⟩ := h
  rw [S.two f hf] at hl
  match as, hl with
  | [l, r], _ => exact ⟨l, r, rfl, ho.1, ho.2.1⟩
/-- fitting, and the number of inner applications -/
theorem comb_facts : ∀ t : Tm, ok ar t → (ok ar (comb ops t) ∧ inn (comb ops t) = inn t) ∧
    ∀ f ∈ ops, flat ops f t ≠ [] ∧ (∀ x ∈ flat ops f t, ok ar x) ∧ (flat ops f t).length + innL (flat ops f t) = inn t + 1 := by
  refine Tm.ind (fun n _ => ?_) (fun g as ih h => ?_)
  · rw [comb_var]
    refine ⟨⟨trivial, rfl⟩, fun f _ => ?_⟩
    rw [flat_var]
    exact ⟨by simp, fun x hx => by rw [List.mem_singleton.mp hx]; trivial, by simp [innL, inn]⟩
  · have main : ok ar (comb ops (.app g as)) ∧ inn (comb ops (.app g as)) = inn (.app g as) := by
      by_cases hg : g ∈ ops
      · obtain ⟨l, r, rfl, ol, orr⟩ := two_args S hg h
        obtain ⟨_, hl⟩ := ih l (by simp) ol
        obtain ⟨_, hr⟩ := ih r (by simp) orr
        obtain ⟨l1, l2, l3⟩ := hl g hg
        obtain ⟨r1, r2, r3⟩ := hr g hg
        rw [comb_in hg, flatL_two]
        have p := isort_perm (flat ops g l ++ flat ops g r)
        have ne : isort (flat ops g l ++ flat ops g r) ≠ [] := fun z => by
          have e := p.length_eq
          rw [z, List.length_append] at e
          have := List.length_pos_iff.mpr l1
          simp only [List.length_nil] at e
          omega
        refine ⟨ok_build h.1.1 (S.two g hg) ne fun x hx => ?_, ?_⟩
        · rcases List.mem_append.mp (p.mem_iff.mp hx) with q | q
          · exact l2 x q
          · exact r2 x q
        · have q := inn_build (f := g) ne
          rw [p.length_eq, innL_perm p, List.length_append, innL_append] at q
          rw [inn, innL, innL, innL]
          simp only [List.isEmpty_cons, Bool.false_eq_true, if_false]
          omega
      · rw [comb_out hg]
        obtain ⟨⟨hn, hl⟩, ho⟩ := h
        have e1 : ∀ bs : List Tm, (∀ a ∈ bs, (ok ar (comb ops a) ∧ inn (comb ops a) = inn a)) → okL ar (bs.map (comb ops)) ∧ innL (bs.map (comb ops)) = innL bs := by
          intro bs
          induction bs with
          | nil => intro _; exact ⟨trivial, rfl⟩
          | cons b r ih' =>
            intro hb
            obtain ⟨q1, q2⟩ := ih' fun a ha => hb a (List.mem_cons_of_mem _ ha)
            obtain ⟨p1, p2⟩ := hb b (by simp)
            exact ⟨⟨p1, q1⟩, by rw [List.map_cons, innL, innL, p2, q2]⟩
        obtain ⟨q1, q2⟩ := e1 as fun a ha => (ih a ha (okL_iff.mp ho a ha)).1
        refine ⟨⟨⟨hn, by rw [List.length_map]; exact hl⟩, q1⟩, ?_⟩
        rw [inn, inn, q2]
        cases as <;> rfl
    refine ⟨main, fun f hf => ?_⟩
    by_cases e : f = g
    · subst e
      obtain ⟨l, r, rfl, ol, orr⟩ := two_args S hf h
      obtain ⟨_, hl⟩ := ih l (by simp) ol
      obtain ⟨_, hr⟩ := ih r (by simp) orr
      obtain ⟨l1, l2, l3⟩ := hl f hf
      obtain ⟨r1, r2, r3⟩ := hr f hf
      rw [flat_same, flatL_two]
      refine ⟨by simp [l1], fun x hx => (List.mem_append.mp hx).elim (l2 x) (r2 x), ?_⟩
      rw [List.length_append, innL_append, inn, innL, innL, innL]
      simp only [List.isEmpty_cons, Bool.false_eq_true, if_false]
      omega
    · rw [flat_other e]
      refine ⟨by simp, fun x hx => by rw [List.mem_singleton.mp hx]; exact main.1, ?_⟩
      simp only [innL, List.length_singleton]
      rw [main.2]
      omega

/-! ### alike -/
def Eqv (ops : List Str) (t t' : Tm) : Prop := comb ops t = comb ops t' ∧ ∀ f ∈ ops, (flat ops f t).Perm (flat ops f t')
omit S in
theorem Eqv.rfl' (t : Tm) : Eqv ops t t := ⟨rfl, fun _ _ => .refl _⟩
omit S in
theorem Eqv.trans {t t' t'' : Tm} (h : Eqv ops t t') (h' : Eqv ops t' t'') : Eqv ops t t'' := ⟨h.1.trans h'.1, fun f hf => (h.2 f hf).trans (h'.2 f hf)⟩
omit S in
/-- two applications of an operation of the list whose flat arguments agree but for their turn -/
theorem Eqv.of_flat {g : Str} {as bs : List Tm} (hg : g ∈ ops) (ho : ∀ x ∈ flatL ops g as, ok ar x) (p : (flatL ops g as).Perm (flatL ops g bs)) : Eqv ops (.app g as) (.app g bs) := by
  have e : comb ops (.app g as) = comb ops (.app g bs) := by rw [comb_in hg, comb_in hg, isort_congr ho p]
  refine ⟨e, fun f _ => ?_⟩
  by_cases q : f = g
  · subst q
    rw [flat_same, flat_same]
    exact p
  · rw [flat_other q, flat_other q, e]
theorem flatL_ok {g : Str} {as : List Tm} (hg : g ∈ ops) (h : ok ar (.app g as)) : ∀ x ∈ flatL ops g as, ok ar x := by
  rw [← flat_same]
  exact ((comb_facts S _ h).2 g hg).2.1
theorem Eqv.swap {g : Str} {l r : Tm} (hg : g ∈ ops) (h : ok ar (.app g [l, r])) : Eqv ops (.app g [l, r]) (.app g [r, l]) := by
  refine .of_flat hg (flatL_ok S hg h) ?_
  rw [flatL_two, flatL_two]
  exact List.perm_append_comm
theorem Eqv.right {g : Str} {a b c : Tm} (hg : g ∈ ops) (h : ok ar (.app g [.app g [a, b], c])) : Eqv ops (.app g [.app g [a, b], c]) (.app g [a, .app g [b, c]]) := by
  refine .of_flat hg (flatL_ok S hg h) ?_
  rw [flatL_two, flatL_two, flat_same, flat_same, flatL_two, flatL_two, List.append_assoc]
theorem Eqv.left {g : Str} {a b c : Tm} (hg : g ∈ ops) (h : ok ar (.app g [a, .app g [b, c]])) : Eqv ops (.app g [a, .app g [b, c]]) (.app g [.app g [a, b], c]) := by
  refine .of_flat hg (flatL_ok S hg h) ?_
  rw [flatL_two, flatL_two, flat_same, flat_same, flatL_two, flatL_two, List.append_assoc]
omit S in
theorem flatL_set {f : Str} : ∀ {as : List Tm} {i : Nat} {a b : Tm}, as[i]? = some a → (flat ops f a).Perm (flat ops f b) → (flatL ops f as).Perm (flatL ops f (as.set i b))
  | x :: r, 0, a, b, h, p => by
    have e : x = a := Option.some.inj h
    subst e
    simp only [flatL, List.set_cons_zero, List.map_cons, List.flatten_cons]
    exact p.append_right _
  | x :: r, i + 1, a, b, h, p => by
    have ih := flatL_set (as := r) (i := i) (f := f) (by simpa using h) p
    simp only [flatL, List.set_cons_succ, List.map_cons, List.flatten_cons] at ih ⊢
    exact ih.append_left _
theorem Eqv.arg {g : Str} {as : List Tm} {i : Nat} {a b : Tm} (h : ok ar (.app g as)) (ha : as[i]? = some a) (e : Eqv ops a b) : Eqv ops (.app g as) (.app g (as.set i b)) := by
  by_cases hg : g ∈ ops
  · exact .of_flat hg (flatL_ok S hg h) (flatL_set ha (e.2 g hg))
  · have q : comb ops (.app g as) = comb ops (.app g (as.set i b)) := by
      rw [comb_out hg, comb_out hg, List.map_set, ← e.1]
      obtain ⟨hi, ea⟩ := List.getElem?_eq_some_iff.mp ha
      subst ea
      congr 1
      refine List.ext_getElem (by simp) fun j h1 h2 => ?_
      rw [List.getElem_set]
      split
      · rename_i z; subst z; simp
      · rfl
    refine ⟨q, fun f hf => ?_⟩
    have ne : f ≠ g := fun z => hg (z ▸ hf)
    rw [flat_other ne, flat_other ne, q]
end

/-! ### positions: 1 is the first argument -/
def sub : List Nat → Tm → Tm
  | [], t => t
  | k :: q, .app _ as => sub q (as.getD (k - 1) (.var 0))
  | _ :: _, t => t
def repl : List Nat → Tm → Tm → Tm
  | [], _, new => new
  | k :: q, .app f as, new => .app f (as.set (k - 1) (repl q (as.getD (k - 1) (.var 0)) new))
  | _ :: _, t, _ => t
def vpos : List Nat → Tm → Prop
  | [], _ => True
  | k :: q, .app _ as => 1 ≤ k ∧ k ≤ as.length ∧ vpos q (as.getD (k - 1) (.var 0))
  | _ :: _, .var _ => False
theorem getD_at {as : List Tm} {i : Nat} (h : i < as.length) : as[i]? = some (as.getD i (.var 0)) := by
  rw [List.getD_eq_getElem?_getD, List.getElem?_eq_getElem h]; rfl
theorem innL_set : ∀ {as : List Tm} {i : Nat} {a : Tm} (b : Tm), as[i]? = some a → innL (as.set i b) + inn a = innL as + inn b
  | x :: r, 0, a, b, h => by
    have e : x = a := Option.some.inj h
    subst e
    rw [List.set_cons_zero, innL, innL]; omega
  | x :: r, i + 1, a, b, h => by
    have ih := innL_set (as := r) (i := i) b (by simpa using h)
    rw [List.set_cons_succ, innL, innL]; omega
theorem okL_set {ar : Str → Nat} {as : List Tm} {i : Nat} {b : Tm} (h : okL ar as) (hb : ok ar b) : okL ar (as.set i b) :=
  okL_iff.mpr fun x hx => by
    rcases List.mem_or_eq_of_mem_set hx with q | q
    · exact okL_iff.mp h x q
    · rw [q]; exact hb
theorem sub_ok {ar : Str → Nat} : ∀ (p : List Nat) (t : Tm), ok ar t → vpos p t → ok ar (sub p t)
  | [], _, h, _ => h
  | k :: q, .app f as, h, hp => by
    have hi : k - 1 < as.length := by have := hp.1; have := hp.2.1; omega
    exact sub_ok q _ (okL_iff.mp h.2 _ (List.mem_of_getElem? (getD_at hi))) hp.2.2
  | _ :: _, .var _, _, hp => hp.elim
theorem repl_ok {ar : Str → Nat} : ∀ (p : List Nat) (t new : Tm), ok ar t → vpos p t → ok ar new → ok ar (repl p t new)
  | [], _, _, _, _, hn => hn
  | k :: q, .app f as, new, h, hp, hn => by
    have hi : k - 1 < as.length := by have := hp.1; have := hp.2.1; omega
    have o := repl_ok q _ new (okL_iff.mp h.2 _ (List.mem_of_getElem? (getD_at hi))) hp.2.2 hn
    exact ⟨⟨h.1.1, by rw [List.length_set]; exact h.1.2⟩, okL_set h.2 o⟩
  | _ :: _, .var _, _, _, hp, _ => hp.elim
theorem repl_inn : ∀ (p : List Nat) (t new : Tm), vpos p t → inn (repl p t new) + inn (sub p t) = inn t + inn new
  | [], t, new, _ => by rw [repl, sub]; omega
  | k :: q, .app f as, new, hp => by
    have hi : k - 1 < as.length := by have := hp.1; have := hp.2.1; omega
    have ih := repl_inn q (as.getD (k - 1) (.var 0)) new hp.2.2
    have s := innL_set (repl q (as.getD (k - 1) (.var 0)) new) (getD_at hi)
    rw [repl, sub, inn, inn]
    have e : (as.set (k - 1) (repl q (as.getD (k - 1) (.var 0)) new)).isEmpty = as.isEmpty := by cases as <;> cases k - 1 <;> rfl
    rw [e]
    omega
  | _ :: _, .var _, _, hp => hp.elim
theorem repl_eqv {ar : Str → Nat} {ops : List Str} (S : Sig ar ops) : ∀ (p : List Nat) (t new : Tm), ok ar t → vpos p t → Eqv ops (sub p t) new → Eqv ops t (repl p t new)
  | [], _, _, _, _, e => e
  | k :: q, .app f as, new, h, hp, e => by
    have hi : k - 1 < as.length := by have := hp.1; have := hp.2.1; omega
    exact .arg S h (getD_at hi) (repl_eqv S q _ new (okL_iff.mp h.2 _ (List.mem_of_getElem? (getD_at hi))) hp.2.2 e)
  | _ :: _, .var _, _, _, hp, _ => hp.elim
end J

/-! How terms lie in the heap; short rules for the expressions that this program uses. -/
namespace J
open PySem L2

/-- the i-th statement of the joined text -/
def top (i : Nat) : Stmt := PySem.Challenge.pw_joinedends_k31_whole_combined_alike.main.body.getD i (.Pass ⟨0, 0, 0, 0⟩)

/-! ### terms in the heap -/
mutual
def TmAt (H : Hp) : Tm → V → Prop
  | .var n, v => v = .int n
  | .app f as, v => ∃ (a : Addr) (vs : List V), v = .ref a ∧ H a = some (.tup (.str f :: vs)) ∧ TmsAt H as vs
def TmsAt (H : Hp) : List Tm → List V → Prop
  | [], vs => vs = []
  | t :: ts, vs => ∃ (v : V) (r : List V), vs = v :: r ∧ TmAt H t v ∧ TmsAt H ts r
end
/-- every tracked tuple stays -/
def Tups (H H' : Hp) : Prop := ∀ a xs, H a = some (.tup xs) → H' a = some (.tup xs)
theorem Tups.of {H H' : Hp} (e : Same H H') : Tups H H' := fun a xs h => e a _ h
theorem Tups.trans {H H1 H2 : Hp} (a : Tups H H1) (b : Tups H1 H2) : Tups H H2 := fun c xs h => b c xs (a c xs h)
mutual
theorem TmAt.mono {H H' : Hp} (e : Tups H H') : ∀ {t : Tm} {v : V}, TmAt H t v → TmAt H' t v
  | .var n, v, h => by rw [TmAt] at h ⊢; exact h
  | .app f as, v, h => by
    rw [TmAt] at h ⊢
    obtain ⟨a, vs, h1, h2, h3⟩ := h
    exact ⟨a, vs, h1, e _ _ h2, TmsAt.mono e h3⟩
theorem TmsAt.mono {H H' : Hp} (e : Tups H H') : ∀ {ts : List Tm} {vs : List V}, TmsAt H ts vs → TmsAt H' ts vs
  | [], vs, h => by rw [TmsAt] at h ⊢; exact h
  | t :: ts, vs, h => by
    rw [TmsAt] at h ⊢
    obtain ⟨v, r, h1, h2, h3⟩ := h
    exact ⟨v, r, h1, TmAt.mono e h2, TmsAt.mono e h3⟩
end
theorem TmAt.same {H H' : Hp} {t : Tm} {v : V} (h : TmAt H t v) (e : Same H H') : TmAt H' t v := h.mono (.of e)
theorem TmsAt.same {H H' : Hp} {ts : List Tm} {vs : List V} (h : TmsAt H ts vs) (e : Same H H') : TmsAt H' ts vs := h.mono (.of e)
theorem TmAt.var {H : Hp} (n : Int) : TmAt H (.var n) (.int n) := by rw [TmAt]
theorem TmAt.app {H : Hp} {f : Str} {as : List Tm} {a : Addr} {vs : List V} (h : H a = some (.tup (.str f :: vs))) (r : TmsAt H as vs) : TmAt H (.app f as) (.ref a) := by
  rw [TmAt]; exact ⟨a, vs, rfl, h, r⟩
theorem TmsAt.nil {H : Hp} : TmsAt H [] [] := by rw [TmsAt]
theorem TmsAt.cons {H : Hp} {t : Tm} {ts : List Tm} {v : V} {vs : List V} (h : TmAt H t v) (r : TmsAt H ts vs) : TmsAt H (t :: ts) (v :: vs) := by
  rw [TmsAt]; exact ⟨v, vs, rfl, h, r⟩
theorem TmAt.inv_var {H : Hp} {n : Int} {v : V} (h : TmAt H (.var n) v) : v = .int n := by rw [TmAt] at h; exact h
theorem TmAt.inv_app {H : Hp} {f : Str} {as : List Tm} {v : V} (h : TmAt H (.app f as) v) : ∃ (a : Addr) (vs : List V), v = .ref a ∧ H a = some (.tup (.str f :: vs)) ∧ TmsAt H as vs := by
  rw [TmAt] at h; exact h
theorem TmsAt.inv_nil {H : Hp} {vs : List V} (h : TmsAt H [] vs) : vs = [] := by rw [TmsAt] at h; exact h
theorem TmsAt.inv_cons {H : Hp} {t : Tm} {ts : List Tm} {vs : List V} (h : TmsAt H (t :: ts) vs) : ∃ (v : V) (r : List V), vs = v :: r ∧ TmAt H t v ∧ TmsAt H ts r := by
  rw [TmsAt] at h; exact h
theorem TmsAt.len {H : Hp} : ∀ {ts : List Tm} {vs : List V}, TmsAt H ts vs → vs.length = ts.length
  | [], vs, h => by rw [h.inv_nil]; rfl
  | t :: ts, vs, h => by
    obtain ⟨v, r, rfl, _, h3⟩ := h.inv_cons
    rw [List.length_cons, List.length_cons, h3.len]
theorem TmsAt.at {H : Hp} : ∀ {ts : List Tm} {vs : List V} {i : Nat} {v : V}, TmsAt H ts vs → vs[i]? = some v → ∃ t, ts[i]? = some t ∧ TmAt H t v
  | [], vs, i, v, h, e => by rw [h.inv_nil] at e; simp at e
  | t :: ts, vs, 0, v, h, e => by
    obtain ⟨u, r, rfl, h2, _⟩ := h.inv_cons
    have e' : u = v := Option.some.inj e
    exact ⟨t, rfl, e' ▸ h2⟩
  | t :: ts, vs, i + 1, v, h, e => by
    obtain ⟨u, r, rfl, _, h3⟩ := h.inv_cons
    obtain ⟨t', e1, e2⟩ := h3.at (i := i) (by simpa using e)
    exact ⟨t', by simpa using e1, e2⟩
theorem TmsAt.get {H : Hp} {ts : List Tm} {vs : List V} {i : Nat} {t : Tm} (h : TmsAt H ts vs) (e : ts[i]? = some t) : ∃ v, vs[i]? = some v ∧ TmAt H t v := by
  have hi : i < vs.length := by rw [h.len]; exact (List.getElem?_eq_some_iff.mp e).1
  obtain ⟨t', e1, e2⟩ := h.at (List.getElem?_eq_getElem hi)
  rw [e] at e1
  cases e1
  exact ⟨_, List.getElem?_eq_getElem hi, e2⟩
theorem TmsAt.append {H : Hp} : ∀ {ts us : List Tm} {vs ws : List V}, TmsAt H ts vs → TmsAt H us ws → TmsAt H (ts ++ us) (vs ++ ws)
  | [], us, vs, ws, h, h' => by rw [h.inv_nil]; exact h'
  | t :: ts, us, vs, ws, h, h' => by
    obtain ⟨v, r, rfl, h2, h3⟩ := h.inv_cons
    exact .cons h2 (h3.append h')
theorem TmsAt.snoc {H : Hp} {ts : List Tm} {vs : List V} {t : Tm} {v : V} (h : TmsAt H ts vs) (h' : TmAt H t v) : TmsAt H (ts ++ [t]) (vs ++ [v]) := h.append (.cons h' .nil)
theorem TmsAt.take {H : Hp} : ∀ {ts : List Tm} {vs : List V} (n : Nat), TmsAt H ts vs → TmsAt H (ts.take n) (vs.take n)
  | _, _, 0, _ => by rw [List.take_zero, List.take_zero]; exact .nil
  | [], vs, n + 1, h => by rw [h.inv_nil, List.take_nil, List.take_nil]; exact .nil
  | t :: ts, vs, n + 1, h => by
    obtain ⟨v, r, rfl, h2, h3⟩ := h.inv_cons
    exact .cons h2 (h3.take n)
theorem TmsAt.drop {H : Hp} : ∀ {ts : List Tm} {vs : List V} (n : Nat), TmsAt H ts vs → TmsAt H (ts.drop n) (vs.drop n)
  | _, _, 0, h => h
  | [], vs, n + 1, h => by rw [h.inv_nil, List.drop_nil, List.drop_nil]; exact .nil
  | t :: ts, vs, n + 1, h => by
    obtain ⟨v, r, rfl, _, h3⟩ := h.inv_cons
    exact h3.drop n
theorem TmsAt.set {H : Hp} {t : Tm} {v : V} (h' : TmAt H t v) : ∀ {ts : List Tm} {vs : List V} (i : Nat), TmsAt H ts vs → TmsAt H (ts.set i t) (vs.set i v)
  | [], vs, i, h => by rw [h.inv_nil]; exact .nil
  | t0 :: ts, vs, 0, h => by
    obtain ⟨u, r, rfl, _, h3⟩ := h.inv_cons
    exact .cons h' h3
  | t0 :: ts, vs, i + 1, h => by
    obtain ⟨u, r, rfl, h2, h3⟩ := h.inv_cons
    exact .cons h2 (TmsAt.set h' i h3)
theorem TmsAt.erase {H : Hp} : ∀ {ts : List Tm} {vs : List V} (i : Nat), TmsAt H ts vs → TmsAt H (ts.eraseIdx i) (vs.eraseIdx i)
  | [], vs, i, h => by rw [h.inv_nil]; exact .nil
  | t0 :: ts, vs, 0, h => by
    obtain ⟨u, r, rfl, _, h3⟩ := h.inv_cons
    exact h3
  | t0 :: ts, vs, i + 1, h => by
    obtain ⟨u, r, rfl, h2, h3⟩ := h.inv_cons
    exact .cons h2 (h3.erase i)

/-! ### what stays -/
theorem same_upd {H : Hp} {p : Addr} (h : H p = none) (o : HO) : Same H (upd H p o) := fun b u q => by rw [upd_ne (ne_of_none q h)]; exact q
/-- all but what stands at a -/
def Sb (a : Addr) (H H' : Hp) : Prop := ∀ b o, b ≠ a → H b = some o → H' b = some o
theorem Sb.of {a : Addr} {H H' : Hp} (e : Same H H') : Sb a H H' := fun b o _ h => e b o h
theorem Sb.trans {a : Addr} {H H1 H2 : Hp} (e : Sb a H H1) (e' : Sb a H1 H2) : Sb a H H2 := fun b o n h => e' b o n (e b o n h)
theorem Sb.upd {a : Addr} {H : Hp} (o : HO) : Sb a H (upd H a o) := fun b u n h => by rw [upd_ne n]; exact h
theorem Sb.tups {a : Addr} {H H' : Hp} {xs : List V} (e : Sb a H H') (h : H a = some (.lst xs)) : Tups H H' := fun b ys h' => e b _ (ne_of h' h (by intro z; cases z)) h'
theorem tups_lst {H : Hp} {a : Addr} {xs ys : List V} (h : H a = some (.lst xs)) : Tups H (upd H a (.lst ys)) := (Sb.upd _).tups h

/-! ### short rules -/
section
variable {X : Cx}
theorem pe_imp {e : Expr} {t t' : TE} (h : PE X e t) (i : ∀ σ H Q, t' σ H Q → t σ H Q) : PE X e t' := ⟨fun pins s σ H Q I q => h.run pins s σ H Q I (i σ H Q q)⟩
theorem cut_one (y : V) (ys : List V) : cutV (y :: ys) (some 1) none = ys := by
  unfold cutV
  have e : HT.sIx (y :: ys).length 0 (some 1) = 1 := by
    have := HT.sIx_nat (y :: ys).length 0 1
    rw [List.length_cons] at this ⊢
    have q : ((1 : Nat) : Int) = 1 := rfl
    rw [q] at this
    rw [this]; omega
  rw [e, HT.sIx_none]
  simp
/-! t[1:] of a tuple that is not empty: [t] _, rfl, a, y, ys, rfl, rfl, rfl, SqT, fun p hp -/
theorem sl_tail : SlR X (fun x lo hi H Q => ∃ (a : Addr) (y : V) (ys : List V), x = .ref a ∧ lo = some 1 ∧ hi = none ∧ SqT X.K H a (y :: ys) ∧ ∀ p, H p = none → Q (.ref p) (upd H p (.tup ys))) := by
  intro pins s σ H x v vl vu lo hi sl Q I rx hs pl pu h
  obtain ⟨a, y, ys, rfl, rfl, rfl, hx, q⟩ := h
  refine sl_tup pins s σ H _ v vl vu _ _ sl Q I rx hs pl pu ⟨a, y :: ys, rfl, hx, ?_, fun p hp => by rw [cut_one]; exact q p hp⟩
  intro z
  have e : HT.sIx (y :: ys).length 0 (some 1) = 1 := by
    have := HT.sIx_nat (y :: ys).length 0 1
    rw [List.length_cons] at this ⊢
    have q : ((1 : Nat) : Int) = 1 := rfl
    rw [q] at this
    rw [this]; omega
  rw [e] at z
  exact absurd z.1 (by decide)
theorem pe_tail {e : Expr} {te : TE} {j : Nat} {p1 p2 pos : Pos} (he : PE X e te) : PE X (.Subscript e (.Slice (some (.Constant (.int 1) j p1)) none none p2) pos)
    (tSl (fun x lo hi H Q => ∃ (a : Addr) (y : V) (ys : List V), x = .ref a ∧ lo = some 1 ∧ hi = none ∧ SqT X.K H a (y :: ys) ∧ ∀ p, H p = none → Q (.ref p) (upd H p (.tup ys))) te (tPart (tC (.int 1))) tNoPart) :=
  pe_slice sl_tail he (po_some pe_int) po_none
/-! isinstance(x, int) of a term -/
def isVar : Tm → Bool
  | .var _ => true
  | .app _ _ => false
theorem kit_int_int {K : PySem.W.Frag} : PySem.W.kitOne K (.type "int") (.type "int") = some true := kit_ty (by decide +kernel)
theorem kit_tup_int {K : PySem.W.Frag} : PySem.W.kitOne K (.type "tuple") (.type "int") = some false := kit_ty (by decide +kernel)
theorem call_isint : CallR X (.builtin "isinstance") (fun xs H Q => ∃ (x : V) (t : Tm), xs = [x, .ty "int"] ∧ TmAt H t x ∧ Q (.bl (isVar t)) H) := by
  intro pins s σ H xs us Q I r h
  obtain ⟨x, t, rfl, ht, q⟩ := h
  cases t with
  | var n =>
    rw [ht.inv_var] at r
    exact call_isi pins s σ H _ us Q I r ⟨_, _, _, _, _, rfl, .ty _, .base (.int n), kit_int_int, q⟩
  | app f as =>
    obtain ⟨a, vs, e, e2, _⟩ := ht.inv_app
    rw [e] at r
    exact call_isi pins s σ H _ us Q I r ⟨_, _, _, _, _, rfl, .ty _, .base (.tup e2), kit_tup_int, q⟩
/-- isinstance(s, int) of a symbol -/
def syV : Sy → V
  | .v n => .int n
  | .nm s => .str s
def syInt : Sy → Bool
  | .v _ => true
  | .nm _ => false
theorem kit_str_int {K : PySem.W.Frag} : PySem.W.kitOne K (.type "str") (.type "int") = some false := kit_ty (by decide +kernel)
theorem call_isintS : CallR X (.builtin "isinstance") (fun xs H Q => ∃ y : Sy, xs = [syV y, .ty "int"] ∧ Q (.bl (syInt y)) H) := by
  intro pins s σ H xs us Q I r h
  obtain ⟨y, rfl, q⟩ := h
  cases y with
  | v n => exact call_isi pins s σ H _ us Q I r ⟨_, _, _, _, _, rfl, .ty _, .base (.int n), kit_int_int, q⟩
  | nm z => exact call_isi pins s σ H _ us Q I r ⟨_, _, _, _, _, rfl, .ty _, .base (.str z), kit_str_int, q⟩
end

/-! ### the text's facts -/
abbrev cv (b : Bool) : V := .bl b
end J

namespace J
open PySem L2
/-- a def of the text, where it stands and how it binds -/
structure Df (K : PySem.W.Frag) (mg : Str → Option Value) (x : Str) (st : Stmt) (ps : List Str) where
  a : Addr
  d : FuncData
  F : Fun K x x st a d
  B : Binds K d ps []
  M : mg x = some (.ref a)
/-- all that the top leaves and the law reaches -/
structure Txt (K : PySem.W.Frag) (mg : Str → Option Value) where
  g_is_variable : Df K mg "is_variable" (top 6) ["term"]
  g_size : Df K mg "size" (top 7) ["term"]
  g_depth : Df K mg "depth" (top 8) ["term"]
  g_check_size : Df K mg "check_size" (top 9) ["term"]
  g_symbols : Df K mg "symbols" (top 10) ["term"]
  g_compare_symbols : Df K mg "compare_symbols" (top 11) ["first", "second"]
  g_compare_terms : Df K mg "compare_terms" (top 12) ["first", "second"]
  g_insert_term : Df K mg "insert_term" (top 15) ["terms", "term"]
  g_flat_arguments : Df K mg "flat_arguments" (top 16) ["operations", "name", "term"]
  g_combined : Df K mg "combined" (top 17) ["operations", "term"]
  g_combined_form : Df K mg "combined_form" (top 18) ["operations", "term"]
  g_are_combined_alike : Df K mg "are_combined_alike" (top 19) ["operations", "first", "second"]
  gL_tells : Df K mg "_law_tells" (top 21) ["_law_actual", "_law_due"]
  gL_mix : Df K mg "_law_mix" (top 22) ["_law_cell"]
  gL_number : Df K mg "_law_number" (top 23) ["_law_cell"]
  gL_state : Df K mg "_law_state" (top 24) ["_law_script"]
  gL_draw : Df K mg "_law_draw" (top 25) ["_law_state_here", "_law_many"]
  gL_word : Df K mg "_law_word" (top 26) ["_law_state_here", "_law_size"]
  gL_names : Df K mg "_law_names" (top 27) ["_law_state_here", "_law_count"]
  gL_leaf : Df K mg "_law_leaf" (top 28) ["_law_state_here", "_law_operations", "_law_count"]
  gL_term : Df K mg "_law_term" (top 29) ["_law_state_here", "_law_operations", "_law_count", "_law_height"]
  gL_subterm : Df K mg "_law_subterm" (top 30) ["_law_term_here", "_law_position"]
  gL_replace : Df K mg "_law_replace" (top 31) ["_law_term_here", "_law_position", "_law_new"]
  gL_positions : Df K mg "_law_positions" (top 32) ["_law_term_here"]
  gL_same : Df K mg "_law_same" (top 33) ["_law_first", "_law_second"]
  gL_symbols : Df K mg "_law_symbols" (top 34) ["_law_term_here"]
  gL_compare : Df K mg "_law_compare" (top 35) ["_law_first", "_law_second"]
  gL_spoilt : Df K mg "_law_spoilt" (top 36) ["_law_state_here", "_law_operations", "_law_count", "_law_term_here"]
  gL_two : Df K mg "_law_two" (top 37) ["_law_state_here"]
  gL_flat : Df K mg "_law_flat" (top 38) ["_law_names_here", "_law_name", "_law_term_here"]
  gL_combined : Df K mg "_law_combined" (top 39) ["_law_names_here", "_law_term_here"]
  gL_moved : Df K mg "_law_moved" (top 40) ["_law_state_here", "_law_names_here", "_law_term_here"]
  g_law : Df K mg "law" (top 41) ["_law_script"]
  z_isinstance : mg "isinstance" = none
  z_int : mg "int" = none
  z_max : mg "max" = none
  z_zip : mg "zip" = none
  z_len : mg "len" = none
  z_range : mg "range" = none
  z_tuple : mg "tuple" = none
  z_list : mg "list" = none
  z_bool : mg "bool" = none
  z_str : mg "str" = none
  c_MAX_SIZE : ∃ t, mg "MAX_SIZE" = some (.int 400 t)
  c_MAX_DEPTH : ∃ t, mg "MAX_DEPTH" = some (.int 30 t)
  c_MOST_DEPTH : ∃ t, mg "MOST_DEPTH" = some (.int 30 t)
section
variable {P : Program} {w : World} {K : PySem.W.Frag} {mg : Str → Option Value} {base : Heap}
/-- a def keeps a promise -/
abbrev Keeps (P : Program) (w : World) {K : PySem.W.Frag} {mg : Str → Option Value} (base : Heap) {x : Str} {st : Stmt} {ps : List Str} (k : Nat) (D : Df K mg x st ps) (sp : Sp) : Prop := FnOk P w K mg base CX0 k D.a D.d ps sp
/-- a call of it -/
theorem pe_cl {X : Cx} {x : Str} {st : Stmt} {ps : List Str} {k : Nat} {sp : Sp} {e : Expr} {es : List Expr} {t : TA} {p pos : Pos} (D : Df X.K X.mg x st ps) (G : FnOk X.prog X.w X.K X.mg X.base CX0 k D.a D.d ps sp) (hr : Room k X.A)
    (ha : PA X (e :: es) t) (hg : Gl X x := by rfl) (hdb : (x == ("__debug__" : Str)) = false := by decide) (he : starEach (e :: es) X.env = (false, eval e X.env) :: starEach es X.env := by rfl) (hpl : (backTo pos (starEach es X.env)).any (·.1) = false := by rfl) :
    PE X (.Call (.Name x p) (e :: es) [] pos) (tCall sp [] E0 t) := pe_call G hr hg D.M D.F.kp D.B .nil pass0 ha hdb he hpl
/-- nothing is promised for any argument at level 0 -/
theorem no_call {f : Addr} {fd : FuncData} {ps : List Str} {sp : Sp} (no : ∀ vs H Q E, ¬ sp vs H Q E) : FnOk P w K mg base CX0 0 f fd ps sp :=
  ⟨fun vs H Q E h => absurd h (no vs H Q E), fun A outer s H args us vs Q E _ _ _ _ h => absurd h (no vs H Q E)⟩
end
end J

namespace J
open PySem L2
section
variable {P : Program} {w : World} {K : PySem.W.Frag} {mg : Str → Option Value} {base : Heap}

/-! ### is_variable -/
def spIsv : Sp := fun vs H Q _ => (∃ (v : V) (t : Tm), vs = [v] ∧ TmAt H t v ∧ Q (.bl (isVar t)) H) ∨ ∃ y : Sy, vs = [syV y] ∧ Q (.bl (syInt y)) H
theorem scIsv : FnScope ["term"] ["term"] (defScope (top 6)) := ⟨rfl, rfl, rfl, by decide +kernel, rfl, by decide +kernel, by decide +kernel⟩
theorem ok_isv (T : Txt K mg) : Keeps P w base 1 T.g_is_variable spIsv := by
  refine T.g_is_variable.F.ok scIsv (fun vs H Q E h => ?_) (fun cdv A outer s H vs Q E hr h => ?_)
  · rcases h with ⟨v, t, rfl, _⟩ | ⟨y, rfl, _⟩ <;> rfl
  refine ⟨_, pss_one (ps_ret (pe_callB (call_isint.or call_isintS) rfl T.z_isinstance PyProof.Rows.boot_isinstance (pa_cons (pv 0) (pa_cons (pe_bltn (v := .ty "int") rfl T.z_int PyProof.Rows.boot_int rfl) pa_nil)))), ?_⟩
  rcases h with ⟨v, t, rfl, ht, q⟩ | ⟨y, rfl, q⟩
  · exact ⟨v, rfl, .inl ⟨v, t, rfl, ht, q⟩⟩
  · exact ⟨syV y, rfl, .inr ⟨y, rfl, q⟩⟩

/-! ### size -/
def spSize (n : Nat) : Sp := fun vs H Q _ => ∃ (v : V) (t : Tm), vs = [v] ∧ TmAt H t v ∧ dep t ≤ n ∧ ∀ H', Same H H' → Q (.int (tsz t)) H'
theorem scSize : FnScope ["term", "total", "argument"] ["term"] (defScope (top 7)) := ⟨rfl, rfl, rfl, by decide +kernel, rfl, by decide +kernel, by decide +kernel⟩
theorem tszL_take : ∀ {ts : List Tm} {i : Nat} {t : Tm}, ts[i]? = some t → tszL (ts.take (i + 1)) = tszL (ts.take i) + tsz t
  | x :: r, 0, t, h => by
    have e : x = t := Option.some.inj h
    subst e
    simp [tszL]
  | x :: r, i + 1, t, h => by
    have ih := tszL_take (ts := r) (i := i) (by simpa using h)
    rw [List.take_succ_cons, List.take_succ_cons, tszL, tszL, ih]
    omega
theorem ok_size (T : Txt K mg) : ∀ n : Nat, Keeps P w base (n + 1) T.g_size (spSize n)
  | 0 => (no_call fun vs H Q E ⟨v, t, _, _, h, _⟩ => by have := dep_pos t; omega).mono (Nat.zero_le _)
  | n + 1 => by
    have ih := ok_size T n
    refine T.g_size.F.ok scSize (fun vs H Q E h => ?_) (fun cdv A outer s H vs Q E hr h => ?_)
    · obtain ⟨v, t, rfl, _⟩ := h
      rfl
    obtain ⟨v, t, rfl, ht, hd, q⟩ := h
    refine ⟨_, pss_cons (ps_if (pt_val (pe_cl T.g_is_variable (ok_isv T) (hr.mono (by omega)) (pa_cons (pv 0) pa_nil))) (pss_one (ps_ret pe_int)) pss_nil)
      (pss_cons (ps_set (i := 1) scSize.nd rfl (Or.inl rfl) pe_int)
      (pss_cons (ps_for PassesOwn.never rfl (pi_tup (pe_tail (pv 0))) (pg_name (i := 2) scSize.nd rfl (Or.inl rfl))
        (pss_one (ps_aug (i := 1) scSize.nd rfl (Or.inl rfl) (pe_cl T.g_size ih hr (pa_cons (pv 2) pa_nil)) ip_add)))
      (pss_one (ps_ret (pv 1))))), ?_⟩
    refine ⟨v, rfl, .inl ⟨v, t, rfl, ht, _, rfl, ?_⟩⟩
    cases t with
    | var m => exact iteT (q H (Same.refl H))
    | app f as =>
      refine iteF ?_
      obtain ⟨a, vs, rfl, ha, hs⟩ := ht.inv_app
      refine ⟨_, rfl, _, rfl, a, _, vs, rfl, rfl, rfl, SqT.of ha, fun p hp => ⟨p, rfl, ⟨_, SqT.of upd_same⟩, ?_⟩⟩
      refine for_tup (xs := vs) (fun i σ H2 => Same (upd H p (.tup vs)) H2 ∧ ∃ z, σ = [some (.ref a), some (.int (1 + tszL (as.take i))), z]) ⟨Same.refl _, none, rfl⟩ (fun i σ H2 _ h2 => SqT.of (h2.1 _ _ upd_same)) (fun i x σ H2 hx h2 => ?_) (fun σ H2 h2 => ?_)
      · obtain ⟨h2, z, rfl⟩ := h2
        obtain ⟨t, e1, e2⟩ := hs.at hx
        have hdt : dep t ≤ n := by
          have h3 := depL_mem (List.mem_of_getElem? e1)
          rw [dep] at hd
          omega
        refine ⟨_, rfl, x, rfl, x, t, rfl, e2.same (Same.trans (same_upd hp _) h2), hdt, fun H3 h3 => ⟨_, _, rfl, rfl, Same.trans h2 h3, some x, ?_⟩⟩
        rw [tszL_take e1]
        exact congrArg (fun k : Int => [some (V.ref a), some (.int k), some x]) (by dsimp only; omega)
      · obtain ⟨h2, z, rfl⟩ := h2
        refine ⟨_, rfl, ?_⟩
        have e : as.take vs.length = as := by rw [hs.len]; exact List.take_length
        have e2 : ((tsz (.app f as) : Nat) : Int) = 1 + tszL (as.take vs.length) := by rw [e, tsz]; omega
        have q' := q H2 (Same.trans (same_upd hp _) h2)
        rw [e2] at q'
        exact q'
end
end J

namespace J
open PySem L2
section
variable {P : Program} {w : World} {K : PySem.W.Frag} {mg : Str → Option Value} {base : Heap}

/-! ### depth -/
def spDep (n : Nat) : Sp := fun vs H Q _ => ∃ (v : V) (t : Tm), vs = [v] ∧ TmAt H t v ∧ dep t ≤ n ∧ ∀ H', Same H H' → Q (.int (dep t)) H'
theorem scDep : FnScope ["term", "deepest", "argument"] ["term"] (defScope (top 8)) := ⟨rfl, rfl, rfl, by decide +kernel, rfl, by decide +kernel, by decide +kernel⟩
theorem depL_take : ∀ {ts : List Tm} {i : Nat} {t : Tm}, ts[i]? = some t → depL (ts.take (i + 1)) = max (depL (ts.take i)) (dep t)
  | x :: r, 0, t, h => by
    have e : x = t := Option.some.inj h
    subst e
    simp [depL]
  | x :: r, i + 1, t, h => by
    have ih := depL_take (ts := r) (i := i) (by simpa using h)
    rw [List.take_succ_cons, List.take_succ_cons, depL, depL, ih]
    omega
theorem ok_dep (T : Txt K mg) : ∀ n : Nat, Keeps P w base (n + 1) T.g_depth (spDep n)
  | 0 => (no_call fun vs H Q E ⟨v, t, _, _, h, _⟩ => by have := dep_pos t; omega).mono (Nat.zero_le _)
  | n + 1 => by
    have ih := ok_dep T n
    refine T.g_depth.F.ok scDep (fun vs H Q E h => ?_) (fun cdv A outer s H vs Q E hr h => ?_)
    · obtain ⟨v, t, rfl, _⟩ := h
      rfl
    obtain ⟨v, t, rfl, ht, hd, q⟩ := h
    refine ⟨_, pss_cons (ps_if (pt_val (pe_cl T.g_is_variable (ok_isv T) (hr.mono (by omega)) (pa_cons (pv 0) pa_nil))) (pss_one (ps_ret pe_int)) pss_nil)
      (pss_cons (ps_set (i := 1) scDep.nd rfl (Or.inl rfl) pe_int)
      (pss_cons (ps_for PassesOwn.never rfl (pi_tup (pe_tail (pv 0))) (pg_name (i := 2) scDep.nd rfl (Or.inl rfl))
        (pss_one (ps_set (i := 1) scDep.nd rfl (Or.inl rfl) (pe_callB (call_max2 rfl) rfl T.z_max PyProof.Rows.boot_max (pa_cons (pv 1) (pa_cons (pe_cl T.g_depth ih hr (pa_cons (pv 2) pa_nil)) pa_nil))))))
      (pss_one (ps_ret (pe_op op_add pe_int (pv 1)))))), ?_⟩
    refine ⟨v, rfl, .inl ⟨v, t, rfl, ht, _, rfl, ?_⟩⟩
    cases t with
    | var m => exact iteT (q H (Same.refl H))
    | app f as =>
      refine iteF ?_
      obtain ⟨a, vs, rfl, ha, hs⟩ := ht.inv_app
      refine ⟨_, rfl, _, rfl, a, _, vs, rfl, rfl, rfl, SqT.of ha, fun p hp => ⟨p, rfl, ⟨_, SqT.of upd_same⟩, ?_⟩⟩
      refine for_tup (xs := vs) (fun i σ H2 => Same (upd H p (.tup vs)) H2 ∧ ∃ z, σ = [some (.ref a), some (.int (depL (as.take i))), z]) ⟨Same.refl _, none, rfl⟩ (fun i σ H2 _ h2 => SqT.of (h2.1 _ _ upd_same)) (fun i x σ H2 hx h2 => ?_) (fun σ H2 h2 => ?_)
      · obtain ⟨h2, z, rfl⟩ := h2
        obtain ⟨t, e1, e2⟩ := hs.at hx
        have hdt : dep t ≤ n := by
          have h3 := depL_mem (List.mem_of_getElem? e1)
          rw [dep] at hd
          omega
        refine ⟨_, rfl, x, rfl, x, t, rfl, e2.same (Same.trans (same_upd hp _) h2), hdt, fun H3 h3 => ⟨_, _, rfl, Same.trans h2 h3, some x, ?_⟩⟩
        rw [depL_take e1]
        refine congrArg (fun k : Int => [some (V.ref a), some (.int k), some x]) ?_
        split <;> omega
      · obtain ⟨h2, z, rfl⟩ := h2
        refine ⟨_, rfl, _, _, rfl, rfl, ?_⟩
        have e : as.take vs.length = as := by rw [hs.len]; exact List.take_length
        have e2 : ((dep (.app f as) : Nat) : Int) = 1 + depL (as.take vs.length) := by rw [e, dep]; omega
        have q' := q H2 (Same.trans (same_upd hp _) h2)
        rw [e2] at q'
        exact q'

/-! ### check_size, of a term within bounds -/
def spChk (n : Nat) : Sp := fun vs H Q _ => ∃ (v : V) (t : Tm), vs = [v] ∧ TmAt H t v ∧ dep t ≤ n ∧ dep t ≤ 30 ∧ tsz t ≤ 400 ∧ ∀ H', Same H H' → Q .non H'
theorem scChk : FnScope ["term"] ["term"] (defScope (top 9)) := ⟨rfl, rfl, rfl, by decide +kernel, rfl, by decide +kernel, by decide +kernel⟩
theorem ok_chk (T : Txt K mg) (n : Nat) : Keeps P w base (n + 2) T.g_check_size (spChk n) := by
  obtain ⟨t1, m1⟩ := T.c_MAX_DEPTH
  obtain ⟨t2, m2⟩ := T.c_MAX_SIZE
  refine T.g_check_size.F.ok scChk (fun vs H Q E h => ?_) (fun cdv A outer s H vs Q E hr h => ?_)
  · obtain ⟨v, t, rfl, _⟩ := h
    rfl
  obtain ⟨v, t, rfl, ht, hd, h30, h400, q⟩ := h
  refine ⟨_, pss_one (ps_if (PW.pt (pw_or (pt_cmpR op_gt (pe_cl T.g_depth (ok_dep T n) hr (pa_cons (pv 0) pa_nil)) (pe_glob (v := .int 30) rfl m1 ⟨_, rfl⟩) (nomark _))
    (pw_or1 (pt_cmpR op_gt (pe_cl T.g_size (ok_size T n) hr (pa_cons (pv 0) pa_nil)) (pe_glob (v := .int 400) rfl m2 ⟨_, rfl⟩) (nomark _))))) pss_never pss_nil), ?_⟩
  refine ⟨v, rfl, v, t, rfl, ht, hd, fun H1 h1 => ⟨_, _, rfl, rfl, _, rfl, ?_⟩⟩
  have e1 : decide ((30 : Int) < (dep t : Int)) = false := decide_eq_false (by omega)
  rw [e1]
  refine iteF ⟨v, rfl, v, t, rfl, ht.same h1, hd, fun H2 h2 => ⟨_, _, rfl, rfl, _, rfl, ?_⟩⟩
  have e2 : decide ((400 : Int) < (tsz t : Int)) = false := decide_eq_false (by omega)
  rw [e2]
  exact iteF (q H2 (Same.trans h1 h2))

/-! ### symbols -/
theorem same_at {H H2 : Hp} {l : Addr} (e : Same H H2) (h : H l = none) (o : HO) : Same H (upd H2 l o) := fun b u q => by
  rw [upd_ne (ne_of_none q h)]
  exact e b u q
def spSym (n : Nat) : Sp := fun vs H Q _ => ∃ (v : V) (t : Tm), vs = [v] ∧ TmAt H t v ∧ dep t ≤ n ∧ tsz t ≤ 1000 ∧ ∀ r H', Same H H' → H' r = some (.lst ((symb t).map syV)) → Q (.ref r) H'
theorem scSym : FnScope ["term", "found", "argument"] ["term"] (defScope (top 10)) := ⟨rfl, rfl, rfl, by decide +kernel, rfl, by decide +kernel, by decide +kernel⟩
theorem symbL_take : ∀ {ts : List Tm} {i : Nat} {t : Tm}, ts[i]? = some t → symbL (ts.take (i + 1)) = symbL (ts.take i) ++ symb t
  | x :: r, 0, t, h => by
    have e : x = t := Option.some.inj h
    subst e
    simp [symbL]
  | x :: r, i + 1, t, h => by
    have ih := symbL_take (ts := r) (i := i) (by simpa using h)
    rw [List.take_succ_cons, List.take_succ_cons, symbL, symbL, ih, List.append_assoc]
theorem tszL_le_take : ∀ (ts : List Tm) (i : Nat), tszL (ts.take i) ≤ tszL ts
  | [], i => by simp
  | x :: r, 0 => by simp [tszL]
  | x :: r, i + 1 => by
    have := tszL_le_take r i
    rw [List.take_succ_cons, tszL, tszL]
    omega
theorem line1000 {n : Nat} (h : n ≤ 1000) : n ≤ sizeLine := Nat.le_of_lt (small1000 h)
theorem ok_sym (T : Txt K mg) : ∀ n : Nat, Keeps P w base (n + 1) T.g_symbols (spSym n)
  | 0 => (no_call fun vs H Q E ⟨v, t, _, _, h, _⟩ => by have := dep_pos t; omega).mono (Nat.zero_le _)
  | n + 1 => by
    have ih := ok_sym T n
    refine T.g_symbols.F.ok scSym (fun vs H Q E h => ?_) (fun cdv A outer s H vs Q E hr h => ?_)
    · obtain ⟨v, t, rfl, _⟩ := h
      rfl
    obtain ⟨v, t, rfl, ht, hd, hz, q⟩ := h
    refine ⟨_, pss_cons (ps_if (pt_val (pe_cl T.g_is_variable (ok_isv T) (hr.mono (by omega)) (pa_cons (pv 0) pa_nil))) (pss_one (ps_ret (pe_lst (pa_cons (pv 0) pa_nil)))) pss_nil)
      (pss_cons (ps_set (i := 1) scSym.nd rfl (Or.inl rfl) (pe_lst (pa_cons (pe_ix ix_tup (pv 0) pe_int (fun _ _ => rfl)) pa_nil)))
      (pss_cons (ps_for PassesOwn.never rfl (pi_tup (pe_tail (pv 0))) (pg_name (i := 2) scSym.nd rfl (Or.inl rfl))
        (pss_one (ps_expr (pe_bm PySem.F.plainAttrs_list PySem.F.slot_list_extend PySem.F.type_list_extend mt_extend (pv 1) (pa_cons (pe_cl T.g_symbols ih hr (pa_cons (pv 2) pa_nil)) pa_nil)))))
      (pss_one (ps_ret (pv 1))))), ?_⟩
    refine ⟨v, rfl, .inl ⟨v, t, rfl, ht, _, rfl, ?_⟩⟩
    cases t with
    | var m =>
      refine iteT ⟨v, rfl, (by show 1 ≤ sizeLine; decide), fun r hr' => q r _ (same_upd hr' _) ?_⟩
      rw [upd_same, ht.inv_var]
      rfl
    | app f as =>
      refine iteF ?_
      obtain ⟨a, vs, rfl, ha, hs⟩ := ht.inv_app
      refine ⟨_, rfl, a, _, 0, .str f, rfl, rfl, SqT.of ha, atI_nat (j := 0) rfl, (by show 1 ≤ sizeLine; decide), fun l hl => ?_⟩
      have e1 : Same H (upd H l (.lst [.str f])) := same_upd hl _
      refine ⟨_, rfl, _, rfl, a, _, vs, rfl, rfl, rfl, SqT.of (e1 _ _ ha), fun p hp => ⟨p, rfl, ⟨_, SqT.of upd_same⟩, ?_⟩⟩
      have hpl : p ≠ l := fun z => by rw [z, upd_same] at hp; cases hp
      refine for_tup (xs := vs) (fun i σ H2 => Same H H2 ∧ H2 p = some (.tup vs) ∧ H2 l = some (.lst (V.str f :: (symbL (as.take i)).map syV)) ∧ ∃ z, σ = [some (.ref a), some (.ref l), z])
        ⟨Same.trans e1 (same_upd hp _), upd_same, by rw [upd_ne (Ne.symm hpl), upd_same]; rfl, none, rfl⟩ (fun i σ H2 _ h2 => SqT.of h2.2.1) (fun i x σ H2 hx h2 => ?_) (fun σ H2 h2 => ?_)
      · obtain ⟨h2, h2p, h2l, z, rfl⟩ := h2
        obtain ⟨t, e1, e2⟩ := hs.at hx
        have hdt : dep t ≤ n := by
          have h3 := depL_mem (List.mem_of_getElem? e1)
          rw [dep] at hd
          omega
        have hzt : tszL (as.take (i + 1)) ≤ 1000 := by
          have h3 := tszL_le_take as (i + 1)
          rw [tsz] at hz
          omega
        rw [tszL_take e1] at hzt
        refine ⟨_, rfl, .inl ⟨rfl, _, SqL.of h2l⟩, x, rfl, x, t, rfl, e2.same h2, hdt, by omega, fun r H3 h3 hr3 => ?_⟩
        refine ⟨l, r, _, _, rfl, rfl, h3 _ _ h2l, hr3, ?_, ?_⟩
        · simp only [List.length_cons, List.length_map, symbL_len, symb_len]
          exact Nat.le_trans (m := 1002) (by omega) (by decide)
        · refine ⟨same_at (Same.trans h2 h3) hl _, ?_, ?_, some x, rfl⟩
          · rw [upd_ne hpl]; exact h3 _ _ h2p
          · rw [upd_same, symbL_take e1, List.map_append]
            rfl
      · obtain ⟨h2, h2p, h2l, z, rfl⟩ := h2
        refine ⟨_, rfl, q l H2 h2 ?_⟩
        have e : as.take vs.length = as := by rw [hs.len]; exact List.take_length
        rw [e] at h2l
        rw [h2l, symb]
        rfl
end
end J

namespace J
open PySem L2
section
variable {P : Program} {w : World} {K : PySem.W.Frag} {mg : Str → Option Value} {base : Heap}

/-! ### compare_symbols -/
theorem syV_inj : ∀ {x y : Sy}, syV x = syV y → x = y
  | .v a, .v b, h => by cases h; rfl
  | .v a, .nm b, h => by cases h
  | .nm a, .v b, h => by cases h
  | .nm a, .nm b, h => by cases h; rfl
theorem sy_scal : ∀ x y : Sy, scal (syV x) (syV y) = true
  | .v _, .v _ => rfl
  | .v _, .nm _ => rfl
  | .nm _, .v _ => rfl
  | .nm _, .nm _ => rfl
def spCs : Sp := fun vs H Q _ => ∃ x y : Sy, vs = [syV x, syV y] ∧ Q (.int (symc x y)) H
theorem scCs : FnScope ["first", "second"] ["first", "second"] (defScope (top 11)) := ⟨rfl, rfl, rfl, by decide +kernel, rfl, by decide +kernel, by decide +kernel⟩
/-- < of two symbols of one kind -/
theorem op_ltS {X : Cx} : OpR X (compareOp .Lt) (fun x y H Q => ∃ a b : Sy, x = syV a ∧ y = syV b ∧ syInt a = syInt b ∧ Q (.bl (sylt a b)) H) := by
  intro pins s σ H x y v u Q I rx ry h
  obtain ⟨a, b, rfl, rfl, hk, q⟩ := h
  match a, b, hk with
  | .v i, .v j, _ => exact op_lt pins s σ H _ _ v u Q I rx ry ⟨i, j, rfl, rfl, q⟩
  | .nm i, .nm j, _ => exact op_lt_str pins s σ H _ _ v u Q I rx ry ⟨i, j, rfl, rfl, q⟩
theorem ok_cs (T : Txt K mg) : Keeps P w base 2 T.g_compare_symbols spCs := by
  refine T.g_compare_symbols.F.ok scCs (fun vs H Q E h => ?_) (fun cdv A outer s H vs Q E hr h => ?_)
  · obtain ⟨x, y, rfl, _⟩ := h
    rfl
  obtain ⟨x, y, rfl, q⟩ := h
  have isv := ok_isv (P := P) (w := w) (base := base) T
  refine ⟨_, pss_cons (ps_if (pt_cmpR op_ne (pe_cl T.g_is_variable isv hr (pa_cons (pv 0) pa_nil)) (pe_cl T.g_is_variable isv hr (pa_cons (pv 1) pa_nil)) (nomark _))
      (pss_one (ps_ret (pe_ifExp (pt_val (pe_cl T.g_is_variable isv hr (pa_cons (pv 0) pa_nil))) (pe_un un_neg pe_int) pe_int))) pss_nil)
    (pss_one (ps_ret (pe_ifExp (pt_cmpR op_ltS (pv 0) (pv 1) (nomark _)) (pe_un un_neg pe_int) pe_int))), ?_⟩
  refine ⟨_, rfl, .inr ⟨x, rfl, _, rfl, .inr ⟨y, rfl, rfl, _, rfl, ?_⟩⟩⟩
  by_cases e : syInt x = syInt y
  · rw [e, decide_eq_true rfl]
    refine iteF ⟨_, rfl, _, rfl, x, y, rfl, rfl, e, _, rfl, ?_⟩
    cases c : sylt x y with
    | true =>
      refine iteT ⟨_, rfl, ?_⟩
      rw [symc, c] at q
      exact q
    | false =>
      refine iteF ?_
      rw [symc, c] at q
      exact q
  · have e' : decide (V.bl (syInt x) = V.bl (syInt y)) = false := decide_eq_false fun z => e (V.bl.inj z)
    rw [e']
    refine iteT ⟨_, rfl, .inr ⟨x, rfl, _, rfl, ?_⟩⟩
    match x, y, e, q with
    | .v _, .nm _, _, q => exact iteT ⟨_, rfl, q⟩
    | .nm _, .v _, _, q => exact iteF q
    | .v _, .v _, e, _ => exact absurd rfl e
    | .nm _, .nm _, e, _ => exact absurd rfl e

/-! ### compare_terms -/
def spCmp (n : Nat) : Sp := fun vs H Q _ => ∃ (v v' : V) (t t' : Tm), vs = [v, v'] ∧ TmAt H t v ∧ TmAt H t' v' ∧ (dep t ≤ n ∧ dep t' ≤ n) ∧ (tsz t ≤ 1000 ∧ tsz t' ≤ 1000) ∧ ∀ H', Same H H' → Q (.int (cmp t t')) H'
theorem scCmp : FnScope ["first", "second", "first_size", "second_size", "one", "other"] ["first", "second"] (defScope (top 12)) := ⟨rfl, rfl, rfl, by decide +kernel, rfl, by decide +kernel, by decide +kernel⟩
theorem lexc_step {xs ys : List Sy} {i : Nat} {x y : Sy} (hx : xs[i]? = some x) (hy : ys[i]? = some y) : lexc (xs.drop i) (ys.drop i) = if x = y then lexc (xs.drop (i + 1)) (ys.drop (i + 1)) else symc x y := by
  obtain ⟨h1, e1⟩ := List.getElem?_eq_some_iff.mp hx
  obtain ⟨h2, e2⟩ := List.getElem?_eq_some_iff.mp hy
  rw [List.drop_eq_getElem_cons h1, List.drop_eq_getElem_cons h2, e1, e2, lexc]
theorem map_at {xs : List Sy} {i : Nat} {v : V} (h : (xs.map syV)[i]? = some v) : ∃ x, xs[i]? = some x ∧ v = syV x := by
  rw [List.getElem?_map] at h
  cases e : xs[i]? with
  | none => rw [e] at h; cases h
  | some x => rw [e] at h; exact ⟨x, rfl, (Option.some.inj h).symm⟩
theorem ok_cmp (T : Txt K mg) (n : Nat) : Keeps P w base (n + 4) T.g_compare_terms (spCmp n) := by
  refine T.g_compare_terms.F.ok scCmp (fun vs H Q E h => ?_) (fun cdv A outer s H vs Q E hr h => ?_)
  · obtain ⟨v, v', t, t', rfl, _⟩ := h
    rfl
  obtain ⟨v, v', t, t', rfl, ht, ht', ⟨hd, hd'⟩, ⟨hz, hz'⟩, q⟩ := h
  refine ⟨_, pss_cons (ps_set (i := 2) scCmp.nd rfl (Or.inl rfl) (pe_cl T.g_size (ok_size T n) (hr.mono (by omega)) (pa_cons (pv 0) pa_nil)))
    (pss_cons (ps_set (i := 3) scCmp.nd rfl (Or.inl rfl) (pe_cl T.g_size (ok_size T n) (hr.mono (by omega)) (pa_cons (pv 1) pa_nil)))
    (pss_cons (ps_if (pt_cmpR op_ne (pv 2) (pv 3) (nomark _)) (pss_one (ps_ret (pe_ifExp (pt_cmpR op_lt (pv 2) (pv 3) (nomark _)) (pe_un un_neg pe_int) pe_int))) pss_nil)
    (pss_cons (ps_for PassesOwn.never rfl (pi_zip rfl T.z_zip (pa_cons (pe_cl T.g_symbols (ok_sym T n) (hr.mono (by omega)) (pa_cons (pv 0) pa_nil)) (pa_cons (pe_cl T.g_symbols (ok_sym T n) (hr.mono (by omega)) (pa_cons (pv 1) pa_nil)) pa_nil)))
        (pg_tup rfl (pgs_cons (pg_name (i := 4) scCmp.nd rfl (.inl rfl)) (pgs_cons (pg_name (i := 5) scCmp.nd rfl (.inl rfl)) pgs_nil)))
      (pss_one (ps_if (pt_cmpR op_ne (pv 4) (pv 5) (nomark _)) (pss_one (ps_ret (pe_cl T.g_compare_symbols (ok_cs T) (hr.mono (by omega)) (pa_cons (pv 4) (pa_cons (pv 5) pa_nil))))) pss_nil)))
    (pss_one (ps_ret pe_int))))), ?_⟩
  refine ⟨v, rfl, v, t, rfl, ht, hd, fun H1 h1 => ⟨v', rfl, v', t', rfl, ht'.same h1, hd', fun H2 h2 => ?_⟩⟩
  have s2 := Same.trans h1 h2
  refine ⟨_, rfl, _, rfl, rfl, _, rfl, ?_⟩
  by_cases e : tsz t = tsz t'
  · rw [e, decide_eq_true rfl]
    refine iteF ?_
    refine ⟨v, rfl, v, t, rfl, ht.same s2, hd, hz, fun a H3 h3 ha => ⟨v', rfl, v', t', rfl, (ht'.same s2).same h3, hd', hz', fun b H4 h4 hb => ?_⟩⟩
    have ha4 := h4 _ _ ha
    have hl : (symb t).length = (symb t').length := by rw [symb_len, symb_len, e]
    refine ⟨a, b, _, _, rfl, SqL.of ha4, SqL.of hb, ?_⟩
    have qq : ∀ H', Same H4 H' → Q (.int (lexc (symb t) (symb t'))) H' := fun H' h' => by
      have q' := q H' (Same.trans s2 (Same.trans h3 (Same.trans h4 h')))
      rw [cmp, if_neg (by simp [e])] at q'
      exact q'
    refine RZ.for_zipL (by rw [List.length_map, List.length_map, hl]) (fun i σ H5 => Same H4 H5 ∧ lexc (symb t) (symb t') = lexc ((symb t).drop i) ((symb t').drop i) ∧ ∃ z z', σ = [some v, some v', some (.int (tsz t)), some (.int (tsz t')), z, z'])
      ⟨Same.refl _, rfl, none, none, by rw [e]; rfl⟩ (fun i σ H5 h5 => ⟨SqL.of (h5.1 _ _ ha4), SqL.of (h5.1 _ _ hb)⟩) (fun i x y p σ H5 hx hy h5 hp => ?_) (fun σ H5 h5 => ?_)
    · obtain ⟨h5, el, z, z', rfl⟩ := h5
      obtain ⟨x, ex, rfl⟩ := map_at hx
      obtain ⟨y, ey, rfl⟩ := map_at hy
      have s5 := Same.trans h5 (same_upd hp (.tup [syV x, syV y]))
      refine ⟨p, _, rfl, SqT.of upd_same, rfl, syV x, [syV y], rfl, syV y, [], rfl, rfl, syV x, rfl, syV y, rfl, sy_scal x y, _, rfl, ?_⟩
      rw [lexc_step ex ey] at el
      by_cases c : x = y
      · rw [if_pos c] at el
        have c' : decide (syV x = syV y) = true := decide_eq_true (by rw [c])
        rw [c']
        exact iteF ⟨s5, el, _, _, rfl⟩
      · rw [if_neg c] at el
        have c' : decide (syV x = syV y) = false := decide_eq_false fun z => c (syV_inj z)
        rw [c']
        refine iteT ⟨syV x, rfl, syV y, rfl, x, y, rfl, ?_⟩
        have q' := qq _ s5
        rw [el] at q'
        exact q'
    · obtain ⟨h5, el, z, z', rfl⟩ := h5
      have q' := qq _ h5
      have e0 : (symb t).drop ((symb t).map syV).length = [] := by rw [List.length_map, List.drop_length]
      rw [el, e0] at q'
      exact q'
  · have e' : decide (V.int (tsz t) = V.int (tsz t')) = false := decide_eq_false fun z => e (by have := V.int.inj z; omega)
    rw [e']
    refine iteT ⟨_, rfl, _, rfl, _, _, rfl, rfl, _, rfl, ?_⟩
    have q' := q H2 s2
    rw [cmp, if_pos e] at q'
    by_cases c : tsz t < tsz t'
    · rw [if_pos c] at q'
      rw [decide_eq_true (show ((tsz t : Nat) : Int) < (tsz t' : Nat) by omega)]
      exact iteT ⟨_, rfl, q'⟩
    · rw [if_neg c] at q'
      rw [decide_eq_false (show ¬ ((tsz t : Nat) : Int) < (tsz t' : Nat) by omega)]
      exact iteF q'

/-! ### insert_term -/
def spIns (n : Nat) : Sp := fun vs H Q _ => ∃ (l : Addr) (xs : List V) (ts : List Tm) (v : V) (t : Tm), vs = [.ref l, v] ∧ H l = some (.lst xs) ∧ TmsAt H ts xs ∧ TmAt H t v ∧ (dep t ≤ n ∧ ∀ u ∈ ts, dep u ≤ n) ∧ (tsz t ≤ 1000 ∧ ∀ u ∈ ts, tsz u ≤ 1000) ∧ ts.length ≤ 1000 ∧
  ∀ H' ys, Sb l H H' → H' l = some (.lst ys) → TmsAt H' (ins t ts) ys → Q .non H'
theorem scIns : FnScope ["terms", "term", "place"] ["terms", "term"] (defScope (top 15)) := ⟨rfl, rfl, rfl, by decide +kernel, rfl, by decide +kernel, by decide +kernel⟩
theorem ins_end {t : Tm} {ts : List Tm} {i : Nat} (h : ∀ j u, j < i → ts[j]? = some u → cmp u t ≤ 0) (e : ts.length ≤ i ∨ ∃ u, ts[i]? = some u ∧ ¬ cmp u t ≤ 0) : ts.take i ++ [t] ++ ts.drop i = ins t ts := by
  induction ts generalizing i with
  | nil => simp [ins]
  | cons x r ih =>
    cases i with
    | zero =>
      rcases e with e | ⟨u, e1, e2⟩
      · simp at e
      · have e1 : x = u := Option.some.inj e1
        subst e1
        simp [ins, e2]
    | succ i =>
      have c := h 0 x (Nat.succ_pos i) rfl
      rw [ins, if_pos c, List.take_succ_cons, List.drop_succ_cons, List.cons_append, List.cons_append]
      rw [ih (fun j u hj hu => h (j + 1) u (by omega) (by simpa using hu)) ?_]
      rcases e with e | ⟨u, e1, e2⟩
      · exact .inl (by simpa using e)
      · exact .inr ⟨u, by simpa using e1, e2⟩
theorem ok_ins (T : Txt K mg) (n : Nat) : Keeps P w base (n + 5) T.g_insert_term (spIns n) := by
  refine T.g_insert_term.F.ok scIns (fun vs H Q E h => ?_) (fun cdv A outer s H vs Q E hr h => ?_)
  · obtain ⟨l, xs, ts, v, t, rfl, _⟩ := h
    rfl
  obtain ⟨l, xs, ts, v, t, rfl, hl, hts, ht, ⟨hd, hds⟩, ⟨hz, hzs⟩, hn, q⟩ := h
  refine ⟨_, pss_cons (ps_set (i := 2) scIns.nd rfl (Or.inl rfl) pe_int)
    (pss_cons (ps_while PassesOwn.never (PW.pt (pw_and (pt_cmpR op_lt (pv 2) (pe_callB call_len_seq rfl T.z_len PySem.boot_len (pa_cons (pv 0) pa_nil)) (nomark _))
        (pw_and1 (pt_cmpR op_le (pe_cl T.g_compare_terms (ok_cmp T n) hr (pa_cons (pe_ix ix_list (pv 0) (pv 2) (fun _ _ => rfl)) (pa_cons (pv 1) pa_nil))) pe_int (nomark _)))))
      (pss_one (ps_aug (i := 2) scIns.nd rfl (Or.inl rfl) pe_int ip_add)))
    (pss_one (ps_expr (pe_bm PySem.F.plainAttrs_list PySem.F.slot_list_insert PySem.F.type_list_insert mt_insert (pv 0) (pa_cons (pv 2) (pa_cons (pv 1) pa_nil)))))), ?_⟩
  have hlen := hts.len
  -- the place is found
  have fin : ∀ (i : Nat) (H2 : Hp), Same H H2 → i ≤ ts.length → (∀ j u, j < i → ts[j]? = some u → cmp u t ≤ 0) → (ts.length ≤ i ∨ ∃ u, ts[i]? = some u ∧ ¬ cmp u t ≤ 0) → Q .non (upd H2 l (.lst (xs.take i ++ [v] ++ xs.drop i))) := by
    intro i H2 h2 hi ha he
    have tu : Tups H2 (upd H2 l (.lst (xs.take i ++ [v] ++ xs.drop i))) := tups_lst (h2 _ _ hl)
    refine q _ _ (Sb.trans (.of h2) (.upd _)) upd_same ?_
    rw [← ins_end ha he]
    exact (((hts.same h2).take i).append (.cons (ht.same h2) .nil)).append ((hts.same h2).drop i) |>.mono tu
  refine ⟨fun m σ H2 => ∃ i : Nat, i ≤ ts.length ∧ m = ts.length - i ∧ Same H H2 ∧ σ = [some (.ref l), some v, some (.int i)] ∧ ∀ j u, j < i → ts[j]? = some u → cmp u t ≤ 0, ⟨ts.length, 0, Nat.zero_le _, rfl, Same.refl H, rfl, fun j u hj => absurd hj (Nat.not_lt_zero j)⟩, ?_⟩
  rintro m σ H2 ⟨i, hi, rfl, h2, rfl, ha⟩
  have hl2 := h2 _ _ hl
  refine ⟨_, rfl, _, rfl, l, xs, rfl, .inl (SqL.of hl2), _, _, rfl, rfl, _, rfl, ?_⟩
  by_cases c : i < ts.length
  · have ex : ts[i]? = some ts[i] := List.getElem?_eq_getElem c
    obtain ⟨x, hx, hxt⟩ := hts.get ex
    rw [decide_eq_true (show (i : Int) < (xs.length : Nat) by omega)]
    refine iteT ⟨_, rfl, _, rfl, l, xs, _, x, rfl, rfl, SqL.of hl2, atI_nat hx, _, rfl, x, v, ts[i], t, rfl, hxt.same h2, ht.same h2, ⟨hds _ (List.getElem_mem c), hd⟩, ⟨hzs _ (List.getElem_mem c), hz⟩, fun H3 h3 => ⟨_, _, rfl, rfl, _, rfl, ?_⟩⟩
    by_cases k : cmp ts[i] t ≤ 0
    · rw [decide_eq_true k]
      refine iteT ⟨fun σ' H' => σ' = [some (.ref l), some v, some (.int ((i + 1 : Nat) : Int))] ∧ Same H H', fun σ' H' hN => ⟨ts.length - (i + 1), by omega, i + 1, c, rfl, hN.2, hN.1, fun j u hj hu => ?_⟩, _, rfl, _, _, rfl, rfl, ?_, Same.trans h2 h3⟩
      · by_cases z : j = i
        · subst z
          rw [ex] at hu
          cases hu
          exact k
        · exact ha j u (by omega) hu
      · rfl
    · rw [decide_eq_false k]
      refine iteF ⟨_, rfl, .inl ⟨rfl, _, SqL.of (h3 _ _ hl2)⟩, _, rfl, _, rfl, l, xs, _, v, rfl, rfl, h3 _ _ hl2, ?_, by omega, by omega, ?_⟩
      · exact small1000 (by omega)
      · exact fin i H3 (Same.trans h2 h3) hi ha (.inr ⟨_, ex, k⟩)
  · rw [decide_eq_false (show ¬ (i : Int) < (xs.length : Nat) by omega)]
    refine iteF (iteF ⟨_, rfl, .inl ⟨rfl, _, SqL.of hl2⟩, _, rfl, _, rfl, l, xs, _, v, rfl, rfl, hl2, ?_, by omega, by omega, ?_⟩)
    · exact small1000 (by omega)
    · exact fin i H2 h2 hi ha (.inl (by omega))
end
end J

namespace J
open PySem L2

/-! ### small facts -/
theorem same_sb {l : Addr} {H H2 H3 : Hp} (e : Same H H2) (hl : H l = none) (s : Sb l H2 H3) : Same H H3 := fun b o h => s b o (ne_of_none h hl) (e b o h)
theorem foldl_take {ts : List Tm} {i : Nat} {t : Tm} (h : ts[i]? = some t) : (ts.take (i + 1)).foldl (fun acc x => ins x acc) [] = ins t ((ts.take i).foldl (fun acc x => ins x acc) []) := by
  rw [List.take_succ, h, Option.toList_some, List.foldl_append]
  rfl
section
variable {ar : Str → Nat} {ops : List Str} (S : Sig ar ops)
include S
theorem small_tm {u : Tm} (h : ok ar u) (hi : inn u ≤ 14) : dep u ≤ 30 ∧ tsz u ≤ 1000 ∧ tsz u ≤ 400 ∧ dep u ≤ 15 := by
  have h1 := dep_le u
  have h2 := tsz_le S.three u h
  omega
end
/-- the names of the list, the operations, as they lie -/
def OpsAt (H : Hp) (l : Addr) (ops : List Str) : Prop := H l = some (.lst (ops.map V.str))
theorem inV_ops (f : Str) : ∀ ops : List Str, inV (V.str f) (ops.map V.str) = decide (f ∈ ops)
  | [] => rfl
  | g :: r => by
    have ih := inV_ops f r
    unfold inV at ih ⊢
    rw [List.map_cons, List.any_cons, ih]
    have e : eqV (V.str g) (V.str f) = decide (f = g) := by
      show (g == f) = decide (f = g)
      by_cases c : f = g
      · rw [decide_eq_true c, c]; exact beq_self_eq_true g
      · rw [decide_eq_false c]; exact beq_eq_false_iff_ne.mpr (Ne.symm c)
    rw [e]
    by_cases c : f = g
    · simp [c]
    · simp [c]
theorem flat_ops (ops : List Str) : (ops.map V.str).all flatV = true := by
  rw [List.all_eq_true]
  intro x hx
  obtain ⟨z, _, rfl⟩ := List.mem_map.mp hx
  rfl
section
variable {P : Program} {w : World} {K : PySem.W.Frag} {mg : Str → Option Value} {base : Heap}

/-! ### flat_arguments -/
def spComb (ops : List Str) (Sc : Tm → Prop) : Sp := fun vs H Q _ => ∃ (l : Addr) (v : V) (t : Tm), vs = [.ref l, v] ∧ OpsAt H l ops ∧ TmAt H t v ∧ Sc t ∧ ∀ H' r, Same H H' → TmAt H' (comb ops t) r → Q r H'
def spFlat (ops : List Str) (Sf : Str → Tm → Prop) : Sp := fun vs H Q _ => ∃ (l : Addr) (f : Str) (v : V) (t : Tm), vs = [.ref l, .str f, v] ∧ OpsAt H l ops ∧ TmAt H t v ∧ Sf f t ∧
  ∀ H' p xs, Same H H' → H p = none → H' p = some (.lst xs) → TmsAt H' (flat ops f t) xs → Q (.ref p) H'
/-- what may be asked of flat_arguments one call further -/
def SfN (ar : Str → Nat) (ops : List Str) (Sc : Tm → Prop) (Sf : Str → Tm → Prop) (f : Str) (t : Tm) : Prop :=
  f ∈ ops ∧ ok ar t ∧ inn t ≤ 14 ∧ ((∀ as, t = .app f as → ∀ a ∈ as, Sf f a) ∧ ((∀ as, t ≠ .app f as) → Sc t))
/-- .. of combined -/
def ScN (ar : Str → Nat) (ops : List Str) (Sc : Tm → Prop) (Sf : Str → Tm → Prop) (t : Tm) : Prop :=
  ok ar t ∧ inn t ≤ 14 ∧ ∀ f as, t = .app f as → (f ∈ ops → Sf f t) ∧ (¬ f ∈ ops → ∀ a ∈ as, Sc a)
theorem scFlat : FnScope ["operations", "name", "term"] ["operations", "name", "term"] (defScope (top 16)) := ⟨rfl, rfl, rfl, by decide +kernel, rfl, by decide +kernel, by decide +kernel⟩
theorem ok_flat {ar : Str → Nat} {ops : List Str} (S : Sig ar ops) {Sc : Tm → Prop} {Sf : Str → Tm → Prop} (T : Txt K mg) {j : Nat} (C : Keeps P w base j T.g_combined (spComb ops Sc)) (G : Keeps P w base j T.g_flat_arguments (spFlat ops Sf)) :
    Keeps P w base (j + 1) T.g_flat_arguments (spFlat ops (SfN ar ops Sc Sf)) := by
  refine T.g_flat_arguments.F.ok scFlat (fun vs H Q E h => ?_) (fun cdv A outer s H vs Q E hr h => ?_)
  · obtain ⟨l, f, v, t, rfl, _⟩ := h
    rfl
  obtain ⟨l, f, v, t, rfl, hl, ht, ⟨hf, ho, hi, hs⟩, q⟩ := h
  refine ⟨_, pss_cons (ps_if (PW.pt (pw_or (pt_val (pe_callB call_isint rfl T.z_isinstance PyProof.Rows.boot_isinstance (pa_cons (pv 2) (pa_cons (pe_bltn (v := .ty "int") rfl T.z_int PyProof.Rows.boot_int rfl) pa_nil))))
        (pw_or1 (pt_cmpR op_ne (pe_ix ix_tup (pv 2) pe_int (fun _ _ => rfl)) (pv 1) (nomark _)))))
      (pss_one (ps_ret (pe_lst (pa_cons (pe_cl T.g_combined C hr (pa_cons (pv 0) (pa_cons (pv 2) pa_nil))) pa_nil)))) pss_nil)
    (pss_one (ps_ret (pe_op op_cat (pe_cl T.g_flat_arguments G hr (pa_cons (pv 0) (pa_cons (pv 1) (pa_cons (pe_ix ix_tup (pv 2) pe_int (fun _ _ => rfl)) pa_nil))))
      (pe_cl T.g_flat_arguments G hr (pa_cons (pv 0) (pa_cons (pv 1) (pa_cons (pe_ix ix_tup (pv 2) pe_int (fun _ _ => rfl)) pa_nil))))))), ?_⟩
  refine ⟨v, rfl, v, t, rfl, ht, _, rfl, ?_⟩
  have other : (∀ as, t ≠ .app f as) → flat ops f t = [comb ops t] := fun h => by
    cases t with
    | var n => rw [flat_var, comb_var]
    | app g as => exact flat_other fun e => h as (by rw [e])
  have one : (∀ as, t ≠ .app f as) → tCall (spComb ops Sc) [] E0 (tCons (tVar 0) (tCons (tVar 2) tNil)) [some (.ref l), some (.str f), some v] H (fun x H1 => ([x] : List V).length ≤ sizeLine ∧ ∀ p, H1 p = none → Q (.ref p) (upd H1 p (.lst [x]))) := fun h => by
    refine ⟨_, rfl, v, rfl, l, v, t, rfl, hl, ht, hs.2 h, fun H1 r h1 hr1 => ⟨(by show 1 ≤ sizeLine; decide), fun p hp => ?_⟩⟩
    refine q _ p [r] (Same.trans h1 (same_upd hp _)) (h1.free hp) upd_same ?_
    rw [other h]
    exact .cons (hr1.same (same_upd hp _)) .nil
  cases t with
  | var n => exact iteT (iteT (one fun as z => nomatch z))
  | app g as =>
    refine iteF ?_
    obtain ⟨a, vs, rfl, ha, hv⟩ := ht.inv_app
    refine ⟨_, rfl, a, _, 0, .str g, rfl, rfl, SqT.of ha, atI_nat (j := 0) rfl, .str f, rfl, rfl, _, rfl, ?_⟩
    by_cases e : g = f
    · subst e
      rw [decide_eq_true rfl]
      obtain ⟨x, y, rfl, ox, oy⟩ := two_args S hf ho
      obtain ⟨vx, r, rfl, hx, hv⟩ := hv.inv_cons
      obtain ⟨vy, r, rfl, hy, hv⟩ := hv.inv_cons
      cases hv.inv_nil
      have fx := ((comb_facts S x ox).2 g hf)
      have fy := ((comb_facts S y oy).2 g hf)
      have hi2 : inn x + inn y ≤ 13 := by
        simp only [inn, innL, List.isEmpty_cons, Bool.false_eq_true, if_false] at hi
        omega
      refine iteF ⟨_, rfl, _, rfl, _, rfl, a, _, 1, vx, rfl, rfl, SqT.of ha, atI_nat (j := 1) rfl, l, g, vx, x, rfl, hl, hx, hs.1 _ rfl x (by simp), fun H1 p xs h1 hp hp1 hxs => ?_⟩
      refine ⟨_, rfl, _, rfl, _, rfl, a, _, 2, vy, rfl, rfl, SqT.of (h1 _ _ ha), atI_nat (j := 2) rfl, l, g, vy, y, rfl, h1 _ _ hl, hy.same h1, hs.1 _ rfl y (by simp), fun H2 p2 ys h2 hp2 hp22 hys => ?_⟩
      have l1 := hxs.len
      have l2 := hys.len
      refine ⟨p, p2, xs, ys, rfl, rfl, h2 _ _ hp1, hp22, line1000 (by have := fx.2.2; have := fy.2.2; omega), fun p3 hp3 => ?_⟩
      have s3 : Same H2 (upd H2 p3 (.lst (xs ++ ys))) := same_upd hp3 _
      refine q _ p3 (xs ++ ys) (Same.trans h1 (Same.trans h2 s3)) (h1.free (h2.free hp3)) upd_same ?_
      rw [flat_same, flatL_two]
      exact ((hxs.same h2).append hys).same s3
    · have e' : decide (V.str g = V.str f) = false := decide_eq_false fun z => e (V.str.inj z)
      rw [e']
      exact iteT (one fun bs z => e (by cases z; rfl))
end
end J

namespace J
open PySem L2
section
variable {P : Program} {w : World} {K : PySem.W.Frag} {mg : Str → Option Value} {base : Heap}

/-! ### combined -/
theorem scComb : FnScope ["operations", "term", "argument", "arguments", "result", "result_depth"] ["operations", "term"] (defScope (top 17)) := ⟨rfl, rfl, rfl, by decide +kernel, rfl, by decide +kernel, by decide +kernel⟩
/-- a sorted list of what stands in flat forms: its own size and depth at every end -/
theorem build_suf {ar : Str → Nat} {f : Str} {pre suf : List Tm} (hn : nmOk f = true) (h2 : ar f = 2) (hs : suf ≠ []) (ho : ∀ a ∈ pre ++ suf, ok ar a) (hi : inn (build f (pre ++ suf)) ≤ 14) : ok ar (build f suf) ∧ inn (build f suf) ≤ 14 := by
  have h1 := inn_build (f := f) hs
  have h3 := inn_build (f := f) (l := pre ++ suf) (by simp [hs])
  rw [List.length_append, innL_append] at h3
  exact ⟨ok_build hn h2 hs fun a ha => ho a (List.mem_append_right _ ha), by omega⟩
theorem ok_comb {ar : Str → Nat} {ops : List Str} (S : Sig ar ops) {Sc : Tm → Prop} {Sf : Str → Tm → Prop} (T : Txt K mg) {j : Nat} (hj : 36 ≤ j) (C : Keeps P w base j T.g_combined (spComb ops Sc)) (G : Keeps P w base j T.g_flat_arguments (spFlat ops Sf)) :
    Keeps P w base (j + 1) T.g_combined (spComb ops (ScN ar ops Sc Sf)) := by
  obtain ⟨tk, mD⟩ := T.c_MOST_DEPTH
  refine T.g_combined.F.ok scComb (fun vs H Q E h => ?_) (fun cdv A outer s H vs Q E hr h => ?_)
  · obtain ⟨l, v, t, rfl, _⟩ := h
    rfl
  obtain ⟨l, v, t, rfl, hl, ht, ⟨ho, hi, hs⟩, q⟩ := h
  refine ⟨_, pss_cons (ps_if (pt_val (pe_callB call_isint rfl T.z_isinstance PyProof.Rows.boot_isinstance (pa_cons (pv 1) (pa_cons (pe_bltn (v := .ty "int") rfl T.z_int PyProof.Rows.boot_int rfl) pa_nil)))) (pss_one (ps_ret (pv 1))) pss_nil)
    (pss_cons (ps_if (pt_cmpR op_notIn_seq (pe_ix ix_tup (pv 1) pe_int (fun _ _ => rfl)) (pv 0) (by rfl))
      (pss_one (ps_ret (pe_op op_catT (pe_tup (pa_cons (pe_ix ix_tup (pv 1) pe_int (fun _ _ => rfl)) pa_nil))
        (pe_callTy call_tuple_of rfl T.z_tuple PyProof.Rows.boot_tuple (pa_cons
          (pe_lc (own := [("argument", 2)]) (g := gName 2) (tt := tYes) rfl scComb.nd (pi_tup (pe_tail (pv 1))) (blkOk_by (N := ["operations", "term", "argument", "arguments", "result", "result_depth"]) (sc := defScope (top 17)) (by decide +kernel))
            (fun _ _ _ _ _ => pg_name (i := 2) scComb.nd rfl (Or.inl rfl)) (fun _ _ _ _ _ => pts_nil) (fun _ _ _ _ _ => pe_cl T.g_combined C hr (pa_cons (pv 0) (pa_cons (pv 2) pa_nil)))) pa_nil))))) pss_nil)
    (pss_cons (ps_set (i := 3) scComb.nd rfl (Or.inl rfl) (pe_lst pa_nil))
    (pss_cons (ps_for PassesOwn.never rfl (pi_list (pe_cl T.g_flat_arguments G hr (pa_cons (pv 0) (pa_cons (pe_ix ix_tup (pv 1) pe_int (fun _ _ => rfl)) (pa_cons (pv 1) pa_nil))))) (pg_name (i := 2) scComb.nd rfl (Or.inl rfl))
      (pss_one (ps_expr (pe_cl T.g_insert_term (ok_ins T 30) (hr.mono (by omega)) (pa_cons (pv 3) (pa_cons (pv 2) pa_nil))))))
    (pss_cons (ps_set (i := 4) scComb.nd rfl (Or.inl rfl) (pe_bm0 PySem.F.plainAttrs_list PySem.F.slot_list_pop PySem.F.type_list_pop mt_pop (pv 3)))
    (pss_cons (ps_set (i := 5) scComb.nd rfl (Or.inl rfl) (pe_cl T.g_depth (ok_dep T 30) (hr.mono (by omega)) (pa_cons (pv 4) pa_nil)))
    (pss_cons (ps_while PassesOwn.never (pt_cmpR op_gt (pe_callB call_len_seq rfl T.z_len PySem.boot_len (pa_cons (pv 3) pa_nil)) pe_int (nomark _))
      (pss_cons (ps_set (i := 2) scComb.nd rfl (Or.inl rfl) (pe_bm0 PySem.F.plainAttrs_list PySem.F.slot_list_pop PySem.F.type_list_pop mt_pop (pv 3)))
      (pss_cons (ps_set (i := 4) scComb.nd rfl (Or.inl rfl) (pe_tup (pa_cons (pe_ix ix_tup (pv 1) pe_int (fun _ _ => rfl)) (pa_cons (pv 2) (pa_cons (pv 4) pa_nil)))))
      (pss_cons (ps_set (i := 5) scComb.nd rfl (Or.inl rfl) (pe_op op_add pe_int (pe_callB (call_max2 rfl) rfl T.z_max PyProof.Rows.boot_max (pa_cons (pe_cl T.g_depth (ok_dep T 30) (hr.mono (by omega)) (pa_cons (pv 2) pa_nil)) (pa_cons (pv 5) pa_nil)))))
      (pss_one (ps_if (pt_cmpR op_gt (pv 5) (pe_glob (v := .int 30) rfl mD ⟨_, rfl⟩) (nomark _)) pss_never pss_nil))))))
    (pss_one (ps_ret (pv 4))))))))), ?_⟩
  refine ⟨v, rfl, v, t, rfl, ht, _, rfl, ?_⟩
  cases t with
  | var n => exact iteT ⟨v, rfl, q H v (Same.refl H) (by rw [comb_var]; exact ht)⟩
  | app f as =>
    refine iteF ?_
    obtain ⟨a, vs, rfl, ha, hv⟩ := ht.inv_app
    obtain ⟨hs1, hs2⟩ := hs f as rfl
    refine ⟨_, rfl, a, _, 0, .str f, rfl, rfl, SqT.of ha, atI_nat (j := 0) rfl, _, rfl, l, _, rfl, .inl (SqL.of hl), rfl, flat_ops ops, _, rfl, ?_⟩
    rw [if_pos rfl, inV_ops]
    by_cases hf : f ∈ ops
    · rw [decide_eq_true hf]
      refine iteF ⟨(by show 0 ≤ sizeLine; decide), fun l2 hl2 => ?_⟩
      have s1 : Same H (upd H l2 (.lst [])) := same_upd hl2 _
      refine ⟨_, rfl, _, rfl, a, _, 0, .str f, rfl, rfl, SqT.of (s1 _ _ ha), atI_nat (j := 0) rfl, _, rfl, l, f, _, .app f as, rfl, s1 _ _ hl, ht.same s1, hs1 hf, fun H1 p xs h1 hp hp1 hxs => ?_⟩
      have fx := ((comb_facts S _ ho).2 f hf)
      generalize efl : flat ops f (.app f as) = fl at fx hxs
      obtain ⟨fne, fok, flen⟩ := fx
      have finn : ∀ u ∈ fl, inn u ≤ 14 := fun u hu => by
        have := innL_mem hu
        have := List.length_pos_iff.mpr fne
        omega
      have fsm : ∀ u ∈ fl, dep u ≤ 30 ∧ tsz u ≤ 1000 ∧ tsz u ≤ 400 ∧ dep u ≤ 15 := fun u hu => small_tm S (fok u hu) (finn u hu)
      have hlen := hxs.len
      have h1l2 := h1 _ _ (show upd H l2 (.lst []) l2 = some (.lst []) from upd_same)
      have hpl : p ≠ l2 := fun z => by rw [z, upd_same] at hp; cases hp
      refine ⟨p, rfl, ⟨_, SqL.of hp1⟩, ?_⟩
      refine for_list (xs := xs) (fun i σ H2 => Same H H2 ∧ H2 p = some (.lst xs) ∧ TmsAt H2 fl xs ∧ (∃ ys, H2 l2 = some (.lst ys) ∧ TmsAt H2 ((fl.take i).foldl (fun acc x => ins x acc) []) ys) ∧ ∃ z, σ = [some (.ref l), some (.ref a), z, some (.ref l2), none, none])
        ⟨Same.trans s1 h1, hp1, hxs, ⟨[], h1l2, .nil⟩, none, rfl⟩ (fun i σ H2 _ h2 => SqL.of h2.2.1) (fun i x σ H2 hx h2 => ?_) (fun σ H2 h2 => ?_)
      · obtain ⟨h2, h2p, h2x, ⟨ys, h2l, hys⟩, z, rfl⟩ := h2
        obtain ⟨u, e1, e2⟩ := h2x.at hx
        have hu := List.mem_of_getElem? e1
        have iso := isort_go (fl.take i) [] .nil
        have mem : ∀ u' ∈ (fl.take i).foldl (fun acc x => ins x acc) [], u' ∈ fl := fun u' hu' => List.mem_of_mem_take (by simpa using iso.1.mem_iff.mp hu')
        have hln : ((fl.take i).foldl (fun acc x => ins x acc) []).length ≤ 1000 := by
          rw [iso.1.length_eq, List.nil_append, List.length_take]
          omega
        refine ⟨_, rfl, x, rfl, l2, ys, _, x, u, rfl, h2l, hys, e2, ⟨(fsm u hu).1, fun u' hu' => (fsm u' (mem u' hu')).1⟩, ⟨(fsm u hu).2.1, fun u' hu' => (fsm u' (mem u' hu')).2.1⟩, hln, fun H3 zs h3 h3l hzs => ?_⟩
        refine ⟨same_sb h2 hl2 h3, h3 _ _ hpl h2p, h2x.mono (h3.tups h2l), ⟨zs, h3l, ?_⟩, some x, rfl⟩
        rw [foldl_take e1]
        exact hzs
      · obtain ⟨h2, h2p, h2x, ⟨ys, h2l, hys⟩, z, rfl⟩ := h2
        have et : fl.take xs.length = fl := by rw [hlen]; exact List.take_length
        rw [et] at hys
        have hys : TmsAt H2 (isort fl) ys := hys
        -- the sorted list
        have per := isort_perm fl
        have gne : isort fl ≠ [] := fun z => by
          have e := per.length_eq
          rw [z] at e
          have := List.length_pos_iff.mpr fne
          simp only [List.length_nil] at e
          omega
        have ecomb : comb ops (.app f as) = build f (isort fl) := by rw [comb_in hf, ← flat_same, efl]
        have gok : ∀ u ∈ isort fl, ok ar u := fun u hu => fok u (per.mem_iff.mp hu)
        have ginn : inn (build f (isort fl)) ≤ 14 := by rw [← ecomb, (comb_facts S _ ho).1.2]; exact hi
        have gsm : ∀ u ∈ isort fl, dep u ≤ 30 := fun u hu => (fsm u (per.mem_iff.mp hu)).1
        generalize isort fl = g at hys gne ecomb gok ginn gsm
        obtain ⟨pre0, t0, rfl⟩ : ∃ pre0 t0, g = pre0 ++ [t0] := ⟨_, _, (List.dropLast_concat_getLast gne).symm⟩
        obtain ⟨ys0, y0, rfl⟩ : ∃ ys0 y0, ys = ys0 ++ [y0] := by
          have e := hys.len
          have ne : ys ≠ [] := fun z => by rw [z] at e; simp at e
          exact ⟨_, _, (List.dropLast_concat_getLast ne).symm⟩
        -- parts of a pair of lists
        have parts : ∀ {H' : Hp} {us : List Tm} {u : Tm} {ws : List V} {x : V}, TmsAt H' (us ++ [u]) (ws ++ [x]) → TmsAt H' us ws ∧ TmAt H' u x := fun {H' us u ws x} h => by
          have e := h.len
          simp only [List.length_append, List.length_singleton] at e
          have e' : ws.length = us.length := by omega
          have h1 := h.take us.length
          have h2 := h.drop us.length
          rw [List.take_left' rfl, List.take_left' e'] at h1
          rw [List.drop_left' rfl, List.drop_left' e'] at h2
          obtain ⟨x', r, e3, h4, _⟩ := h2.inv_cons
          cases e3
          exact ⟨h1, h4⟩
        obtain ⟨hp0, ht0⟩ := parts hys
        have lastAt : ∀ (ws : List V) (x : V), (ws ++ [x])[(ws ++ [x]).length - 1]? = some x := fun ws x => by simp
        refine ⟨_, rfl, .inl ⟨rfl, _, SqL.of h2l⟩, l2, _, y0, rfl, rfl, h2l, lastAt ys0 y0, ?_⟩
        rw [List.dropLast_concat]
        have tu2 : Tups H2 (upd H2 l2 (.lst ys0)) := tups_lst h2l
        have s2 : Same H (upd H2 l2 (.lst ys0)) := same_at h2 hl2 _
        refine ⟨y0, rfl, y0, t0, rfl, ht0.mono tu2, gsm t0 (by simp), fun H3 h3 => ?_⟩
        refine ⟨fun m σ H4 => ∃ pre suf ws r z, pre ++ suf = pre0 ++ [t0] ∧ suf ≠ [] ∧ m = pre.length ∧ Same H H4 ∧ H4 l2 = some (.lst ws) ∧ TmsAt H4 pre ws ∧ TmAt H4 (build f suf) r ∧ σ = [some (.ref l), some (.ref a), z, some (.ref l2), some r, some (.int (dep (build f suf)))],
          ⟨pre0.length, pre0, [t0], ys0, y0, z, rfl, by simp, rfl, Same.trans s2 h3, h3 _ _ upd_same, (hp0.mono tu2).same h3, by rw [build_one]; exact (ht0.mono tu2).same h3, by rw [build_one]; rfl⟩, ?_⟩
        rintro m σ H4 ⟨pre, suf, ws, r, z, eg, hsuf, rfl, h4, h4l, hw, hr4, rfl⟩
        have hwl := hw.len
        refine ⟨_, rfl, l2, ws, rfl, .inl (SqL.of h4l), _, _, rfl, rfl, _, rfl, ?_⟩
        cases ec : pre with
        | nil =>
          subst ec
          have e0 : ws = [] := hw.inv_nil
          subst e0
          refine iteF ⟨_, rfl, q H4 r h4 ?_⟩
          rw [ecomb, ← eg]
          exact hr4
        | cons c cs =>
          obtain ⟨pr, u, rfl⟩ : ∃ pr u, pre = pr ++ [u] := ⟨_, _, (List.dropLast_concat_getLast (by rw [ec]; simp)).symm⟩
          obtain ⟨wr, x, rfl⟩ : ∃ wr x, ws = wr ++ [x] := by
            have ne : ws ≠ [] := fun z => by rw [z] at hwl; simp at hwl
            exact ⟨_, _, (List.dropLast_concat_getLast ne).symm⟩
          rw [← ec]
          clear ec
          obtain ⟨hw1, hx1⟩ := parts hw
          have mu : u ∈ pre0 ++ [t0] := by rw [← eg]; simp
          rw [decide_eq_true (show (0 : Int) < (((wr ++ [x]).length : Nat) : Int) by simp)]
          refine iteT ⟨fun σ' H' => ∃ ws' r', Same H H' ∧ H' l2 = some (.lst ws') ∧ TmsAt H' pr ws' ∧ TmAt H' (build f (u :: suf)) r' ∧ σ' = [some (.ref l), some (.ref a), some x, some (.ref l2), some r', some (.int (dep (build f (u :: suf))))], ?_, ?_⟩
          · rintro σ' H' ⟨ws', r', b1, b2, b3, b4, b5⟩
            exact ⟨pr.length, by simp, pr, u :: suf, ws', r', some x, by rw [← eg]; simp, by simp, rfl, b1, b2, b3, b4, b5⟩
          · refine ⟨_, rfl, .inl ⟨rfl, _, SqL.of h4l⟩, l2, _, x, rfl, rfl, h4l, lastAt wr x, ?_⟩
            rw [List.dropLast_concat]
            have tu4 : Tups H4 (upd H4 l2 (.lst wr)) := tups_lst h4l
            have s4 : Same H (upd H4 l2 (.lst wr)) := same_at h4 hl2 _
            refine ⟨_, rfl, a, _, 0, .str f, rfl, rfl, SqT.of (s4 _ _ ha), atI_nat (j := 0) rfl, x, rfl, r, rfl, (by show 3 ≤ sizeLine; decide), fun p5 hp5 => ?_⟩
            have s5 : Same (upd H4 l2 (.lst wr)) (upd (upd H4 l2 (.lst wr)) p5 (.tup [.str f, x, r])) := same_upd hp5 _
            have hx5 := (hx1.mono tu4).same s5
            have hr5 := (hr4.mono tu4).same s5
            refine ⟨x, rfl, x, u, rfl, hx5, gsm u mu, fun H6 h6 => ?_⟩
            have b := build_suf (pre := pr) (suf := u :: suf) ho.1.1 (S.two f hf) (by simp) (by rw [show pr ++ u :: suf = pre0 ++ [t0] by rw [← eg]; simp]; exact gok) (by rw [show pr ++ u :: suf = pre0 ++ [t0] by rw [← eg]; simp]; exact ginn)
            have bd := (small_tm S b.1 b.2).1
            have eb : build f (u :: suf) = .app f [u, build f suf] := build_cons hsuf
            have ed : ((dep (build f (u :: suf)) : Nat) : Int) = 1 + (if ((dep (build f suf) : Nat) : Int) > ((dep u : Nat) : Int) then ((dep (build f suf) : Nat) : Int) else ((dep u : Nat) : Int)) := by
              rw [eb, dep, depL, depL, depL]
              split <;> omega
            refine ⟨_, rfl, _, _, rfl, _, _, rfl, rfl, _, rfl, _, _, rfl, rfl, _, rfl, ?_⟩
            rw [← ed, decide_eq_false (show ¬ (30 : Int) < ((dep (build f (u :: suf)) : Nat) : Int) by omega)]
            refine iteF ⟨wr, .ref p5, Same.trans s4 (Same.trans s5 h6), h6 _ _ (s5 _ _ upd_same), ((hw1.mono tu4).same s5).same h6, ?_, by rw [ed]; rfl⟩
            rw [eb]
            exact .app (h6 _ _ upd_same) (.cons (hx5.same h6) (.cons (hr5.same h6) .nil))
    · rw [decide_eq_false hf]
      have hout : comb ops (.app f as) = .app f (as.map (comb ops)) := comb_out hf
      have hlen := hv.len
      have h3 := S.three f
      have hal : as.length ≤ 3 := by rw [ho.1.2]; exact h3
      refine iteT ⟨_, rfl, a, _, 0, .str f, rfl, rfl, SqT.of ha, atI_nat (j := 0) rfl, (by show 1 ≤ sizeLine; decide), fun p1 hp1 => ?_⟩
      have s1 : Same H (upd H p1 (.tup [.str f])) := same_upd hp1 _
      refine ⟨_, rfl, _, rfl, a, _, vs, rfl, rfl, rfl, SqT.of (s1 _ _ ha), fun p2 hp2 => ⟨p2, rfl, ⟨_, SqT.of upd_same⟩, fun D hD => ?_⟩⟩
      have s2 := Same.trans s1 (same_upd hp2 (.tup vs))
      have hDH : H D = none := s2.free hD
      refine lc_tup (xs := vs) (fun i H2 => Same H H2 ∧ H2 p1 = some (.tup [.str f]) ∧ H2 p2 = some (.tup vs) ∧ ∃ acc, H2 D = some (.lst acc) ∧ TmsAt H2 ((as.take i).map (comb ops)) acc)
        ⟨Same.trans s2 (same_upd hD _), ?_, ?_, [], upd_same, .nil⟩ (fun i H2 _ h2 => SqT.of h2.2.2.1) (fun i x H2 hx h2 => ?_) (fun H2 h2 => ?_)
      · exact same_upd hD _ _ _ (same_upd hp2 _ _ _ upd_same)
      · exact same_upd hD _ _ _ upd_same
      · obtain ⟨h2, h2a, h2b, acc, h2D, hacc⟩ := h2
        obtain ⟨u, e1, e2⟩ := hv.at hx
        refine ⟨rfl, _, rfl, x, rfl, l, x, u, rfl, h2 _ _ hl, e2.same h2, hs2 hf u (List.mem_of_getElem? e1), fun H3 r h3 hr3 => ?_⟩
        have h3D := h3 _ _ h2D
        have hal2 := hacc.len
        rw [List.length_map, List.length_take] at hal2
        refine ⟨acc, h3D, small1000 (by omega), same_at (Same.trans h2 h3) hDH _, ?_, ?_, acc ++ [r], upd_same, ?_⟩
        · rw [upd_ne (ne_of (h3 _ _ h2a) h3D (by intro z; cases z))]
          exact h3 _ _ h2a
        · rw [upd_ne (ne_of (h3 _ _ h2b) h3D (by intro z; cases z))]
          exact h3 _ _ h2b
        · have tu : Tups H3 (upd H3 D (.lst (acc ++ [r]))) := tups_lst h3D
          rw [List.take_succ, e1, Option.toList_some, List.map_append]
          exact ((hacc.same h3).append (.cons hr3 .nil)).mono tu
      · obtain ⟨h2, h2a, h2b, acc, h2D, hacc⟩ := h2
        have et : as.take vs.length = as := by rw [hlen]; exact List.take_length
        rw [et] at hacc
        have hal2 := hacc.len
        rw [List.length_map] at hal2
        refine ⟨D, acc, rfl, .inl ⟨SqL.of h2D, fun p3 hp3 => ?_⟩⟩
        have s3 : Same H2 (upd H2 p3 (.tup acc)) := same_upd hp3 _
        refine ⟨p1, p3, _, acc, rfl, rfl, SqT.of (s3 _ _ h2a), SqT.of upd_same, by simp, ?_, fun z => ?_, fun _ p4 hp4 => ?_⟩
        · exact line1000 (by simp only [List.length_singleton]; omega)
        · subst z
          have e0 : as = [] := List.eq_nil_of_length_eq_zero (by rw [← hal2]; rfl)
          refine q _ _ (Same.trans h2 s3) ?_
          rw [hout, e0]
          exact .app (s3 _ _ h2a) .nil
        · have s4 := Same.trans s3 (same_upd hp4 (.tup ([.str f] ++ acc)))
          refine q _ _ (Same.trans h2 s4) ?_
          rw [hout]
          exact .app upd_same (hacc.same s4)
end
end J

namespace J
open PySem L2

/-! ### terms as data, for == -/
mutual
def toPy : Tm → PyData
  | .var n => .int n
  | .app f as => .tuple (.str f :: toPyL as)
def toPyL : List Tm → List PyData
  | [] => []
  | t :: ts => toPy t :: toPyL ts
end
mutual
theorem toPy_dp {K : PySem.W.Frag} {H : Hp} : ∀ {t : Tm} {v : V}, TmAt H t v → Dp K H v (toPy t)
  | .var n, v, h => by rw [h.inv_var, toPy]; exact .int n
  | .app f as, v, h => by
    obtain ⟨a, vs, rfl, ha, hv⟩ := h.inv_app
    rw [toPy]
    exact .tup (SqT.of ha) (.cons (.str f) (toPyL_dp hv))
theorem toPyL_dp {K : PySem.W.Frag} {H : Hp} : ∀ {ts : List Tm} {vs : List V}, TmsAt H ts vs → DpAll K H vs (toPyL ts)
  | [], vs, h => by rw [h.inv_nil, toPyL]; exact .nil
  | t :: ts, vs, h => by
    obtain ⟨v, r, rfl, h2, h3⟩ := h.inv_cons
    rw [toPyL]
    exact .cons (toPy_dp h2) (toPyL_dp h3)
end
mutual
theorem toPy_lay {ar : Str → Nat} : ∀ {t : Tm}, ok ar t → PyData.canLay0 (toPy t) = true ∧ PyData.depth (toPy t) ≤ dep t
  | .var n, _ => by simp [toPy, PyData.canLay0, PyData.depth]
  | .app f as, h => by
    obtain ⟨h1, h2⟩ := toPyL_lay h.2
    have hn : PyData.strOk f = true := h.1.1
    rw [toPy, PyData.canLay0, PyData.canLayAll0, PyData.canLay0, PyData.depth, PyData.depthAll, PyData.depth, dep, hn, h1]
    exact ⟨rfl, by omega⟩
theorem toPyL_lay {ar : Str → Nat} : ∀ {ts : List Tm}, okL ar ts → PyData.canLayAll0 (toPyL ts) = true ∧ PyData.depthAll (toPyL ts) ≤ depL ts
  | [], _ => by simp [toPyL, PyData.canLayAll0, PyData.depthAll]
  | t :: ts, h => by
    obtain ⟨h1, h2⟩ := toPy_lay h.1
    obtain ⟨h3, h4⟩ := toPyL_lay h.2
    rw [toPyL, PyData.canLayAll0, PyData.depthAll, depL, h1, h3]
    exact ⟨rfl, by omega⟩
end
theorem toPy_shaped {ar : Str → Nat} {t : Tm} (h : ok ar t) (hd : dep t ≤ 60) : SeqAt.shaped (toPy t) = true := by
  obtain ⟨h1, h2⟩ := toPy_lay h
  unfold SeqAt.shaped
  rw [h1, Bool.true_and]
  exact decide_eq_true (by omega)
mutual
theorem toPy_eqv : ∀ a b : Tm, PyData.eqv (toPy a) (toPy b) = true ↔ a = b
  | .var n, .var m => by simp [toPy, PyData.eqv]
  | .var n, .app g bs => by simp [toPy, PyData.eqv]
  | .app f as, .var m => by simp [toPy, PyData.eqv]
  | .app f as, .app g bs => by
    have h := toPyL_eqv as bs
    simp [toPy, PyData.eqv, PyData.eqvAll, h]
theorem toPyL_eqv : ∀ as bs : List Tm, PyData.eqvAll (toPyL as) (toPyL bs) = true ↔ as = bs
  | [], [] => by simp [toPyL, PyData.eqvAll]
  | [], b :: bs => by simp [toPyL, PyData.eqvAll]
  | a :: as, [] => by simp [toPyL, PyData.eqvAll]
  | a :: as, b :: bs => by
    have h1 := toPy_eqv a b
    have h2 := toPyL_eqv as bs
    simp [toPyL, PyData.eqvAll, h1, h2]
end

section
variable {P : Program} {w : World} {K : PySem.W.Frag} {mg : Str → Option Value} {base : Heap}
theorem spComb_imp {ops : List Str} {S1 S2 : Tm → Prop} (h : ∀ t, S2 t → S1 t) : ∀ vs H Q E, spComb ops S2 vs H Q E → spComb ops S1 vs H Q E := fun vs H Q E ⟨l, v, t, a, b, c, d, e⟩ => ⟨l, v, t, a, b, c, h t d, e⟩
theorem spFlat_imp {ops : List Str} {S1 S2 : Str → Tm → Prop} (h : ∀ f t, S2 f t → S1 f t) : ∀ vs H Q E, spFlat ops S2 vs H Q E → spFlat ops S1 vs H Q E := fun vs H Q E ⟨l, f, v, t, a, b, c, d, e⟩ => ⟨l, f, v, t, a, b, c, h f t d, e⟩
def ScD (ar : Str → Nat) (n : Nat) (t : Tm) : Prop := ok ar t ∧ inn t ≤ 14 ∧ dep t ≤ n
def SfD (ar : Str → Nat) (ops : List Str) (n : Nat) (f : Str) (t : Tm) : Prop := f ∈ ops ∧ ok ar t ∧ inn t ≤ 14 ∧ dep t ≤ n
theorem args_of {ar : Str → Nat} {n : Nat} {f : Str} {as : List Tm} (ho : ok ar (.app f as)) (hi : inn (.app f as) ≤ 14) (hd : dep (.app f as) ≤ n + 1) : ∀ a ∈ as, ok ar a ∧ inn a ≤ 14 ∧ dep a ≤ n := fun a ha => by
  have h1 := depL_mem ha
  have h2 := innL_mem ha
  rw [dep] at hd
  rw [inn] at hi
  exact ⟨okL_iff.mp ho.2 a ha, by omega, by omega⟩
/-- both, by the depth of the term -/
theorem combs {ar : Str → Nat} {ops : List Str} (S : Sig ar ops) (T : Txt K mg) : ∀ n : Nat, Keeps P w base (40 + 3 * n) T.g_combined (spComb ops (ScD ar n)) ∧ Keeps P w base (40 + 3 * n) T.g_flat_arguments (spFlat ops (SfD ar ops n))
  | 0 => ⟨(no_call fun vs H Q E ⟨l, v, t, _, _, _, h, _⟩ => by have := dep_pos t; have := h.2.2; omega).mono (Nat.zero_le _),
    (no_call fun vs H Q E ⟨l, f, v, t, _, _, _, h, _⟩ => by have := dep_pos t; have := h.2.2.2; omega).mono (Nat.zero_le _)⟩
  | n + 1 => by
    obtain ⟨C, G⟩ := combs S T n
    have e : 40 + 3 * (n + 1) = 40 + 3 * n + 1 + 1 + 1 := by omega
    have F1 : Keeps P w base (40 + 3 * n + 1) T.g_flat_arguments (spFlat ops fun f t => (∃ as, t = .app f as) ∧ SfD ar ops (n + 1) f t) := (ok_flat S T C G).imp (spFlat_imp fun f t h => by
      obtain ⟨⟨as, rfl⟩, hf, ho, hi, hd⟩ := h
      refine ⟨hf, ho, hi, fun bs z a ha => ?_, fun z => absurd rfl (z as)⟩
      cases z
      exact ⟨hf, args_of ho hi hd a ha⟩)
    have C1 : Keeps P w base (40 + 3 * n + 1 + 1) T.g_combined (spComb ops (ScD ar (n + 1))) := (ok_comb S T (by omega) (C.mono (Nat.le_succ _)) F1).imp (spComb_imp fun t h => by
      obtain ⟨ho, hi, hd⟩ := h
      refine ⟨ho, hi, fun f as z => ⟨fun hf => ⟨⟨as, z⟩, hf, ho, hi, hd⟩, fun hf a ha => ?_⟩⟩
      subst z
      exact args_of ho hi hd a ha)
    have F2 : Keeps P w base (40 + 3 * n + 1 + 1 + 1) T.g_flat_arguments (spFlat ops (SfD ar ops (n + 1))) := (ok_flat S T C1 (G.mono (by omega))).imp (spFlat_imp fun f t h => by
      obtain ⟨hf, ho, hi, hd⟩ := h
      refine ⟨hf, ho, hi, fun bs z a ha => ?_, fun z => ⟨ho, hi, hd⟩⟩
      subst z
      exact ⟨hf, args_of ho hi hd a ha⟩)
    rw [e]
    exact ⟨C1.mono (Nat.le_succ _), F2⟩

/-! ### combined_form, are_combined_alike -/
theorem ok_combT {ar : Str → Nat} {ops : List Str} (S : Sig ar ops) (T : Txt K mg) : Keeps P w base 85 T.g_combined (spComb ops fun t => ok ar t ∧ inn t ≤ 14) :=
  (combs S T 15).1.imp (spComb_imp fun t h => ⟨h.1, h.2, (small_tm S h.1 h.2).2.2.2⟩)
theorem scCf : FnScope ["operations", "term", "result"] ["operations", "term"] (defScope (top 18)) := ⟨rfl, rfl, rfl, by decide +kernel, rfl, by decide +kernel, by decide +kernel⟩
theorem ok_cf {ar : Str → Nat} {ops : List Str} (S : Sig ar ops) (T : Txt K mg) : Keeps P w base 86 T.g_combined_form (spComb ops fun t => ok ar t ∧ inn t ≤ 14) := by
  refine T.g_combined_form.F.ok scCf (fun vs H Q E h => ?_) (fun cdv A outer s H vs Q E hr h => ?_)
  · obtain ⟨l, v, t, rfl, _⟩ := h
    rfl
  obtain ⟨l, v, t, rfl, hl, ht, ⟨ho, hi⟩, q⟩ := h
  refine ⟨_, pss_cons (ps_set (i := 2) scCf.nd rfl (Or.inl rfl) (pe_cl T.g_combined (ok_combT S T) hr (pa_cons (pv 0) (pa_cons (pv 1) pa_nil))))
    (pss_cons (ps_expr (pe_cl T.g_check_size (ok_chk T 30) (hr.mono (by decide)) (pa_cons (pv 2) pa_nil)))
    (pss_one (ps_ret (pv 2)))), ?_⟩
  refine ⟨_, rfl, v, rfl, l, v, t, rfl, hl, ht, ⟨ho, hi⟩, fun H1 r h1 hr1 => ?_⟩
  have cf := (comb_facts S t ho).1
  have sm := small_tm S cf.1 (by rw [cf.2]; exact hi)
  refine ⟨r, rfl, r, _, rfl, hr1, sm.1, sm.1, sm.2.2.1, fun H2 h2 => ⟨r, rfl, q H2 r (Same.trans h1 h2) (hr1.same h2)⟩⟩
def spAlike (ar : Str → Nat) (ops : List Str) : Sp := fun vs H Q _ => ∃ (l : Addr) (v v' : V) (t t' : Tm), vs = [.ref l, v, v'] ∧ OpsAt H l ops ∧ TmAt H t v ∧ TmAt H t' v' ∧ (ok ar t ∧ inn t ≤ 14) ∧ (ok ar t' ∧ inn t' ≤ 14) ∧
  ∀ H' b, Same H H' → (b = true ↔ comb ops t = comb ops t') → Q (.bl b) H'
theorem scAl : FnScope ["operations", "first", "second", "first_form"] ["operations", "first", "second"] (defScope (top 19)) := ⟨rfl, rfl, rfl, by decide +kernel, rfl, by decide +kernel, by decide +kernel⟩
theorem ok_alike {ar : Str → Nat} {ops : List Str} (S : Sig ar ops) (T : Txt K mg) : Keeps P w base 87 T.g_are_combined_alike (spAlike ar ops) := by
  refine T.g_are_combined_alike.F.ok scAl (fun vs H Q E h => ?_) (fun cdv A outer s H vs Q E hr h => ?_)
  · obtain ⟨l, v, v', t, t', rfl, _⟩ := h
    rfl
  obtain ⟨l, v, v', t, t', rfl, hl, ht, ht', ⟨ho, hi⟩, ⟨ho', hi'⟩, q⟩ := h
  refine ⟨_, pss_cons (ps_set (i := 3) scAl.nd rfl (Or.inl rfl) (pe_cl T.g_combined_form (ok_cf S T) hr (pa_cons (pv 0) (pa_cons (pv 1) pa_nil))))
    (pss_one (ps_ret (pe_cmpR (op_eqD hr.units) (pv 3) (pe_cl T.g_combined_form (ok_cf S T) hr (pa_cons (pv 0) (pa_cons (pv 2) pa_nil))) (nomark _)))), ?_⟩
  refine ⟨_, rfl, v, rfl, l, v, t, rfl, hl, ht, ⟨ho, hi⟩, fun H1 r h1 hr1 => ?_⟩
  refine ⟨r, rfl, _, rfl, v', rfl, l, v', t', rfl, h1 _ _ hl, ht'.same h1, ⟨ho', hi'⟩, fun H2 r2 h2 hr2 => ?_⟩
  have c1 := (comb_facts S t ho).1
  have c2 := (comb_facts S t' ho').1
  have m1 := small_tm S c1.1 (by rw [c1.2]; exact hi)
  have m2 := small_tm S c2.1 (by rw [c2.2]; exact hi')
  exact ⟨_, _, toPy_dp (hr1.same h2), toPy_dp hr2, toPy_shaped c1.1 (by omega), toPy_shaped c2.1 (by omega), q H2 _ (Same.trans h1 h2) (toPy_eqv _ _)⟩
end
end J

namespace J
open PySem L2
section
variable {P : Program} {w : World} {K : PySem.W.Frag} {mg : Str → Option Value} {base : Heap}

/-! ### _law_tells -/
def spTells : Sp := fun vs H Q _ => ∃ a b : Bool, vs = [.bl a, .bl b] ∧ a = b ∧ Q (.bl true) H
theorem scTells : FnScope ["_law_actual", "_law_due"] ["_law_actual", "_law_due"] (defScope (top 21)) := ⟨rfl, rfl, rfl, by decide +kernel, rfl, by decide +kernel, by decide +kernel⟩
theorem ok_tells (T : Txt K mg) : Keeps P w base 1 T.gL_tells spTells := by
  refine T.gL_tells.F.ok scTells (fun vs H Q E h => ?_) (fun cdv A outer s H vs Q E hr h => ?_)
  · obtain ⟨a, b, rfl, _⟩ := h
    rfl
  obtain ⟨a, b, rfl, rfl, q⟩ := h
  refine ⟨_, pss_cons (ps_if (pt_val (pv 1)) (pss_one (ps_ret (pe_cmpR op_isBl (pv 0) pe_bl (nomark _)))) pss_nil) (pss_one (ps_ret (pe_cmpR op_isBl (pv 0) pe_bl (nomark _)))), ?_⟩
  refine ⟨_, rfl, a, rfl, ?_⟩
  cases a with
  | true => exact iteT ⟨_, rfl, _, _, rfl, rfl, q⟩
  | false => exact iteF ⟨_, rfl, _, _, rfl, rfl, q⟩

/-! ### _law_mix, _law_number -/
def spMix : Sp := fun vs H Q _ => ∃ c : Int, vs = [.int c] ∧ ∀ m : Int, 0 ≤ m → m < 2147483629 → Q (.int m) H
theorem scMix : FnScope ["_law_cell", "_law_number_here"] ["_law_cell"] (defScope (top 22)) := ⟨rfl, rfl, rfl, by decide +kernel, rfl, by decide +kernel, by decide +kernel⟩
theorem ok_mix (T : Txt K mg) : Keeps P w base 1 T.gL_mix spMix := by
  refine T.gL_mix.F.ok scMix (fun vs H Q E h => ?_) (fun cdv A outer s H vs Q E hr h => ?_)
  · obtain ⟨c, rfl, _⟩ := h
    rfl
  obtain ⟨c, rfl, q⟩ := h
  refine ⟨_, pss_cons (ps_set (i := 1) scMix.nd rfl (Or.inl rfl) (pe_op op_mod (pe_callTy call_int1 rfl T.z_int PyProof.Rows.boot_int (pa_cons (pv 0) pa_nil)) pe_int))
    (pss_cons (ps_set (i := 1) scMix.nd rfl (Or.inl rfl) (pe_op op_mod (pe_callTy call_int1 rfl T.z_int PyProof.Rows.boot_int (pa_cons (pe_op op_add (pe_op op_mul (pv 1) pe_int) pe_int) pa_nil)) pe_int))
    (pss_one (ps_ret (pe_op op_mod (pe_callTy call_int1 rfl T.z_int PyProof.Rows.boot_int (pa_cons (pe_op op_add (pe_op op_mul (pv 1) pe_int) pe_int) pa_nil)) pe_int)))), ?_⟩
  refine ⟨_, rfl, .inl ⟨c, rfl, _, _, rfl, rfl, (by show (0 : Int) < 2147483647; decide), ?_⟩⟩
  refine ⟨_, rfl, _, _, rfl, rfl, .inr (by decide), _, _, rfl, rfl, .inl ⟨_, rfl, _, _, rfl, rfl, (by show (0 : Int) < 2147483647; decide), ?_⟩⟩
  refine ⟨_, rfl, _, _, rfl, rfl, .inr (by decide), _, _, rfl, rfl, .inl ⟨_, rfl, _, _, rfl, rfl, (by show (0 : Int) < 2147483629; decide), ?_⟩⟩
  exact q _ (Int.emod_nonneg _ (by decide)) (Int.emod_lt_of_pos _ (by decide))
def spNumb : Sp := fun vs H Q _ => ∃ c : Int, vs = [.int c] ∧ ∀ m : Int, 0 ≤ m → Q (.int m) H
theorem scNumb : FnScope ["_law_cell", "_law_first"] ["_law_cell"] (defScope (top 23)) := ⟨rfl, rfl, rfl, by decide +kernel, rfl, by decide +kernel, by decide +kernel⟩
theorem ok_numb (T : Txt K mg) : Keeps P w base 2 T.gL_number spNumb := by
  refine T.gL_number.F.ok scNumb (fun vs H Q E h => ?_) (fun cdv A outer s H vs Q E hr h => ?_)
  · obtain ⟨c, rfl, _⟩ := h
    rfl
  obtain ⟨c, rfl, q⟩ := h
  refine ⟨_, pss_cons (ps_if (pt_cmpR op_ge (pv 0) (pe_op op_pow pe_int pe_int) (nomark _)) (pss_one (ps_ret (pv 0))) pss_nil)
    (pss_cons (ps_set (i := 1) scNumb.nd rfl (Or.inl rfl) (pe_cl T.gL_mix (ok_mix T) hr (pa_cons (pv 0) pa_nil)))
    (pss_one (ps_ret (pe_op op_add (pe_op op_mul (pv 1) pe_int) (pe_cl T.gL_mix (ok_mix T) hr (pa_cons (pe_op op_add (pv 1) (pv 0)) pa_nil)))))), ?_⟩
  refine ⟨_, rfl, _, _, rfl, rfl, ⟨by decide, by decide, by decide⟩, _, _, rfl, rfl, _, rfl, ?_⟩
  refine ite2 (fun k => ?_) (fun k => ?_)
  · have k' := of_decide_eq_true k
    have z : (0 : Int) ≤ 10 ^ (18 : Int).toNat := by decide
    exact ⟨_, rfl, q c (Int.le_trans z k')⟩
  · refine ⟨_, rfl, c, rfl, fun m h0 h1 => ⟨_, rfl, _, _, rfl, rfl, .inr (by decide), _, rfl, _, rfl, _, _, rfl, rfl, _, rfl, fun m2 h2 h3 => ⟨_, _, rfl, rfl, q _ ?_⟩⟩⟩
    have := Int.mul_nonneg h0 (show (0 : Int) ≤ 2147483629 by decide)
    omega

/-! ### the drawing state -/
def StAt (H : Hp) (st l : Addr) : Prop := ∃ (c : Int) (ns : List Int) (i s : Int), H st = some (.lst [.int c, .ref l, .int i, .int s]) ∧ H l = some (.lst (ns.map V.int)) ∧ 0 ≤ c ∧ 0 ≤ i ∧ 0 ≤ s
def StOk (H : Hp) (st : Addr) : Prop := ∃ l, StAt H st l
theorem StAt.upd {H : Hp} {st l a : Addr} {o : HO} (h : StAt H st l) (hne : a ≠ st) (hl : a ≠ l) : StAt (upd H a o) st l := by
  obtain ⟨c, ns, i, s, h1, h2, h3⟩ := h
  exact ⟨c, ns, i, s, by rw [upd_ne (Ne.symm hne)]; exact h1, by rw [upd_ne (Ne.symm hl)]; exact h2, h3⟩
theorem StAt.same {H H' : Hp} {st l : Addr} (h : StAt H st l) (e : Same H H') : StAt H' st l := by
  obtain ⟨c, ns, i, s, h1, h2, h3⟩ := h
  exact ⟨c, ns, i, s, e _ _ h1, e _ _ h2, h3⟩
theorem StOk.same {H H' : Hp} {st : Addr} (h : StOk H st) (e : Same H H') : StOk H' st := by
  obtain ⟨l, h⟩ := h
  exact ⟨l, h.same e⟩
theorem StOk.tups {H H' : Hp} {st : Addr} (h : StOk H st) (e : Sb st H H') : Tups H H' := by
  obtain ⟨l, c, ns, i, s, h1, _⟩ := h
  exact e.tups h1
/-- an object of other kind than the state stands elsewhere -/
theorem StOk.ne_tup {H : Hp} {st a : Addr} {xs : List V} (h : StOk H st) (ha : H a = some (.tup xs)) : a ≠ st := by
  obtain ⟨l, c, ns, i, s, h1, _⟩ := h
  exact ne_of ha h1 (by intro z; cases z)
theorem StOk.ne_lst {H : Hp} {st a : Addr} {xs : List V} (h : StOk H st) (ha : H a = some (.lst xs)) (hx : ∀ c r, xs ≠ .int c :: r) : a ≠ st := by
  obtain ⟨l, c, ns, i, s, h1, _⟩ := h
  exact ne_of ha h1 (by intro z; cases z; exact hx _ _ rfl)
def spState (K : PySem.W.Frag) : Sp := fun vs H Q _ => ∃ (a : Addr) (ns : List Int), vs = [.ref a] ∧ SqL K H a (ns.map V.int) ∧ ∀ H' st, Same H H' → H st = none → StOk H' st → Q (.ref st) H'
theorem scState : FnScope ["_law_script"] ["_law_script"] (defScope (top 24)) := ⟨rfl, rfl, rfl, by decide +kernel, rfl, by decide +kernel, by decide +kernel⟩
theorem ok_state (T : Txt K mg) : Keeps P w base 1 T.gL_state (spState K) := by
  refine T.gL_state.F.ok scState (fun vs H Q E h => ?_) (fun cdv A outer s H vs Q E hr h => ?_)
  · obtain ⟨a, ns, rfl, _⟩ := h
    rfl
  obtain ⟨a, ns, rfl, hS, q⟩ := h
  refine ⟨_, pss_one (ps_ret (pe_lst (pa_cons pe_int (pa_cons (pe_callTy call_list_of rfl T.z_list PyProof.Rows.boot_list (pa_cons (pv 0) pa_nil)) (pa_cons pe_int
    (pa_cons (pe_op op_add pe_int (pe_callB call_len_seq rfl T.z_len PySem.boot_len (pa_cons (pv 0) pa_nil))) pa_nil)))))), ?_⟩
  refine ⟨_, rfl, a, _, rfl, .inl hS, fun l hl => ?_⟩
  have s1 : Same H (upd H l (.lst (ns.map V.int))) := same_upd hl _
  refine ⟨_, rfl, a, _, rfl, .inl (s1.seq hS), _, _, rfl, rfl, (by show 4 ≤ sizeLine; decide), fun st hst => ?_⟩
  have hls : l ≠ st := fun z => by rw [← z, upd_same] at hst; cases hst
  refine q _ st (Same.trans s1 (same_upd hst _)) (s1.free hst) ⟨l, 0, ns, 0, _, upd_same, by rw [upd_ne hls, upd_same], Int.le_refl 0, Int.le_refl 0, ?_⟩
  rw [List.length_map]
  omega

/-! ### _law_draw -/
def spDraw : Sp := fun vs H Q _ => ∃ (st l : Addr) (many : Int), vs = [.ref st, .int many] ∧ StAt H st l ∧ 0 < many ∧ many < 1000000 ∧ ∀ H' v, Sb st H H' → StAt H' st l → 0 ≤ v → v < many → Q (.int v) H'
theorem scDraw : FnScope ["_law_state_here", "_law_many", "_law_value"] ["_law_state_here", "_law_many"] (defScope (top 25)) := ⟨rfl, rfl, rfl, by decide +kernel, rfl, by decide +kernel, by decide +kernel⟩
theorem StOk.put {H : Hp} {st l : Addr} {ns : List Int} {c i s c' i' s' : Int} (h1 : H st = some (.lst [.int c, .ref l, .int i, .int s])) (h2 : H l = some (.lst (ns.map V.int))) (hc : 0 ≤ c') (hi : 0 ≤ i') (hs : 0 ≤ s') :
    upd H st (.lst [.int c', .ref l, .int i', .int s']) l = some (.lst (ns.map V.int)) ∧ StAt (upd H st (.lst [.int c', .ref l, .int i', .int s'])) st l := by
  have ne : l ≠ st := ne_of h2 h1 (by
    intro z
    cases ns with
    | nil => cases z
    | cons a r =>
      cases r with
      | nil => cases z
      | cons b r =>
        have := HO.lst.inj z
        simp at this)
  have e : upd H st (.lst [.int c', .ref l, .int i', .int s']) l = some (.lst (ns.map V.int)) := by rw [upd_ne ne]; exact h2
  exact ⟨e, c', ns, i', s', upd_same, e, hc, hi, hs⟩
theorem ok_draw (T : Txt K mg) : Keeps P w base 3 T.gL_draw spDraw := by
  refine T.gL_draw.F.ok scDraw (fun vs H Q E h => ?_) (fun cdv A outer s H vs Q E hr h => ?_)
  · obtain ⟨st, l, many, rfl, _⟩ := h
    rfl
  obtain ⟨st, l, many, rfl, hst, hm, hm2, q⟩ := h
  refine ⟨_, C8.pss_cut (ps_if (PW.pt (pw_and (pt_cmpR op_lt (pe_ix ix_list (pv 0) pe_int (fun _ _ => rfl)) (pv 1) (nomark _))
        (pw_and1 (pt_cmpR op_lt (pe_ix ix_list (pv 0) pe_int (fun _ _ => rfl)) (pe_callB call_len_seq rfl T.z_len PySem.boot_len (pa_cons (pe_ix ix_list (pv 0) pe_int (fun _ _ => rfl)) pa_nil)) (nomark _)))))
      (pss_cons (ps_asg (pe_cl T.gL_number (ok_numb T) hr (pa_cons (pe_ix ix_list (pe_ix ix_list (pv 0) pe_int (fun _ _ => rfl)) (pe_ix ix_list (pv 0) pe_int (fun _ _ => rfl)) (fun _ _ => rfl)) pa_nil)) (pg_sub (pv 0) pe_int set_list))
      (pss_one (ps_asg (pe_op op_add (pe_ix ix_list (pv 0) pe_int (fun _ _ => rfl)) pe_int) (pg_sub (pv 0) pe_int set_list)))) pss_nil)
    (pss_cons (ps_if (pt_cmpR op_eq (pe_ix ix_list (pv 0) pe_int (fun _ _ => rfl)) pe_int (nomark _))
      (pss_cons (ps_asg (pe_op op_mod (pe_callTy call_int1 rfl T.z_int PyProof.Rows.boot_int (pa_cons (pe_op op_add (pe_op op_mul (pe_ix ix_list (pv 0) pe_int (fun _ _ => rfl)) pe_int) pe_int) pa_nil)) pe_int) (pg_sub (pv 0) pe_int set_list))
      (pss_one (ps_ret (pe_op op_mod (pe_callTy call_int1 rfl T.z_int PyProof.Rows.boot_int (pa_cons (pe_op op_fdiv (pe_ix ix_list (pv 0) pe_int (fun _ _ => rfl)) pe_int) pa_nil)) (pv 1))))) pss_nil)
    (pss_cons (ps_set (i := 2) scDraw.nd rfl (Or.inl rfl) (pe_op op_mod (pe_callTy call_int1 rfl T.z_int PyProof.Rows.boot_int (pa_cons (pe_ix ix_list (pv 0) pe_int (fun _ _ => rfl)) pa_nil)) (pv 1)))
    (pss_cons (ps_asg (pe_op op_fdiv (pe_ix ix_list (pv 0) pe_int (fun _ _ => rfl)) (pv 1)) (pg_sub (pv 0) pe_int set_list))
    (pss_one (ps_ret (pv 2)))))), ?_⟩
  refine ⟨fun σ' H' => σ' = [some (.ref st), some (.int many), none] ∧ Sb st H H' ∧ StAt H' st l, ?_, ?_⟩
  · obtain ⟨c, ns, i, s, hs, hl, hc, hi, hs0⟩ := id hst
    refine ⟨_, rfl, st, _, 0, .int c, rfl, rfl, SqL.of hs, atI_nat (j := 0) rfl, _, rfl, _, _, rfl, rfl, _, rfl, ?_⟩
    refine ite2 (fun _ => ?_) (fun _ => ?_)
    · refine ⟨_, rfl, st, _, 2, .int i, rfl, rfl, SqL.of hs, atI_nat (j := 2) rfl, _, rfl, st, _, 1, .ref l, rfl, rfl, SqL.of hs, atI_nat (j := 1) rfl, l, _, rfl, .inl (SqL.of hl), _, _, rfl, rfl, _, rfl, ?_⟩
      refine ite2 (fun k => ?_) (fun _ => ⟨rfl, fun _ _ _ h => h, hst⟩)
      have k' : i < ((ns.map V.int).length : Nat) := of_decide_eq_true k
      have hin : i.toNat < ns.length := by rw [List.length_map] at k'; omega
      have ei : i = ((i.toNat : Nat) : Int) := by omega
      have hat : atI (ns.map V.int) i = some (.int ns[i.toNat]) := by
        have e := atI_nat (xs := ns.map V.int) (j := i.toNat) (v := .int ns[i.toNat]) (by rw [List.getElem?_map, List.getElem?_eq_getElem hin] <;> rfl)
        rw [← ei] at e
        exact e
      refine ⟨_, rfl, st, _, 1, .ref l, rfl, rfl, SqL.of hs, atI_nat (j := 1) rfl, _, rfl, st, _, 2, .int i, rfl, rfl, SqL.of hs, atI_nat (j := 2) rfl, l, _, i, _, rfl, rfl, SqL.of hl, hat, _, rfl, fun m hm0 => ?_⟩
      have p := StOk.put (c' := m) (i' := i) (s' := s) hs hl hm0 hi hs0
      refine ⟨_, rfl, st, _, 0, 0, rfl, rfl, hs, rfl, ?_⟩
      refine ⟨_, rfl, st, _, 2, .int i, rfl, rfl, SqL.of upd_same, atI_nat (j := 2) rfl, _, _, rfl, rfl, _, rfl, st, _, 2, 2, rfl, rfl, upd_same, rfl, ?_⟩
      have p2 := StOk.put (c' := m) (i' := i + 1) (s' := s) (show upd H st (.lst [.int m, .ref l, .int i, .int s]) st = _ from upd_same) p.1 hm0 (by omega) hs0
      exact ⟨rfl, Sb.trans (.upd _) (.upd _), p2.2⟩
    · exact ⟨rfl, fun _ _ _ h => h, hst⟩
  · rintro σ' H2 ⟨rfl, h2, c, ns, i, s, hs, hl, hc, hi, hs0⟩
    refine ⟨_, rfl, st, _, 0, .int c, rfl, rfl, SqL.of hs, atI_nat (j := 0) rfl, rfl, _, rfl, ?_⟩
    by_cases k : c = 0
    · have p := StOk.put (c' := c) (i' := i) (s' := (s * 48271 + 7) % 2147483647) hs hl hc hi (Int.emod_nonneg _ (by decide))
      rw [decide_eq_true (show V.int c = V.int 0 by rw [k])]
      refine iteT ⟨_, rfl, st, _, 3, .int s, rfl, rfl, SqL.of hs, atI_nat (j := 3) rfl, _, _, rfl, rfl, .inr (by decide), _, _, rfl, rfl, .inl ⟨_, rfl, _, _, rfl, rfl, (by show (0 : Int) < 2147483647; decide), ?_⟩⟩
      refine ⟨_, rfl, st, _, 3, 3, rfl, rfl, hs, rfl, ?_⟩
      refine ⟨_, rfl, st, _, 3, _, rfl, rfl, SqL.of upd_same, atI_nat (j := 3) rfl, _, _, rfl, rfl, ⟨by decide, by decide⟩, .inl ⟨_, rfl, _, rfl, _, _, rfl, rfl, hm, ?_⟩⟩
      exact q _ _ (Sb.trans h2 (.upd _)) p.2 (Int.emod_nonneg _ (by omega)) (Int.emod_lt_of_pos _ hm)
    · have p := StOk.put (c' := c / many) (i' := i) (s' := s) hs hl (Int.ediv_nonneg hc (by omega)) hi hs0
      rw [decide_eq_false (show ¬ V.int c = V.int 0 from fun z => k (V.int.inj z))]
      refine iteF ⟨_, rfl, st, _, 0, .int c, rfl, rfl, SqL.of hs, atI_nat (j := 0) rfl, .inl ⟨c, rfl, _, rfl, _, _, rfl, rfl, hm, ?_⟩⟩
      refine ⟨_, rfl, st, _, 0, .int c, rfl, rfl, SqL.of hs, atI_nat (j := 0) rfl, _, rfl, _, _, rfl, rfl, ⟨hm, by omega⟩, ?_⟩
      refine ⟨_, rfl, st, _, 0, 0, rfl, rfl, hs, rfl, _, rfl, ?_⟩
      exact q _ _ (Sb.trans h2 (.upd _)) p.2 (Int.emod_nonneg _ (by omega)) (Int.emod_lt_of_pos _ hm)
end
end J

namespace J
open PySem L2

/-! ### words -/
theorem empty_cps : (Str.ofString "").cps = #[] := by decide +kernel
def okW (n : Nat) (z : Str) : Prop := nmOk z = true ∧ z.length ≤ n
theorem okW_append {a b : Str} {n m : Nat} (h : okW n a) (h' : okW m b) : okW (n + m) (a ++ b) := by
  have e : (a ++ b).cps = a.cps ++ b.cps := rfl
  refine ⟨?_, ?_⟩
  · have h1 : a.cps.all (· < 0x110000) = true := h.1
    have h2 : b.cps.all (· < 0x110000) = true := h'.1
    show (a ++ b).cps.all (· < 0x110000) = true
    rw [e, Array.all_append, h1, h2]
    rfl
  · show (a ++ b).cps.size ≤ n + m
    rw [e, Array.size_append]
    exact Nat.add_le_add h.2 h'.2
theorem okW_fold : ∀ (ys : List Str) (acc : Str) (n : Nat), okW n acc → (∀ y ∈ ys, okW 1 y) → okW (n + ys.length) ⟨ys.foldl (fun acc p => acc ++ (Str.ofString "").cps ++ p.cps) acc.cps⟩
  | [], acc, n, h, _ => h
  | y :: r, acc, n, h, hy => by
    have h1 := okW_append h (hy y (by simp))
    have h2 := okW_fold r (acc ++ y) (n + 1) h1 fun z hz => hy z (List.mem_cons_of_mem _ hz)
    have e : acc.cps ++ (Str.ofString "").cps ++ y.cps = (acc ++ y).cps := by rw [empty_cps, Array.append_empty]; rfl
    rw [List.foldl_cons, e, List.length_cons]
    have e2 : n + (r.length + 1) = n + 1 + r.length := by omega
    rw [e2]
    exact h2
theorem okW_join (ys : List Str) (h : ∀ y ∈ ys, okW 1 y) : okW ys.length (Txt.join (Str.ofString "") ys) := by
  cases ys with
  | nil => exact ⟨by decide +kernel, by decide +kernel⟩
  | cons y r =>
    have q := okW_fold r y 1 (h y (by simp)) fun z hz => h z (List.mem_cons_of_mem _ hz)
    rw [List.length_cons, Nat.add_comm]
    exact q
abbrev LET : Str := Str.ofString "abcdefghijklmnopqrstuvwxyz"
theorem let_all : ∀ i : _root_.Fin 26, LET.cps.toList[i.val]? = some (97 + i.val) := by decide +kernel
theorem let_len : LET.cps.toList.length = 26 := by decide +kernel
theorem let_at {i : Int} (h0 : 0 ≤ i) (h1 : i < 26) : atI LET.cps.toList i = some (97 + i.toNat) := by
  have e : i = ((i.toNat : Nat) : Int) := by omega
  have q := let_all ⟨i.toNat, by omega⟩
  rw [e]
  exact atI_nat (by rw [q]; congr 1)
theorem let_line : LET.length ≤ sizeLine := by
  have : LET.length = 26 := by show LET.cps.size = 26; rw [← Array.length_toList]; exact let_len
  rw [this]
  decide
theorem okW_sign {c : Nat} (h : c < 1000) : okW 1 ⟨#[c]⟩ := ⟨by simp [nmOk]; omega, Nat.le_refl 1⟩

section
variable {P : Program} {w : World} {K : PySem.W.Frag} {mg : Str → Option Value} {base : Heap}
def spWord : Sp := fun vs H Q _ => ∃ (st : Addr) (n : Int), vs = [.ref st, .int n] ∧ StOk H st ∧ 0 ≤ n ∧ n ≤ 3 ∧ ∀ H' z, Sb st H H' → StOk H' st → okW 3 z → Q (.str z) H'
theorem scWord : FnScope ["_law_state_here", "_law_size", "_law_letters", "_law_k"] ["_law_state_here", "_law_size"] (defScope (top 26)) := ⟨rfl, rfl, rfl, by decide +kernel, rfl, by decide +kernel, by decide +kernel⟩
theorem StOk.fresh {H : Hp} {st a : Addr} (h : StOk H st) (ha : H a = none) : a ≠ st := fun z => by
  obtain ⟨l, c, ns, i, s, h1, _⟩ := h
  rw [z, h1] at ha; cases ha
theorem StAt.fresh {H : Hp} {st l a : Addr} (h : StAt H st l) (ha : H a = none) : a ≠ st ∧ a ≠ l := by
  obtain ⟨c, ns, i, s, h1, h2, _⟩ := h
  exact ⟨fun z => (by rw [z, h1] at ha; cases ha), fun z => (by rw [z, h2] at ha; cases ha)⟩
theorem sb_at {st l : Addr} {H H2 : Hp} (e : Sb st H H2) (h : H l = none) (o : HO) : Sb st H (upd H2 l o) := fun b u n q => by
  rw [upd_ne (ne_of_none q h)]
  exact e b u n q
theorem ok_word (T : Txt K mg) : Keeps P w base 4 T.gL_word spWord := by
  refine T.gL_word.F.ok scWord (fun vs H Q E h => ?_) (fun cdv A outer s H vs Q E hr h => ?_)
  · obtain ⟨st, n, rfl, _⟩ := h
    rfl
  obtain ⟨st, n, rfl, hst, h0, h3, q⟩ := h
  refine ⟨_, pss_cons (ps_set (i := 2) scWord.nd rfl (Or.inr rfl) pe_str)
    (pss_one (ps_ret (pe_join pe_str (pe_lc (own := [("_law_k", 3)]) (g := gName 3) (tt := tYes) rfl scWord.nd (pi_range1 rfl T.z_range (pa_cons (pv 1) pa_nil)) (blkOk_by (N := ["_law_state_here", "_law_size", "_law_letters", "_law_k"]) (sc := defScope (top 26)) (by decide +kernel))
      (fun _ _ _ _ _ => pg_name (i := 3) scWord.nd rfl (Or.inl rfl)) (fun _ _ _ _ _ => pts_nil)
      (fun _ _ _ _ _ => pe_ix ix_str (pv 2) (pe_cl T.gL_draw (ok_draw T) hr (pa_cons (pv 0) (pa_cons pe_int pa_nil))) (fun _ _ => rfl)))))), ?_⟩
  refine ⟨⟨_, rfl⟩, _, rfl, n, rfl, by omega, by omega, fun D hD => ?_⟩
  obtain ⟨l, hst⟩ := hst
  obtain ⟨hDst, hDl⟩ := hst.fresh hD
  refine lc_range (lo := 0) (n := n.toNat) (fun i H2 => Sb st H H2 ∧ StAt H2 st l ∧ ∃ ys : List Str, H2 D = some (.lst (ys.map V.str)) ∧ ys.length = i ∧ ∀ y ∈ ys, okW 1 y)
    ⟨.of (same_upd hD _), hst.same (same_upd hD _), [], upd_same, rfl, fun _ h => nomatch h⟩ (fun i H2 hi h2 => ?_) (fun H2 h2 => ?_)
  · obtain ⟨h2, hs2, ys, hys, hyl, hyo⟩ := h2
    refine ⟨rfl, _, rfl, _, rfl, st, l, 26, rfl, hs2, by decide, by decide, fun H3 v h3 hs3 hv0 hv1 => ?_⟩
    have hD3 := h3 D _ hDst hys
    refine ⟨LET, v, _, rfl, rfl, let_line, let_at hv0 hv1, ys.map V.str, hD3, ?_, ?_, ?_, ys ++ [⟨#[97 + v.toNat]⟩], ?_, ?_, ?_⟩
    · rw [List.length_map]; exact small1000 (by omega)
    · exact sb_at (Sb.trans h2 h3) hD _
    · exact hs3.upd hDst hDl
    · rw [upd_same, List.map_append]
      rfl
    · rw [List.length_append, hyl]; rfl
    · intro y hy
      rcases List.mem_append.mp hy with z | z
      · exact hyo y z
      · rw [List.mem_singleton.mp z]
        exact okW_sign (by omega)
  · obtain ⟨h2, hs2, ys, hys, hyl, hyo⟩ := h2
    have w3 := okW_join ys hyo
    refine ⟨_, D, ys, rfl, rfl, .inl (SqL.of hys), ?_, q H2 _ h2 ⟨l, hs2⟩ ⟨w3.1, by have := w3.2; omega⟩⟩
    have e : (ys.map (·.length)).sum ≤ ys.length := by
      clear hys hyl w3
      induction ys with
      | nil => exact Nat.le_refl 0
      | cons y r ih =>
        have h1 := (hyo y (by simp)).2
        have h2 := ih fun z hz => hyo z (List.mem_cons_of_mem _ hz)
        rw [List.map_cons, List.sum_cons, List.length_cons]
        omega
    have e2 : (Str.ofString "").length = 0 := by show (Str.ofString "").cps.size = 0; rw [empty_cps]; rfl
    rw [e2]
    omega
end
end J

namespace J
open PySem L2

/-! ### names: six different ones -/
def nameAt (x y : Str) (c : Int) (i : Nat) : Str := x ++ ⟨#[97 + ((c + 3 * (i : Int)) % 26).toNat]⟩ ++ y
theorem nameAt_ok {x y : Str} (hx : okW 3 x) (hy : okW 3 y) (c : Int) (i : Nat) : okW 7 (nameAt x y c i) := by
  have h1 : (c + 3 * (i : Int)) % 26 < 26 := Int.emod_lt_of_pos _ (by decide)
  exact okW_append (n := 4) (okW_append (n := 3) (m := 1) hx (okW_sign (by omega))) hy
theorem nameAt_inj {x y : Str} {c : Int} {i j : Nat} (hi : i < 6) (hj : j < 6) (h : nameAt x y c i = nameAt x y c j) : i = j := by
  have e : (x.cps ++ #[97 + ((c + 3 * (i : Int)) % 26).toNat] ++ y.cps) = (x.cps ++ #[97 + ((c + 3 * (j : Int)) % 26).toNat] ++ y.cps) := congrArg Str.cps h
  have e2 := Array.append_left_inj y.cps |>.mp e
  have e3 := Array.append_right_inj x.cps |>.mp e2
  have e4 : 97 + ((c + 3 * (i : Int)) % 26).toNat = 97 + ((c + 3 * (j : Int)) % 26).toNat := by simpa using e3
  omega
theorem names_nodup (x y : Str) (c : Int) : ((List.range 6).map (nameAt x y c)).Nodup := by
  refine List.pairwise_map.mpr ?_
  refine List.Pairwise.imp_of_mem (fun {a b} ha hb h z => h ?_) (List.nodup_range (n := 6))
  exact nameAt_inj (List.mem_range.mp ha) (List.mem_range.mp hb) z
/-- six names, all different, that can be laid -/
structure Nms (ns : List Str) : Prop where
  len : ns.length = 6
  nd : ns.Nodup
  ok : ∀ x ∈ ns, nmOk x = true
theorem names_nms {x y : Str} (hx : okW 3 x) (hy : okW 3 y) (c : Int) : Nms ((List.range 6).map (nameAt x y c)) :=
  ⟨by simp, names_nodup x y c, fun z hz => by
    obtain ⟨i, _, rfl⟩ := List.mem_map.mp hz
    exact (nameAt_ok hx hy c i).1⟩

section
variable {P : Program} {w : World} {K : PySem.W.Frag} {mg : Str → Option Value} {base : Heap}
def spNames : Sp := fun vs H Q _ => ∃ (st : Addr), vs = [.ref st, .int 6] ∧ StOk H st ∧ ∀ H' p ns, Sb st H H' → StOk H' st → H p = none → H' p = some (.lst (ns.map V.str)) → Nms ns → Q (.ref p) H'
theorem scNames : FnScope ["_law_state_here", "_law_count", "_law_letters", "_law_before", "_law_behind", "_law_first", "_law_k"] ["_law_state_here", "_law_count"] (defScope (top 27)) := ⟨rfl, rfl, rfl, by decide +kernel, rfl, by decide +kernel, by decide +kernel⟩
theorem sb_free {st p : Addr} {H H' : Hp} (e : Sb st H H') (hst : StOk H st) (h : H' p = none) (hs' : StOk H' st) : H p = none := by
  cases q : H p with
  | none => rfl
  | some o =>
    by_cases z : p = st
    · obtain ⟨l, c, ns, i, s, h1, _⟩ := hs'
      rw [z, h1] at h; cases h
    · rw [e p o z q] at h; cases h
theorem ok_names (T : Txt K mg) : Keeps P w base 5 T.gL_names spNames := by
  refine T.gL_names.F.ok scNames (fun vs H Q E h => ?_) (fun cdv A outer s H vs Q E hr h => ?_)
  · obtain ⟨st, rfl, _⟩ := h
    rfl
  obtain ⟨st, rfl, hst, q⟩ := h
  refine ⟨_, pss_cons (ps_set (i := 2) scNames.nd rfl (Or.inr rfl) pe_str)
    (pss_cons (ps_set (i := 3) scNames.nd rfl (Or.inr rfl) (pe_cl T.gL_word (ok_word T) hr (pa_cons (pv 0) (pa_cons (pe_cl T.gL_draw (ok_draw T) (hr.mono (by decide)) (pa_cons (pv 0) (pa_cons pe_int pa_nil))) pa_nil))))
    (pss_cons (ps_set (i := 4) scNames.nd rfl (Or.inr rfl) (pe_cl T.gL_word (ok_word T) hr (pa_cons (pv 0) (pa_cons (pe_cl T.gL_draw (ok_draw T) (hr.mono (by decide)) (pa_cons (pv 0) (pa_cons pe_int pa_nil))) pa_nil))))
    (pss_cons (ps_set (i := 5) scNames.nd rfl (Or.inr rfl) (pe_cl T.gL_draw (ok_draw T) (hr.mono (by decide)) (pa_cons (pv 0) (pa_cons pe_int pa_nil))))
    (pss_one (ps_ret (pe_lc (own := [("_law_k", 6)]) (g := gName 6) (tt := tYes) rfl scNames.nd (pi_range1 rfl T.z_range (pa_cons (pv 1) pa_nil)) (blkOk_by (N := ["_law_state_here", "_law_count", "_law_letters", "_law_before", "_law_behind", "_law_first", "_law_k"]) (sc := defScope (top 27)) (by decide +kernel))
      (fun _ _ _ _ _ => pg_name (i := 6) scNames.nd rfl (Or.inl rfl)) (fun _ _ _ _ _ => pts_nil)
      (fun _ _ _ _ _ => pe_op op_add_str (pe_op op_add_str (pv 3) (pe_ix ix_str (pv 2) (pe_op op_mod (pe_callTy call_int1 rfl T.z_int PyProof.Rows.boot_int (pa_cons (pe_op op_add (pv 5) (pe_op op_mul pe_int (pv 6))) pa_nil)) pe_int) (fun _ _ => rfl))) (pv 4)))))))), ?_⟩
  obtain ⟨l, ha⟩ := hst
  refine ⟨_, rfl, _, rfl, st, l, 4, rfl, ha, by decide, by decide, fun H1 v1 h1 ha1 c0 c1 => ?_⟩
  refine ⟨st, v1, rfl, ⟨l, ha1⟩, c0, by omega, fun H2 x h2 hs2 hx => ?_⟩
  obtain ⟨l2, ha2⟩ := hs2
  refine ⟨_, rfl, _, rfl, st, l2, 4, rfl, ha2, by decide, by decide, fun H3 v3 h3 ha3 c0 c1 => ?_⟩
  refine ⟨st, v3, rfl, ⟨l2, ha3⟩, c0, by omega, fun H4 y h4 hs4 hy => ?_⟩
  obtain ⟨l4, ha4⟩ := hs4
  refine ⟨_, rfl, st, l4, 26, rfl, ha4, by decide, by decide, fun H5 c h5 ha5 c0 c1 => ?_⟩
  have s5 : Sb st H H5 := Sb.trans h1 (Sb.trans h2 (Sb.trans h3 (Sb.trans h4 h5)))
  refine ⟨_, rfl, 6, rfl, by decide, by decide, fun D hD => ?_⟩
  refine lc_range (lo := 0) (n := 6) (fun i H6 => Same H5 H6 ∧ H6 D = some (.lst (((List.range i).map (nameAt x y c)).map V.str))) ⟨same_upd hD _, upd_same⟩ (fun i H6 hi h6 => ?_) (fun H6 h6 => ?_)
  · obtain ⟨h6, hD6⟩ := h6
    have hx2 := hx.2
    have hy2 := hy.2
    refine ⟨rfl, _, rfl, _, rfl, _, rfl, _, rfl, _, _, rfl, rfl, .inl (by decide), _, _, rfl, rfl, .inl ⟨_, rfl, _, _, rfl, rfl, (by show (0 : Int) < 26; decide), ?_⟩⟩
    refine ⟨LET, _, _, rfl, rfl, let_line, let_at (Int.emod_nonneg _ (by decide)) (Int.emod_lt_of_pos _ (by decide)), x, _, rfl, rfl, line1000 (by show x.length + 1 ≤ 1000; omega), _, rfl, _, y, rfl, rfl, ?_, ?_⟩
    · refine line1000 ?_
      have e : (x ++ (⟨#[97 + ((c + 3 * (0 + (i : Int))) % 26).toNat]⟩ : Str)).length = x.length + 1 := by
        show (x.cps ++ #[97 + ((c + 3 * (0 + (i : Int))) % 26).toNat]).size = x.cps.size + 1
        rw [Array.size_append]
        rfl
      rw [e]
      omega
    · refine ⟨_, hD6, ?_, same_at h6 hD _, ?_⟩
      · rw [List.length_map, List.length_map, List.length_range]
        exact small1000 (by omega)
      · rw [upd_same, List.range_succ, List.map_append, List.map_append]
        have e : (0 : Int) + (i : Int) = (i : Int) := Int.zero_add _
        rw [e]
        rfl
  · obtain ⟨h6, hD6⟩ := h6
    exact q H6 D _ (Sb.trans s5 (.of h6)) ⟨l4, ha5.same h6⟩ (sb_free s5 ⟨l, ha⟩ hD ⟨l4, ha5⟩) hD6 (names_nms hx hy c)
end
end J

namespace J
open PySem L2

/-! ### the operations -/
def arL : List Nat := [0, 0, 1, 2, 2, 3]
def arF (ns : List Str) (f : Str) : Nat := ((ns.zip arL).lookup f).getD 0
theorem lookup_zip : ∀ {ns : List Str} {as : List Nat} {i : Nat} {n : Str} {a : Nat}, ns.Nodup → ns[i]? = some n → as[i]? = some a → (ns.zip as).lookup n = some a
  | x :: r, b :: bs, 0, n, a, _, h, h' => by
    have e1 : x = n := Option.some.inj h
    have e2 : b = a := Option.some.inj h'
    subst e1 e2
    simp [List.lookup]
  | x :: r, b :: bs, i + 1, n, a, nd, h, h' => by
    have q := List.nodup_cons.mp nd
    have h1 : r[i]? = some n := by simpa using h
    have ne : (n == x) = false := beq_eq_false_iff_ne.mpr fun z => q.1 (z ▸ List.mem_of_getElem? h1)
    have ih := lookup_zip q.2 h1 (by simpa using h')
    simp [List.lookup, ne, ih]
  | [], _, _, _, _, _, h, _ => by simp at h
  | _ :: _, [], _, _, _, _, _, h => by simp at h
theorem arF_at {ns : List Str} (N : Nms ns) {i : Nat} {n : Str} {a : Nat} (h : ns[i]? = some n) (h' : arL[i]? = some a) : arF ns n = a := by
  rw [arF, lookup_zip N.nd h h']
  rfl
theorem lookup_mem : ∀ {ns : List Str} {as : List Nat} {n : Str} {a : Nat}, (ns.zip as).lookup n = some a → a ∈ as
  | x :: r, b :: bs, n, a, h => by
    rw [List.zip_cons_cons, List.lookup_cons] at h
    split at h
    · cases h; exact List.mem_cons_self
    · exact List.mem_cons_of_mem _ (lookup_mem h)
  | [], _, _, _, h => by simp at h
  | _ :: _, [], _, _, h => by simp at h
theorem arF_le (ns : List Str) (f : Str) : arF ns f ≤ 3 := by
  unfold arF
  cases e : (ns.zip arL).lookup f with
  | none => exact Nat.zero_le 3
  | some a =>
    have m := lookup_mem e
    show a ≤ 3
    simp [arL] at m
    omega
/-- the operations as they lie: pairs of a name and its arity -/
def OpnsAt (H : Hp) (o : Addr) (ns : List Str) : Prop := ∃ rs : List Addr, H o = some (.lst (rs.map V.ref)) ∧ rs.length = 6 ∧ ∀ (i : Nat) (r : Addr), rs[i]? = some r → ∃ (n : Str) (a : Nat), ns[i]? = some n ∧ arL[i]? = some a ∧ H r = some (.tup [.str n, .int a])
theorem OpnsAt.ne {H : Hp} {st o : Addr} {ns : List Str} (h : OpnsAt H o ns) (hst : StOk H st) : o ≠ st := by
  obtain ⟨rs, h1, h2, _⟩ := h
  refine hst.ne_lst h1 fun c r z => ?_
  cases rs with
  | nil => cases z
  | cons a rs => cases z
theorem OpnsAt.sb {H H' : Hp} {st o : Addr} {ns : List Str} (h : OpnsAt H o ns) (hst : StOk H st) (e : Sb st H H') : OpnsAt H' o ns := by
  have hne := h.ne hst
  obtain ⟨rs, h1, h2, h3⟩ := h
  refine ⟨rs, e _ _ hne h1, h2, fun i r hi => ?_⟩
  obtain ⟨n, a, q1, q2, q3⟩ := h3 i r hi
  exact ⟨n, a, q1, q2, e _ _ (hst.ne_tup q3) q3⟩
theorem OpnsAt.same {H H' : Hp} {o : Addr} {ns : List Str} (h : OpnsAt H o ns) (e : Same H H') : OpnsAt H' o ns := by
  obtain ⟨rs, h1, h2, h3⟩ := h
  refine ⟨rs, e _ _ h1, h2, fun i r hi => ?_⟩
  obtain ⟨n, a, q1, q2, q3⟩ := h3 i r hi
  exact ⟨n, a, q1, q2, e _ _ q3⟩
/-- the i-th one -/
theorem OpnsAt.at {H : Hp} {o : Addr} {ns : List Str} (N : Nms ns) (h : OpnsAt H o ns) {i : Int} (h0 : 0 ≤ i) (h6 : i < 6) : ∃ (rs : List Addr) (r : Addr) (n : Str) (a : Nat), H o = some (.lst (rs.map V.ref)) ∧ rs.length = 6 ∧ atI (rs.map V.ref) i = some (.ref r) ∧
    H r = some (.tup [.str n, .int a]) ∧ ns[i.toNat]? = some n ∧ arL[i.toNat]? = some a ∧ arF ns n = a ∧ nmOk n = true := by
  obtain ⟨rs, h1, h2, h3⟩ := h
  have hi : i.toNat < rs.length := by omega
  have e : i = ((i.toNat : Nat) : Int) := by omega
  obtain ⟨n, a, q1, q2, q3⟩ := h3 i.toNat _ (List.getElem?_eq_getElem hi)
  refine ⟨rs, rs[i.toNat], n, a, h1, h2, ?_, q3, q1, q2, arF_at N q1 q2, N.ok n (List.mem_of_getElem? q1)⟩
  have z := atI_nat (xs := rs.map V.ref) (j := i.toNat) (v := .ref rs[i.toNat]) (by rw [List.getElem?_map, List.getElem?_eq_getElem hi] <;> rfl)
  rw [← e] at z
  exact z

section
variable {P : Program} {w : World} {K : PySem.W.Frag} {mg : Str → Option Value} {base : Heap}
/-! ### _law_two -/
def spTwo : Sp := fun vs H Q _ => ∃ (st : Addr), vs = [.ref st] ∧ StOk H st ∧ ∀ H' o ns, Sb st H H' → StOk H' st → OpnsAt H' o ns → Nms ns → Q (.ref o) H'
theorem scTwo : FnScope ["_law_state_here", "_law_names_here", "_law_arities", "_law_k"] ["_law_state_here"] (defScope (top 37)) := ⟨rfl, rfl, rfl, by decide +kernel, rfl, by decide +kernel, by decide +kernel⟩
theorem ok_two (T : Txt K mg) : Keeps P w base 6 T.gL_two spTwo := by
  refine T.gL_two.F.ok scTwo (fun vs H Q E h => ?_) (fun cdv A outer s H vs Q E hr h => ?_)
  · obtain ⟨st, rfl, _⟩ := h
    rfl
  obtain ⟨st, rfl, hst, q⟩ := h
  refine ⟨_, pss_cons (ps_set (i := 1) scTwo.nd rfl (Or.inr rfl) (pe_cl T.gL_names (ok_names T) hr (pa_cons (pv 0) (pa_cons pe_int pa_nil))))
    (pss_cons (ps_set (i := 2) scTwo.nd rfl (Or.inr rfl) (pe_lst (pa_cons pe_int (pa_cons pe_int (pa_cons pe_int (pa_cons pe_int (pa_cons pe_int (pa_cons pe_int pa_nil))))))))
    (pss_one (ps_ret (pe_lc (own := [("_law_k", 3)]) (g := gName 3) (tt := tYes) rfl scTwo.nd (pi_range1 rfl T.z_range (pa_cons pe_int pa_nil)) (blkOk_by (N := ["_law_state_here", "_law_names_here", "_law_arities", "_law_k"]) (sc := defScope (top 37)) (by decide +kernel))
      (fun _ _ _ _ _ => pg_name (i := 3) scTwo.nd rfl (Or.inl rfl)) (fun _ _ _ _ _ => pts_nil)
      (fun _ _ _ _ _ => pe_tup (pa_cons (pe_ix (r := rIxL K) ix_list (pv 1) (pv 3) (fun _ _ => rfl)) (pa_cons (pe_ix (r := rIxL K) ix_list (pv 2) (pv 3) (fun _ _ => rfl)) pa_nil))))))), ?_⟩
  refine ⟨_, rfl, st, rfl, hst, fun H1 p ns h1 hs1 hp hp1 N => ?_⟩
  refine ⟨(by show 6 ≤ sizeLine; decide), fun p2 hp2 => ?_⟩
  have s2 : Same H1 (upd H1 p2 (.lst (arL.map fun a : Nat => V.int a))) := same_upd hp2 _
  refine ⟨6, rfl, by decide, by decide, fun D hD => ?_⟩
  have hDH1 : H1 D = none := s2.free hD
  refine lc_range (lo := 0) (n := 6) (fun i H3 => Same H1 H3 ∧ H3 p2 = some (.lst (arL.map fun a : Nat => V.int a)) ∧ ∃ rs : List Addr, H3 D = some (.lst (rs.map V.ref)) ∧ rs.length = i ∧
      ∀ (j : Nat) (r : Addr), rs[j]? = some r → ∃ (n : Str) (a : Nat), ns[j]? = some n ∧ arL[j]? = some a ∧ H3 r = some (.tup [.str n, .int a]))
    ⟨Same.trans s2 (same_upd hD _), same_upd hD _ _ _ upd_same, [], upd_same, rfl, fun j r h => by simp at h⟩ (fun i H3 hi h3 => ?_) (fun H3 h3 => ?_)
  · obtain ⟨h3, h3p, rs, h3D, hrl, hrs⟩ := h3
    have hni : i < ns.length := by rw [N.len]; exact hi
    have hai : i < arL.length := hi
    have hn : atI (ns.map V.str) (0 + (i : Int)) = some (.str ns[i]) := by
      rw [Int.zero_add]
      exact atI_nat (by rw [List.getElem?_map, List.getElem?_eq_getElem hni] <;> rfl)
    have ha : atI (arL.map fun a : Nat => V.int a) (0 + (i : Int)) = some (.int arL[i]) := by
      rw [Int.zero_add]
      exact atI_nat (by rw [List.getElem?_map, List.getElem?_eq_getElem hai] <;> rfl)
    refine ⟨rfl, _, rfl, _, rfl, p, _, _, _, rfl, rfl, SqL.of (h3 _ _ hp1), hn, _, rfl, _, rfl, p2, _, _, _, rfl, rfl, SqL.of h3p, ha, (by show 2 ≤ sizeLine; decide), fun t ht => ?_⟩
    have h4 : Same H3 (upd H3 t (.tup [.str ns[i], .int arL[i]])) := same_upd ht _
    have h4D := h4 _ _ h3D
    refine ⟨rs.map V.ref, h4D, ?_, same_at (Same.trans h3 h4) hDH1 _, ?_, rs ++ [t], ?_, ?_, ?_⟩
    · rw [List.length_map]; exact small1000 (by omega)
    · rw [upd_ne (ne_of (h4 _ _ h3p) h4D ?_)]
      · exact h4 _ _ h3p
      · intro z
        cases rs with
        | nil => cases z
        | cons a r => cases z
    · rw [upd_same, List.map_append]
      rfl
    · rw [List.length_append, hrl]; rfl
    · intro j r hj
      by_cases c : j < rs.length
      · rw [List.getElem?_append_left c] at hj
        obtain ⟨n, a, q1, q2, q3⟩ := hrs j r hj
        exact ⟨n, a, q1, q2, tups_lst h4D _ _ (h4 _ _ q3)⟩
      · rw [List.getElem?_append_right (by omega)] at hj
        have ej : j - rs.length = 0 := by
          by_cases z : j - rs.length = 0
          · exact z
          · rw [List.getElem?_eq_none (by simp; omega)] at hj; cases hj
        rw [ej] at hj
        have er : t = r := Option.some.inj hj
        have ej2 : j = i := by omega
        subst er ej2
        exact ⟨ns[j], arL[j], List.getElem?_eq_getElem hni, List.getElem?_eq_getElem hai, tups_lst h4D _ _ upd_same⟩
  · obtain ⟨h3, h3p, rs, h3D, hrl, hrs⟩ := h3
    exact q H3 D ns (Sb.trans h1 (.of h3)) (hs1.same h3) ⟨rs, h3D, hrl, hrs⟩ N

/-! ### _law_leaf, _law_term -/
def spLeaf (ns : List Str) : Sp := fun vs H Q _ => ∃ (st o : Addr), vs = [.ref st, .ref o, .int 2] ∧ StOk H st ∧ OpnsAt H o ns ∧ ∀ H' v t, Sb st H H' → StOk H' st → TmAt H' t v → ok (arF ns) t → inn t = 0 → Q v H'
theorem scLeaf : FnScope ["_law_state_here", "_law_operations", "_law_count"] ["_law_state_here", "_law_operations", "_law_count"] (defScope (top 28)) := ⟨rfl, rfl, rfl, by decide +kernel, rfl, by decide +kernel, by decide +kernel⟩
theorem ok_leaf {ns : List Str} (N : Nms ns) (T : Txt K mg) : Keeps P w base 4 T.gL_leaf (spLeaf ns) := by
  refine T.gL_leaf.F.ok scLeaf (fun vs H Q E h => ?_) (fun cdv A outer s H vs Q E hr h => ?_)
  · obtain ⟨st, o, rfl, _⟩ := h
    rfl
  obtain ⟨st, o, rfl, hst, ho, q⟩ := h
  refine ⟨_, pss_cons (ps_if (PW.pt (pw_and (pt_cmpR op_gt (pv 2) pe_int (nomark _)) (pw_and1 (pt_cmpR op_eq (pe_cl T.gL_draw (ok_draw T) hr (pa_cons (pv 0) (pa_cons pe_int pa_nil))) pe_int (nomark _)))))
      (pss_one (ps_ret (pe_cl T.gL_draw (ok_draw T) hr (pa_cons (pv 0) (pa_cons (pv 2) pa_nil))))) pss_nil)
    (pss_one (ps_ret (pe_tup (pa_cons (pe_ix ix_tup (pe_ix ix_list (pv 1) (pe_cl T.gL_draw (ok_draw T) hr (pa_cons (pv 0) (pa_cons pe_int pa_nil))) (fun _ _ => rfl)) pe_int (fun _ _ => rfl)) pa_nil)))), ?_⟩
  obtain ⟨l, ha⟩ := id hst
  refine ⟨_, rfl, _, _, rfl, rfl, _, rfl, ?_⟩
  rw [decide_eq_true (show (0 : Int) < 2 by decide)]
  refine iteT ⟨_, rfl, st, l, 2, rfl, ha, by decide, by decide, fun H1 v1 h1 ha1 c0 c1 => ⟨rfl, _, rfl, ?_⟩⟩
  refine ite2 (fun _ => ?_) (fun _ => ?_)
  · refine ⟨_, rfl, _, rfl, st, l, 2, rfl, ha1, by decide, by decide, fun H2 v2 h2 ha2 c0 c1 => ?_⟩
    exact q H2 _ (.var v2) (Sb.trans h1 h2) ⟨l, ha2⟩ (.var v2) trivial rfl
  · have ho1 := ho.sb hst h1
    refine ⟨_, rfl, _, rfl, st, l, 2, rfl, ha1, by decide, by decide, fun H2 v2 h2 ha2 c0 c1 => ?_⟩
    have ho2 := ho1.sb ⟨l, ha1⟩ h2
    obtain ⟨rs, r, n, a, g1, g2, g3, g4, g5, g6, g7, g8⟩ := ho2.at N c0 (by omega)
    refine ⟨o, _, _, _, rfl, rfl, SqL.of g1, g3, r, _, 0, .str n, rfl, rfl, SqT.of g4, atI_nat (j := 0) rfl, (by show 1 ≤ sizeLine; decide), fun p hp => ?_⟩
    have hv : v2.toNat = 0 ∨ v2.toNat = 1 := by omega
    have ea : a = 0 := by
      rcases hv with z | z
      · rw [z] at g6; exact (Option.some.inj g6).symm
      · rw [z] at g6; exact (Option.some.inj g6).symm
    refine q _ _ (.app n []) (Sb.trans h1 (Sb.trans h2 (.of (same_upd hp _)))) ⟨l, ha2.same (same_upd hp _)⟩ (.app upd_same .nil) ⟨⟨g8, ?_⟩, trivial⟩ rfl
    rw [g7, ea]
    rfl
def cap : Nat → Nat
  | 0 => 0
  | n + 1 => 1 + 3 * cap n
def spTerm (ns : List Str) (n : Nat) : Sp := fun vs H Q _ => ∃ (st o : Addr), vs = [.ref st, .ref o, .int 2, .int n] ∧ StOk H st ∧ OpnsAt H o ns ∧ ∀ H' v t, Sb st H H' → StOk H' st → TmAt H' t v → ok (arF ns) t → inn t ≤ cap n → Q v H'
theorem scTerm : FnScope ["_law_state_here", "_law_operations", "_law_count", "_law_height", "_law_name", "_law_arity", "_law_term_here", "_law_k"] ["_law_state_here", "_law_operations", "_law_count", "_law_height"] (defScope (top 29)) := ⟨rfl, rfl, rfl, by decide +kernel, rfl, by decide +kernel, by decide +kernel⟩
/-- a height further, or the height 0 -/
theorem ok_term1 {ns : List Str} (N : Nms ns) (T : Txt K mg) {n j : Nat} (hj : 4 ≤ j) (G : ∀ m, n = m + 1 → Keeps P w base j T.gL_term (spTerm ns m)) : Keeps P w base (j + 1) T.gL_term (spTerm ns n) := by
  have G' : Keeps P w base j T.gL_term (fun vs H Q E => ∃ m, n = m + 1 ∧ spTerm ns m vs H Q E) := by
    cases n with
    | zero => exact (no_call fun vs H Q E ⟨m, h, _⟩ => nomatch h).mono (Nat.zero_le _)
    | succ m => exact (G m rfl).imp fun vs H Q E ⟨m', e, h⟩ => by cases e; exact h
  refine T.gL_term.F.ok scTerm (fun vs H Q E h => ?_) (fun cdv A outer s H vs Q E hr h => ?_)
  · obtain ⟨st, o, rfl, _⟩ := h
    rfl
  obtain ⟨st, o, rfl, hst, ho, q⟩ := h
  refine ⟨_, pss_cons (ps_if (PW.pt (pw_or (pt_cmpR op_eq (pv 3) pe_int (nomark _)) (pw_or1 (pt_cmpR op_eq (pe_cl T.gL_draw (ok_draw T) (hr.mono (by omega)) (pa_cons (pv 0) (pa_cons pe_int pa_nil))) pe_int (nomark _)))))
      (pss_one (ps_ret (pe_cl T.gL_leaf (ok_leaf N T) (hr.mono hj) (pa_cons (pv 0) (pa_cons (pv 1) (pa_cons (pv 2) pa_nil)))))) pss_nil)
    (pss_cons (ps_asg (pe_ix ix_list (pv 1) (pe_op op_add pe_int (pe_cl T.gL_draw (ok_draw T) (hr.mono (by omega)) (pa_cons (pv 0) (pa_cons (pe_op op_sub (pe_callB call_len_seq rfl T.z_len PySem.boot_len (pa_cons (pv 1) pa_nil)) pe_int) pa_nil)))) (fun _ _ => rfl))
      (pg_tup rfl (pgs_cons (pg_name (i := 4) scTerm.nd rfl (.inl rfl)) (pgs_cons (pg_name (i := 5) scTerm.nd rfl (.inl rfl)) pgs_nil))))
    (pss_cons (ps_set (i := 6) scTerm.nd rfl (Or.inl rfl) (pe_tup (pa_cons (pv 4) pa_nil)))
    (pss_cons (ps_for PassesOwn.never rfl (pi_range1 rfl T.z_range (pa_cons (pv 5) pa_nil)) (pg_name (i := 7) scTerm.nd rfl (Or.inl rfl))
      (pss_one (ps_set (i := 6) scTerm.nd rfl (Or.inl rfl) (pe_op op_catT (pv 6) (pe_tup (pa_cons (pe_cl T.gL_term G' hr (pa_cons (pv 0) (pa_cons (pv 1) (pa_cons (pv 2) (pa_cons (pe_op op_sub (pv 3) pe_int) pa_nil))))) pa_nil))))))
    (pss_one (ps_ret (pv 6)))))), ?_⟩
  have leaf : ∀ (H1 : Hp), Sb st H H1 → StOk H1 st → tRet (tCall (spLeaf ns) [] E0 (tCons (tVar 0) (tCons (tVar 1) (tCons (tVar 2) tNil)))) { nx := fun _ H' => Q .non H', rt := Q } [some (.ref st), some (.ref o), some (.int 2), some (.int n), none, none, none, none] H1 := fun H1 h1 hs1 => by
    refine ⟨_, rfl, _, rfl, _, rfl, st, o, rfl, hs1, ho.sb hst h1, fun H2 v t h2 hs2 ht hok hin => ?_⟩
    exact q H2 v t (Sb.trans h1 h2) hs2 ht hok (by omega)
  refine ⟨_, rfl, rfl, _, rfl, ?_⟩
  by_cases c : n = 0
  · rw [decide_eq_true (show V.int (n : Int) = V.int 0 by rw [c]; rfl)]
    exact iteT (iteT (leaf H (fun _ _ _ h => h) hst))
  rw [decide_eq_false (show ¬ V.int (n : Int) = V.int 0 from fun z => c (by have := V.int.inj z; omega))]
  obtain ⟨m, rfl⟩ : ∃ m, n = m + 1 := ⟨n - 1, by omega⟩
  obtain ⟨l, ha⟩ := id hst
  refine iteF ⟨_, rfl, st, l, 4, rfl, ha, by decide, by decide, fun H1 v1 h1 ha1 c0 c1 => ⟨rfl, _, rfl, ?_⟩⟩
  refine ite2 (fun _ => leaf H1 h1 ⟨l, ha1⟩) (fun _ => ?_)
  have ho1 := ho.sb hst h1
  obtain ⟨rs1, g1, g2, _⟩ := id ho1
  refine ⟨_, rfl, _, rfl, _, rfl, o, _, rfl, .inl (SqL.of g1), _, _, rfl, rfl, st, l, 4, ?_, ha1, by decide, by decide, fun H2 v2 h2 ha2 c0 c1 => ?_⟩
  · rw [List.length_map, g2]
    rfl
  have ho2 := ho1.sb ⟨l, ha1⟩ h2
  obtain ⟨rs, r, nm, a, k1, k2, k3, k4, k5, k6, k7, k8⟩ := ho2.at N (i := 2 + v2) (by omega) (by omega)
  have hal : a ≤ 3 := by rw [← k7]; exact arF_le ns nm
  refine ⟨_, _, rfl, rfl, o, _, _, _, rfl, rfl, SqL.of k1, k3, r, _, rfl, SqT.of k4, rfl, .str nm, [.int a], rfl, .int a, [], rfl, rfl, _, rfl, (by show 1 ≤ sizeLine; decide), fun p hp => ?_⟩
  have s12 := Sb.trans h1 h2
  have s3 : Same H2 (upd H2 p (.tup [.str nm])) := same_upd hp _
  refine ⟨_, rfl, a, rfl, by omega, by omega, ?_⟩
  refine for_range (lo := 0) (n := (a : Int).toNat) (fun i σ H3 => Sb st H H3 ∧ StOk H3 st ∧ OpnsAt H3 o ns ∧ ∃ p vs ts z, H3 p = some (.tup (.str nm :: vs)) ∧ TmsAt H3 ts vs ∧ ts.length = i ∧ okL (arF ns) ts ∧ innL ts ≤ i * cap m ∧
      σ = [some (.ref st), some (.ref o), some (.int 2), some (.int ((m + 1 : Nat) : Int)), some (.str nm), some (.int a), some (.ref p), z])
    ⟨Sb.trans s12 (.of s3), ⟨l, ha2.same s3⟩, ho2.same s3, p, [], [], none, upd_same, .nil, rfl, trivial, by simp [innL], rfl⟩ (fun i σ H3 hi h3 => ?_) (fun σ H3 h3 => ?_)
  · obtain ⟨h3, hs3, ho3, p, vs, ts, z, e1, e2, e3, e4, e5, rfl⟩ := h3
    refine ⟨_, rfl, _, rfl, _, rfl, _, rfl, _, rfl, _, _, rfl, rfl, m, rfl, st, o, ?_, hs3, ho3, fun H4 v t h4 hs4 ht hok hin => ?_⟩
    · exact congrArg (fun k : Int => [V.ref st, V.ref o, V.int 2, V.int k]) (by omega)
    refine ⟨(by show 1 ≤ sizeLine; decide), fun p4 hp4 => ?_⟩
    have s4 : Same H4 (upd H4 p4 (.tup [v])) := same_upd hp4 _
    have t4 := hs3.tups h4
    have l2 := e2.len
    refine ⟨p, p4, _, _, rfl, rfl, SqT.of (s4 _ _ (t4 _ _ e1)), SqT.of upd_same, by simp, line1000 (by simp only [List.length_cons, List.length_nil]; omega), (fun z => absurd z (by simp)), fun _ p5 hp5 => ?_⟩
    have s5 : Same (upd H4 p4 (.tup [v])) (upd (upd H4 p4 (.tup [v])) p5 (.tup ((.str nm :: vs) ++ [v]))) := same_upd hp5 _
    have s45 := Same.trans s4 s5
    refine ⟨Sb.trans h3 (Sb.trans h4 (.of s45)), hs4.same s45, (ho3.sb hs3 h4).same s45, p5, vs ++ [v], ts ++ [t], some (.int (0 + (i : Int))), upd_same, ((e2.mono t4).append (.cons ht .nil)).same s45, by rw [List.length_append, e3]; rfl, ?_, ?_, rfl⟩
    · refine okL_iff.mpr fun x hx => ?_
      rcases List.mem_append.mp hx with y | y
      · exact okL_iff.mp e4 x y
      · rw [List.mem_singleton.mp y]; exact hok
    · rw [innL_append, innL, innL, Nat.add_mul]
      omega
  · obtain ⟨h3, hs3, ho3, p, vs, ts, z, e1, e2, e3, e4, e5, rfl⟩ := h3
    have e3' : ts.length = a := by rw [e3]; omega
    refine ⟨_, rfl, q H3 _ (.app nm ts) h3 hs3 (.app e1 e2) ⟨⟨k8, by rw [k7]; exact e3'⟩, e4⟩ ?_⟩
    have hmul : (a : Int).toNat * cap m ≤ 3 * cap m := Nat.mul_le_mul_right _ (by omega)
    rw [inn, cap]
    split <;> omega
theorem ok_term {ns : List Str} (N : Nms ns) (T : Txt K mg) : ∀ n : Nat, Keeps P w base (n + 5) T.gL_term (spTerm ns n)
  | 0 => ok_term1 N T (j := 4) (Nat.le_refl 4) fun m h => nomatch h
  | n + 1 => ok_term1 N T (j := n + 5) (by omega) fun m h => by
    cases h
    exact ok_term N T n
end
end J

namespace J
open PySem L2

/-! ### positions in the heap -/
def PosV (p : List Nat) : List V := p.map fun k : Nat => V.int k
def PosAt (H : Hp) (t : Tm) (r : Addr) : Prop := ∃ q : List Nat, H r = some (.tup (PosV q)) ∧ vpos q t
theorem PosAt.mono {H H' : Hp} {t : Tm} {r : Addr} (h : PosAt H t r) (e : Tups H H') : PosAt H' t r := by
  obtain ⟨q, h1, h2⟩ := h
  exact ⟨q, e _ _ h1, h2⟩
theorem vpos_len : ∀ (p : List Nat) (t : Tm), vpos p t → p.length + 1 ≤ dep t
  | [], t, _ => dep_pos t
  | k :: q, .app f as, h => by
    have hi : k - 1 < as.length := by have := h.1; have := h.2.1; omega
    have ih := vpos_len q _ h.2.2
    have m := depL_mem (List.mem_of_getElem? (getD_at hi))
    rw [List.length_cons, dep]
    omega
  | _ :: _, .var _, h => h.elim
/-- the k-th argument of an application, as it lies -/
theorem arg_at {H : Hp} {f : Str} {as : List Tm} {vs : List V} {k : Nat} (h : TmsAt H as vs) (h1 : 1 ≤ k) (h2 : k ≤ as.length) : ∃ v, vs[k - 1]? = some v ∧ atI (V.str f :: vs) (k : Int) = some v ∧ TmAt H (as.getD (k - 1) (.var 0)) v := by
  obtain ⟨v, e1, e2⟩ := h.get (getD_at (show k - 1 < as.length by omega))
  refine ⟨v, e1, atI_nat ?_, e2⟩
  obtain ⟨m, rfl⟩ : ∃ m, k = m + 1 := ⟨k - 1, by omega⟩
  exact e1

section
variable {P : Program} {w : World} {K : PySem.W.Frag} {mg : Str → Option Value} {base : Heap}
/-! ### _law_subterm -/
def spSub : Sp := fun vs H Q _ => ∃ (v : V) (pa : Addr) (t : Tm) (p : List Nat), vs = [v, .ref pa] ∧ TmAt H t v ∧ H pa = some (.tup (PosV p)) ∧ vpos p t ∧ ∀ r, TmAt H (sub p t) r → Q r H
theorem scSub : FnScope ["_law_term_here", "_law_position", "_law_k"] ["_law_term_here", "_law_position"] (defScope (top 30)) := ⟨rfl, rfl, rfl, by decide +kernel, rfl, by decide +kernel, by decide +kernel⟩
theorem posv_at {p : List Nat} {i : Nat} {x : V} (h : (PosV p)[i]? = some x) : ∃ k : Nat, p[i]? = some k ∧ x = .int k ∧ p.drop i = k :: p.drop (i + 1) := by
  unfold PosV at h
  rw [List.getElem?_map] at h
  cases e : p[i]? with
  | none => rw [e] at h; cases h
  | some k =>
    rw [e] at h
    obtain ⟨hi, ek⟩ := List.getElem?_eq_some_iff.mp e
    exact ⟨k, rfl, (Option.some.inj h).symm, by rw [List.drop_eq_getElem_cons hi, ek]⟩
theorem ok_sub (T : Txt K mg) : Keeps P w base 1 T.gL_subterm spSub := by
  refine T.gL_subterm.F.ok scSub (fun vs H Q E h => ?_) (fun cdv A outer s H vs Q E hr h => ?_)
  · obtain ⟨v, pa, t, p, rfl, _⟩ := h
    rfl
  obtain ⟨v, pa, t, p, rfl, ht, hp, hv, q⟩ := h
  refine ⟨_, pss_cons (ps_for PassesOwn.never rfl (pi_tup (pv 1)) (pg_name (i := 2) scSub.nd rfl (Or.inl rfl))
      (pss_one (ps_set (i := 0) scSub.nd rfl (Or.inl rfl) (pe_ix ix_tup (pv 0) (pv 2) (fun _ _ => rfl)))))
    (pss_one (ps_ret (pv 0))), ?_⟩
  refine ⟨_, rfl, pa, rfl, ⟨_, SqT.of hp⟩, ?_⟩
  refine for_tup (xs := PosV p) (fun i σ H2 => H2 = H ∧ ∃ u cur z, TmAt H u cur ∧ vpos (p.drop i) u ∧ sub (p.drop i) u = sub p t ∧ σ = [some cur, some (.ref pa), z]) ⟨rfl, t, v, none, ht, hv, rfl, rfl⟩ (fun i σ H2 _ h2 => by rw [h2.1]; exact SqT.of hp) (fun i x σ H2 hx h2 => ?_) (fun σ H2 h2 => ?_)
  · obtain ⟨rfl, u, cur, z, hu, hvu, es, rfl⟩ := h2
    obtain ⟨k, e1, rfl, e2⟩ := posv_at hx
    rw [e2] at hvu es
    cases u with
    | var n => exact hvu.elim
    | app f as =>
      obtain ⟨a, vs, rfl, ha, hvs⟩ := hu.inv_app
      obtain ⟨y, y1, y2, y3⟩ := arg_at (f := f) hvs hvu.1 hvu.2.1
      exact ⟨_, rfl, _, rfl, a, _, _, y, rfl, rfl, SqT.of ha, y2, rfl, _, y, some (.int k), y3, hvu.2.2, es, rfl⟩
  · obtain ⟨rfl, u, cur, z, hu, hvu, es, rfl⟩ := h2
    have e0 : p.drop (PosV p).length = [] := by rw [PosV, List.length_map, List.drop_length]
    rw [e0] at es
    exact ⟨_, rfl, q cur (by rw [← es]; exact hu)⟩

/-! ### _law_replace -/
theorem cut_to (xs : List V) (k : Nat) (h : k ≤ xs.length) : cutV xs none (some (k : Int)) = xs.take k := by
  unfold cutV
  rw [HT.sIx_none, HT.sIx_nat, List.drop_zero, Nat.sub_zero, Nat.min_eq_left h]
theorem cut_from (xs : List V) (k : Nat) (h : k ≤ xs.length) : cutV xs (some (k : Int)) none = xs.drop k := by
  unfold cutV
  rw [HT.sIx_none, HT.sIx_nat, Nat.min_eq_left h]
  exact List.take_of_length_le (by rw [List.length_drop]; exact Nat.le_refl _)
theorem put_at : ∀ (vs : List V) (m : Nat) (r : V), m < vs.length → vs.take m ++ [r] ++ vs.drop (m + 1) = vs.set m r
  | x :: vs, 0, r, _ => by simp
  | x :: vs, m + 1, r, h => by
    have ih := put_at vs m r (by simpa using h)
    rw [List.take_succ_cons, List.drop_succ_cons, List.set_cons_succ, List.cons_append, List.cons_append, ih]
def spRepl (n : Nat) : Sp := fun vs H Q _ => ∃ (v : V) (pa : Addr) (u : V) (t : Tm) (p : List Nat) (new : Tm), vs = [v, .ref pa, u] ∧ TmAt H t v ∧ H pa = some (.tup (PosV p)) ∧ TmAt H new u ∧ vpos p t ∧ p.length ≤ n ∧
  (∃ ar : Str → Nat, (∀ f, ar f ≤ 3) ∧ ok ar t) ∧ ∀ H' r, Same H H' → TmAt H' (repl p t new) r → Q r H'
theorem scRepl : FnScope ["_law_term_here", "_law_position", "_law_new", "_law_k"] ["_law_term_here", "_law_position", "_law_new"] (defScope (top 31)) := ⟨rfl, rfl, rfl, by decide +kernel, rfl, by decide +kernel, by decide +kernel⟩
theorem ok_repl1 (T : Txt K mg) {n j : Nat} (G : ∀ m, n = m + 1 → Keeps P w base j T.gL_replace (spRepl m)) : Keeps P w base (j + 1) T.gL_replace (spRepl n) := by
  have G' : Keeps P w base j T.gL_replace (fun vs H Q E => ∃ m, n = m + 1 ∧ spRepl m vs H Q E) := by
    cases n with
    | zero => exact (no_call fun vs H Q E ⟨m, h, _⟩ => nomatch h).mono (Nat.zero_le _)
    | succ m => exact (G m rfl).imp fun vs H Q E ⟨m', e, h⟩ => by cases e; exact h
  refine T.gL_replace.F.ok scRepl (fun vs H Q E h => ?_) (fun cdv A outer s H vs Q E hr h => ?_)
  · obtain ⟨v, pa, u, t, p, new, rfl, _⟩ := h
    rfl
  obtain ⟨v, pa, u, t, p, new, rfl, ht, hp, hu, hv, hn, ⟨ar, h3, ho⟩, q⟩ := h
  refine ⟨_, pss_cons (ps_if (pt_cmpR op_eq (pe_callB call_len_seq rfl T.z_len PySem.boot_len (pa_cons (pv 1) pa_nil)) pe_int (nomark _)) (pss_one (ps_ret (pv 2))) pss_nil)
    (pss_cons (ps_set (i := 3) scRepl.nd rfl (Or.inl rfl) (pe_ix ix_tup (pv 1) pe_int (fun _ _ => rfl)))
    (pss_one (ps_ret (pe_op op_catT (pe_op op_catT (pe_slice sl_tup (pv 0) po_none (po_some (pv 3)))
        (pe_tup (pa_cons (pe_cl T.gL_replace G' hr (pa_cons (pe_ix ix_tup (pv 0) (pv 3) (fun _ _ => rfl)) (pa_cons (pe_tail (pv 1)) (pa_cons (pv 2) pa_nil)))) pa_nil)))
      (pe_slice sl_tup (pv 0) (po_some (pe_op op_add (pv 3) pe_int)) po_none))))), ?_⟩
  refine ⟨_, rfl, pa, _, rfl, .inr (SqT.of hp), rfl, _, rfl, ?_⟩
  cases p with
  | nil => exact iteT ⟨_, rfl, q H u (Same.refl H) hu⟩
  | cons k p =>
    cases t with
    | var n => exact hv.elim
    | app f as =>
      obtain ⟨a, vs, rfl, ha, hvs⟩ := ht.inv_app
      obtain ⟨hk1, hk2, hv'⟩ := hv
      obtain ⟨y, y1, y2, y3⟩ := arg_at (f := f) hvs hk1 hk2
      have hl := hvs.len
      have hal : as.length ≤ 3 := by rw [ho.1.2]; exact h3 f
      obtain ⟨m, rfl⟩ : ∃ m, n = m + 1 := ⟨n - 1, by simp only [List.length_cons] at hn; omega⟩
      have enz : decide (V.int (((PosV (k :: p)).length : Nat) : Int) = V.int 0) = false := decide_eq_false fun z => by
        have z' := V.int.inj z
        simp only [PosV, List.length_map, List.length_cons] at z'
        omega
      rw [enz]
      refine iteF ⟨_, rfl, pa, _, 0, .int k, rfl, rfl, SqT.of hp, atI_nat (j := 0) rfl, ?_⟩
      refine ⟨_, rfl, _, rfl, k, rfl, a, _, rfl, SqT.of ha, ?_, fun p1 hp1 => ?_⟩
      · rintro ⟨_, z⟩
        rw [HT.sIx_nat, List.length_cons] at z
        omega
      rw [cut_to _ _ (by rw [List.length_cons]; omega)]
      have s1 := same_upd hp1 (.tup ((V.str f :: vs).take k))
      refine ⟨_, rfl, _, rfl, a, _, _, y, rfl, rfl, SqT.of (s1 _ _ ha), y2, _, rfl, _, rfl, pa, _, PosV p, rfl, rfl, rfl, SqT.of (s1 _ _ hp), fun p2 hp2 => ?_⟩
      have s2 := Same.trans s1 (same_upd hp2 (.tup (PosV p)))
      refine ⟨_, rfl, m, rfl, y, p2, u, _, p, new, rfl, y3.same s2, upd_same, hu.same s2, hv', by simp only [List.length_cons] at hn; omega, ⟨ar, h3, okL_iff.mp ho.2 _ (List.mem_of_getElem? (getD_at (by omega)))⟩, fun H3 r h3 hr3 => ?_⟩
      refine ⟨(by show 1 ≤ sizeLine; decide), fun p4 hp4 => ?_⟩
      have s4 : Same H3 (upd H3 p4 (.tup [r])) := same_upd hp4 _
      have b1 := s4 _ _ (h3 _ _ (same_upd hp2 (.tup (PosV p)) _ _ (show upd H p1 (.tup ((V.str f :: vs).take k)) p1 = some (.tup ((V.str f :: vs).take k)) from upd_same)))
      have s24 := Same.trans s2 (Same.trans h3 s4)
      refine ⟨p1, p4, _, _, rfl, rfl, SqT.of b1, SqT.of upd_same, ?_, ?_, (fun z => absurd z (by simp)), fun _ p5 hp5 => ?_⟩
      · obtain ⟨k', rfl⟩ : ∃ k', k = k' + 1 := ⟨k - 1, by omega⟩
        simp
      · refine line1000 ?_
        rw [List.length_take, List.length_cons, List.length_singleton]
        omega
      have s5 : Same (upd H3 p4 (.tup [r])) (upd (upd H3 p4 (.tup [r])) p5 (.tup ((V.str f :: vs).take k ++ [r]))) := same_upd hp5 _
      have s25 := Same.trans s24 s5
      refine ⟨_, rfl, _, rfl, _, _, rfl, rfl, _, rfl, a, _, rfl, SqT.of (s25 _ _ ha), ?_, fun p6 hp6 => ?_⟩
      · rintro ⟨z, _⟩
        have e : (k : Int) + 1 = ((k + 1 : Nat) : Int) := by omega
        rw [e, HT.sIx_nat, List.length_cons] at z
        omega
      have e : (k : Int) + 1 = ((k + 1 : Nat) : Int) := by omega
      rw [e, cut_from _ _ (by rw [List.length_cons]; omega)]
      have s6 := same_upd hp6 (.tup ((V.str f :: vs).drop (k + 1)))
      -- what it makes, at any place
      have fin : ∀ (H7 : Hp) (p7 : Addr), Same H H7 → TmAt H7 (repl p (as.getD (k - 1) (.var 0)) new) r → H7 p7 = some (.tup ((V.str f :: vs).take k ++ [r] ++ (V.str f :: vs).drop (k + 1))) → Q (.ref p7) H7 := by
        intro H7 p7 h7 hr7 e7
        refine q H7 _ h7 ?_
        obtain ⟨k', rfl⟩ : ∃ k', k = k' + 1 := ⟨k - 1, by omega⟩
        rw [List.take_succ_cons, List.drop_succ_cons, List.cons_append, List.cons_append, put_at vs k' r (by omega)] at e7
        exact .app e7 ((hvs.same h7).set hr7 _)
      refine ⟨p5, p6, _, _, rfl, rfl, SqT.of (s6 _ _ upd_same), SqT.of upd_same, by simp, ?_, fun z => ?_, fun _ p7 hp7 => ?_⟩
      · refine line1000 ?_
        rw [List.length_append, List.length_take, List.length_drop, List.length_cons, List.length_singleton]
        omega
      · refine fin _ p5 (Same.trans s25 s6) ((hr3.same (Same.trans s4 s5)).same s6) ?_
        have e9 : (V.str f :: vs).take k ++ [r] ++ (V.str f :: vs).drop (k + 1) = (V.str f :: vs).take k ++ [r] := by rw [z, List.append_nil]
        rw [e9]
        exact s6 _ _ upd_same
      · have s7 := same_upd hp7 (.tup ((V.str f :: vs).take k ++ [r] ++ (V.str f :: vs).drop (k + 1)))
        exact fin _ p7 (Same.trans s25 (Same.trans s6 s7)) ((hr3.same (Same.trans s4 s5)).same (Same.trans s6 s7)) upd_same
theorem ok_repl (T : Txt K mg) : ∀ n : Nat, Keeps P w base (n + 1) T.gL_replace (spRepl n)
  | 0 => ok_repl1 T (j := 0) fun m h => nomatch h
  | n + 1 => ok_repl1 T (j := n + 1) fun m h => by
    cases h
    exact ok_repl T n
end
end J

namespace J
open PySem L2
section
variable {P : Program} {w : World} {K : PySem.W.Frag} {mg : Str → Option Value} {base : Heap}
/-! ### _law_positions -/
def spPos (n : Nat) : Sp := fun vs H Q _ => ∃ (v : V) (t : Tm), vs = [v] ∧ TmAt H t v ∧ dep t ≤ n ∧ tsz t ≤ 1000 ∧
  ∀ H' p (rs : List Addr), Same H H' → H p = none → H' p = some (.lst (rs.map V.ref)) → rs.length = tsz t → (∀ r ∈ rs, PosAt H' t r) → Q (.ref p) H'
theorem scPos : FnScope ["_law_term_here", "_law_found", "_law_k", "_law_inner"] ["_law_term_here"] (defScope (top 32)) := ⟨rfl, rfl, rfl, by decide +kernel, rfl, by decide +kernel, by decide +kernel⟩
theorem ok_pos (T : Txt K mg) : ∀ n : Nat, Keeps P w base (n + 1) T.gL_positions (spPos n)
  | 0 => (no_call fun vs H Q E ⟨v, t, _, _, h, _⟩ => by have := dep_pos t; omega).mono (Nat.zero_le _)
  | n + 1 => by
    have ih := ok_pos T n
    refine T.gL_positions.F.ok scPos (fun vs H Q E h => ?_) (fun cdv A outer s H vs Q E hr h => ?_)
    · obtain ⟨v, t, rfl, _⟩ := h
      rfl
    obtain ⟨v, t, rfl, ht, hd, hz, q⟩ := h
    refine ⟨_, pss_cons (ps_set (i := 1) scPos.nd rfl (Or.inl rfl) (pe_lst (pa_cons (pe_tup pa_nil) pa_nil)))
      (pss_cons (ps_if (pt_val (pe_callB call_isint rfl T.z_isinstance PyProof.Rows.boot_isinstance (pa_cons (pv 0) (pa_cons (pe_bltn (v := .ty "int") rfl T.z_int PyProof.Rows.boot_int rfl) pa_nil)))) (pss_one (ps_ret (pv 1))) pss_nil)
      (pss_cons (ps_for PassesOwn.never rfl (pi_range2 rfl T.z_range (pa_cons pe_int (pa_cons (pe_callB call_len_seq rfl T.z_len PySem.boot_len (pa_cons (pv 0) pa_nil)) pa_nil))) (pg_name (i := 2) scPos.nd rfl (Or.inl rfl))
        (pss_one (ps_for PassesOwn.never rfl (pi_list (pe_cl T.gL_positions ih hr (pa_cons (pe_ix ix_tup (pv 0) (pv 2) (fun _ _ => rfl)) pa_nil))) (pg_name (i := 3) scPos.nd rfl (Or.inl rfl))
          (pss_one (ps_expr (pe_bm PySem.F.plainAttrs_list PySem.F.slot_list_append PySem.F.type_list_append mt_append (pv 1) (pa_cons (pe_op op_catT (pe_tup (pa_cons (pv 2) pa_nil)) (pv 3)) pa_nil)))))))
      (pss_one (ps_ret (pv 1))))), ?_⟩
    refine ⟨(by show 0 ≤ sizeLine; decide), fun p0 hp0 => ⟨(by show 1 ≤ sizeLine; decide), fun fd hfd => ?_⟩⟩
    have s0 : Same H (upd H p0 (.tup [])) := same_upd hp0 _
    have s1 := Same.trans s0 (same_upd hfd (.lst [.ref p0]))
    have hfH : H fd = none := s0.free hfd
    have e0 : (upd (upd H p0 (.tup [])) fd (.lst [.ref p0])) p0 = some (.tup (PosV [])) := same_upd hfd _ _ _ upd_same
    refine ⟨v, rfl, v, t, rfl, ht.same s1, _, rfl, ?_⟩
    cases t with
    | var m =>
      refine iteT ⟨_, rfl, q _ fd [p0] s1 hfH upd_same rfl fun r hr' => ?_⟩
      rw [List.mem_singleton.mp hr']
      exact ⟨[], e0, trivial⟩
    | app f as =>
      refine iteF ?_
      obtain ⟨a, vs, rfl, ha, hs⟩ := ht.inv_app
      have hl := hs.len
      have hal : as.length ≤ 1000 := by
        have key : ∀ bs : List Tm, bs.length ≤ tszL bs := fun bs => by
          induction bs with
          | nil => exact Nat.le_refl 0
          | cons b r ih2 => have := tsz_pos b; rw [tszL, List.length_cons]; omega
        have := key as
        rw [tsz] at hz
        omega
      refine ⟨_, rfl, a, _, rfl, .inr (SqT.of (s1 _ _ ha)), 1, _, rfl, ⟨by omega, by omega, by omega, by rw [List.length_cons]; omega⟩, ?_⟩
      refine for_range (lo := 1) (n := ((((V.str f :: vs).length : Nat) : Int) - 1).toNat) (fun i σ H2 => Same H H2 ∧ ∃ (rs : List Addr) (z z' : Option V), H2 fd = some (.lst (rs.map V.ref)) ∧ rs.length = 1 + tszL (as.take i) ∧ (∀ r ∈ rs, PosAt H2 (.app f as) r) ∧ σ = [some (.ref a), some (.ref fd), z, z'])
        ⟨s1, [p0], none, none, upd_same, rfl, fun r hr' => by rw [List.mem_singleton.mp hr']; exact ⟨[], e0, trivial⟩, rfl⟩ (fun i σ H2 hi h2 => ?_) (fun σ H2 h2 => ?_)
      · obtain ⟨h2, rs, z, z', h2f, hrl, hro, rfl⟩ := h2
        have hi' : i < as.length := by rw [List.length_cons] at hi; omega
        have e1 : as[i]? = some as[i] := List.getElem?_eq_getElem hi'
        obtain ⟨y, y1, y2, y3⟩ := arg_at (f := f) hs (show 1 ≤ i + 1 by omega) (show i + 1 ≤ as.length by omega)
        have ek : (1 : Int) + (i : Int) = ((i + 1 : Nat) : Int) := by omega
        have eu : as.getD (i + 1 - 1) (.var 0) = as[i] := by
          rw [Nat.add_sub_cancel, List.getD_eq_getElem?_getD, e1]
          rfl
        rw [eu] at y3
        rw [← ek] at y2
        have hdu : dep as[i] ≤ n := by
          have := depL_mem (List.getElem_mem hi')
          rw [dep] at hd
          omega
        have hzt : tszL (as.take (i + 1)) ≤ 1000 := by
          have h3 := tszL_le_take as (i + 1)
          rw [tsz] at hz
          omega
        have ezt := tszL_take e1
        refine ⟨_, rfl, _, rfl, a, _, _, y, rfl, rfl, SqT.of (h2 _ _ ha), y2, y, as[i], rfl, y3.same h2, hdu, by omega, fun H3 p rs2 h3 hp hp3 hr2l hr2 => ?_⟩
        have hpf : p ≠ fd := fun z => by rw [z, h2f] at hp; cases hp
        refine ⟨p, rfl, ⟨_, SqL.of hp3⟩, ?_⟩
        refine for_list (xs := rs2.map V.ref) (fun j σ H4 => Same H H4 ∧ H4 p = some (.lst (rs2.map V.ref)) ∧ (∀ r ∈ rs2, PosAt H4 as[i] r) ∧ ∃ (rs3 : List Addr) (z : Option V), H4 fd = some (.lst (rs3.map V.ref)) ∧ rs3.length = 1 + tszL (as.take i) + j ∧ (∀ r ∈ rs3, PosAt H4 (.app f as) r) ∧
            σ = [some (.ref a), some (.ref fd), some (.int (1 + (i : Int))), z])
          ⟨Same.trans h2 h3, hp3, hr2, rs, z', h3 _ _ h2f, by omega, fun r hr' => (hro r hr').mono (.of h3), rfl⟩ (fun j σ H4 _ h4 => SqL.of h4.2.1) (fun j x σ H4 hx h4 => ?_) (fun σ H4 h4 => ?_)
        · obtain ⟨h4, h4p, h4r, rs3, z, h4f, h4l, h4o, rfl⟩ := h4
          rw [List.getElem?_map] at hx
          obtain ⟨hj, r, er, rfl⟩ : ∃ (_ : j < rs2.length) (r : Addr), rs2[j]? = some r ∧ x = .ref r := by
            cases e : rs2[j]? with
            | none => rw [e] at hx; cases hx
            | some r => rw [e] at hx; exact ⟨(List.getElem?_eq_some_iff.mp e).1, r, rfl, (Option.some.inj hx).symm⟩
          obtain ⟨qq, q1, q2⟩ := h4r r (List.mem_of_getElem? er)
          refine ⟨_, rfl, .inl ⟨rfl, _, SqL.of h4f⟩, _, rfl, (by show 1 ≤ sizeLine; decide), fun p1 hp1 => ?_⟩
          have s5 := same_upd hp1 (.tup [.int (1 + (i : Int))])
          have ev : V.int (1 + (i : Int)) = V.int ((i + 1 : Nat) : Int) := congrArg V.int ek
          have hvp : vpos ((i + 1) :: qq) (.app f as) := ⟨by omega, by omega, by rw [eu]; exact q2⟩
          -- the turn's end: the new position at p9
          have fin : ∀ (H5 : Hp) (p9 : Addr), Same H4 H5 → H5 p9 = some (.tup (PosV ((i + 1) :: qq))) → rAppend (.ref fd) [.ref p9] H5 (fun _ H1 => (fun σ H4 => Same H H4 ∧ H4 p = some (.lst (rs2.map V.ref)) ∧ (∀ r ∈ rs2, PosAt H4 as[i] r) ∧ ∃ (rs3 : List Addr) (z : Option V), H4 fd = some (.lst (rs3.map V.ref)) ∧ rs3.length = 1 + tszL (as.take i) + (j + 1) ∧ (∀ r ∈ rs3, PosAt H4 (.app f as) r) ∧
            σ = [some (.ref a), some (.ref fd), some (.int (1 + (i : Int))), z]) [some (.ref a), some (.ref fd), some (.int (1 + (i : Int))), some (.ref r)] H1) := by
            intro H5 p9 h5 e9
            have h5f := h5 _ _ h4f
            have tu : Tups H5 (upd H5 fd (.lst (rs3.map V.ref ++ [.ref p9]))) := tups_lst h5f
            refine ⟨fd, _, _, rfl, rfl, h5f, ?_, same_at (Same.trans h4 h5) hfH _, ?_, fun r hr' => (h4r r hr').mono (Tups.trans (.of h5) tu), rs3 ++ [p9], some (.ref r), ?_, ?_, fun r' hr' => ?_, rfl⟩
            · rw [List.length_map]
              exact small1000 (by omega)
            · rw [upd_ne hpf]
              exact h5 _ _ h4p
            · rw [upd_same, List.map_append]
              rfl
            · rw [List.length_append, h4l, List.length_singleton]
              omega
            · rcases List.mem_append.mp hr' with y | y
              · exact (h4o r' y).mono (Tups.trans (.of h5) tu)
              · rw [List.mem_singleton.mp y]
                exact ⟨_, tu _ _ e9, hvp⟩
          refine ⟨_, rfl, p1, r, _, _, rfl, rfl, SqT.of upd_same, SqT.of (s5 _ _ q1), by simp, ?_, fun zq => ?_, fun _ p2 hp2 => ?_⟩
          · have := vpos_len qq _ q2
            refine line1000 ?_
            have e7 : dep as[i] ≤ tsz as[i] := dep_le_tsz _
            simp only [PosV, List.length_map, List.length_cons, List.length_nil]
            omega
          · have eq0 : qq = [] := by
              cases qq with
              | nil => rfl
              | cons b c => cases zq
            refine fin _ p1 s5 ?_
            rw [upd_same, ev, eq0]
            rfl
          · refine fin _ p2 (Same.trans s5 (same_upd hp2 _)) ?_
            rw [upd_same, ev]
            rfl
        · obtain ⟨h4, h4p, h4r, rs3, z, h4f, h4l, h4o, rfl⟩ := h4
          refine ⟨h4, rs3, _, z, h4f, ?_, h4o, rfl⟩
          rw [h4l, List.length_map, hr2l, ezt]
          omega
      · obtain ⟨h2, rs, z, z', h2f, hrl, hro, rfl⟩ := h2
        refine ⟨_, rfl, q H2 fd rs h2 hfH h2f ?_ hro⟩
        have e : as.take ((((V.str f :: vs).length : Nat) : Int) - 1).toNat = as := List.take_of_length_le (by rw [List.length_cons]; omega)
        rw [hrl, e, tsz]
end
end J

namespace J
open PySem L2

/-! ### isinstance of a term -/
def tyNm : Tm → String
  | .var _ => "int"
  | .app _ _ => "tuple"
theorem call_isT {X : Cx} : CallR X (.builtin "isinstance") (fun xs H Q => (∃ (x : V) (t : Tm) (c : String) (b : Bool), xs = [x, .ty c] ∧ TmAt H t x ∧ kitB (tyNm t) c = some b ∧ Q (.bl b) H) ∨ ∃ f : Str, xs = [.str f, .ty "str"] ∧ Q (.bl true) H) := by
  intro pins s σ H xs us Q I r h
  rcases h with ⟨x, t, c, b, rfl, ht, hk, q⟩ | ⟨f, rfl, q⟩
  · cases t with
    | var n =>
      rw [ht.inv_var] at r
      exact call_isi pins s σ H _ us Q I r ⟨_, _, _, _, b, rfl, .ty _, .base (.int n), kit_ty hk, q⟩
    | app f as =>
      obtain ⟨a, vs, e, e2, _⟩ := ht.inv_app
      rw [e] at r
      exact call_isi pins s σ H _ us Q I r ⟨_, _, _, _, b, rfl, .ty _, .base (.tup e2), kit_ty hk, q⟩
  · exact call_isi pins s σ H _ us Q I r ⟨_, _, _, _, true, rfl, .ty _, .base (.str f), kit_ty (by decide +kernel), q⟩
theorem k_ib : kitB "int" "bool" = some false := by decide +kernel
theorem k_tb : kitB "tuple" "bool" = some false := by decide +kernel
theorem k_ii : kitB "int" "int" = some true := by decide +kernel
theorem k_ti : kitB "tuple" "int" = some false := by decide +kernel
theorem k_tt : kitB "tuple" "tuple" = some true := by decide +kernel
theorem k_nb : ∀ t : Tm, kitB (tyNm t) "bool" = some false
  | .var _ => k_ib
  | .app _ _ => k_tb
section
variable {P : Program} {w : World} {K : PySem.W.Frag} {mg : Str → Option Value} {base : Heap}
/-! ### _law_same -/
def spSame (n : Nat) : Sp := fun vs H Q _ => ∃ (v v' : V) (t t' : Tm), vs = [v, v'] ∧ TmAt H t v ∧ TmAt H t' v' ∧ dep t ≤ n ∧ tsz t ≤ 1000 ∧ ∀ b, (b = true ↔ t = t') → Q (.bl b) H
theorem scSame : FnScope ["_law_first", "_law_second", "_law_k"] ["_law_first", "_law_second"] (defScope (top 33)) := ⟨rfl, rfl, rfl, by decide +kernel, rfl, by decide +kernel, by decide +kernel⟩
theorem len_le_tszL : ∀ bs : List Tm, bs.length ≤ tszL bs
  | [] => Nat.le_refl 0
  | b :: r => by
    have h1 := tsz_pos b
    have h2 := len_le_tszL r
    rw [tszL, List.length_cons]
    omega
theorem ok_same (T : Txt K mg) : ∀ n : Nat, Keeps P w base (n + 1) T.gL_same (spSame n)
  | 0 => (no_call fun vs H Q E ⟨v, v', t, t', _, _, _, h, _⟩ => by have := dep_pos t; omega).mono (Nat.zero_le _)
  | n + 1 => by
    have ih := ok_same T n
    refine T.gL_same.F.ok scSame (fun vs H Q E h => ?_) (fun cdv A outer s H vs Q E hr h => ?_)
    · obtain ⟨v, v', t, t', rfl, _⟩ := h
      rfl
    obtain ⟨v, v', t, t', rfl, ht, ht', hd, hz, q⟩ := h
    refine ⟨_, pss_cons (ps_if (PW.pt (pw_or (pt_val (pe_callB call_isT rfl T.z_isinstance PyProof.Rows.boot_isinstance (pa_cons (pv 0) (pa_cons (pe_bltn (v := .ty "bool") rfl T.z_bool PyProof.Rows.boot_bool rfl) pa_nil))))
          (pw_or1 (pt_val (pe_callB call_isT rfl T.z_isinstance PyProof.Rows.boot_isinstance (pa_cons (pv 1) (pa_cons (pe_bltn (v := .ty "bool") rfl T.z_bool PyProof.Rows.boot_bool rfl) pa_nil))))))) (pss_one (ps_ret pe_bl)) pss_nil)
      (pss_cons (ps_if (PW.pt (pw_or (pt_val (pe_callB call_isT rfl T.z_isinstance PyProof.Rows.boot_isinstance (pa_cons (pv 0) (pa_cons (pe_bltn (v := .ty "int") rfl T.z_int PyProof.Rows.boot_int rfl) pa_nil))))
          (pw_or1 (pt_val (pe_callB call_isT rfl T.z_isinstance PyProof.Rows.boot_isinstance (pa_cons (pv 1) (pa_cons (pe_bltn (v := .ty "int") rfl T.z_int PyProof.Rows.boot_int rfl) pa_nil)))))))
          (pss_one (ps_ret (pe_and (pe_callB call_isT rfl T.z_isinstance PyProof.Rows.boot_isinstance (pa_cons (pv 0) (pa_cons (pe_bltn (v := .ty "int") rfl T.z_int PyProof.Rows.boot_int rfl) pa_nil)))
            (pe_and (pe_callB call_isT rfl T.z_isinstance PyProof.Rows.boot_isinstance (pa_cons (pv 1) (pa_cons (pe_bltn (v := .ty "int") rfl T.z_int PyProof.Rows.boot_int rfl) pa_nil)))
              (pe_one (pe_cmpR op_eq (pv 0) (pv 1) (nomark _))))))) pss_nil)
      (pss_cons (ps_if (PW.pt (pw_or (pt_not (pt_val (pe_callB call_isT rfl T.z_isinstance PyProof.Rows.boot_isinstance (pa_cons (pv 0) (pa_cons (pe_bltn (v := .ty "tuple") rfl T.z_tuple PyProof.Rows.boot_tuple rfl) pa_nil)))))
          (pw_or (pt_not (pt_val (pe_callB call_isT rfl T.z_isinstance PyProof.Rows.boot_isinstance (pa_cons (pv 1) (pa_cons (pe_bltn (v := .ty "tuple") rfl T.z_tuple PyProof.Rows.boot_tuple rfl) pa_nil)))))
            (pw_or1 (pt_cmpR op_ne (pe_callB call_len_seq rfl T.z_len PySem.boot_len (pa_cons (pv 0) pa_nil)) (pe_callB call_len_seq rfl T.z_len PySem.boot_len (pa_cons (pv 1) pa_nil)) (nomark _)))))) (pss_one (ps_ret pe_bl)) pss_nil)
      (pss_cons (ps_if (PW.pt (pw_or (pt_cmpR op_eq (pe_callB call_len_seq rfl T.z_len PySem.boot_len (pa_cons (pv 0) pa_nil)) pe_int (nomark _))
          (pw_or (pt_not (pt_val (pe_callB call_isT rfl T.z_isinstance PyProof.Rows.boot_isinstance (pa_cons (pe_ix ix_tup (pv 0) pe_int (fun _ _ => rfl)) (pa_cons (pe_bltn (v := .ty "str") rfl T.z_str PyProof.Rows.boot_str rfl) pa_nil)))))
            (pw_or1 (pt_cmpR op_ne (pe_ix ix_tup (pv 0) pe_int (fun _ _ => rfl)) (pe_ix ix_tup (pv 1) pe_int (fun _ _ => rfl)) (nomark _)))))) (pss_one (ps_ret pe_bl)) pss_nil)
      (pss_cons (ps_for PassesOwn.never rfl (pi_range2 rfl T.z_range (pa_cons pe_int (pa_cons (pe_callB call_len_seq rfl T.z_len PySem.boot_len (pa_cons (pv 0) pa_nil)) pa_nil))) (pg_name (i := 2) scSame.nd rfl (Or.inl rfl))
        (pss_one (ps_if (pt_not (pt_val (pe_cl T.gL_same ih hr (pa_cons (pe_ix ix_tup (pv 0) (pv 2) (fun _ _ => rfl)) (pa_cons (pe_ix ix_tup (pv 1) (pv 2) (fun _ _ => rfl)) pa_nil))))) (pss_one (ps_ret pe_bl)) pss_nil)))
      (pss_one (ps_ret pe_bl)))))), ?_⟩
    refine ⟨v, rfl, .inl ⟨v, t, _, false, rfl, ht, k_nb t, _, rfl, ?_⟩⟩
    refine iteF ⟨v', rfl, .inl ⟨v', t', _, false, rfl, ht', k_nb t', _, rfl, ?_⟩⟩
    refine iteF ?_
    cases t with
    | var i =>
      refine ⟨v, rfl, .inl ⟨v, _, _, true, rfl, ht, k_ii, _, rfl, ?_⟩⟩
      refine iteT (iteT ⟨v, rfl, .inl ⟨v, _, _, true, rfl, ht, k_ii, _, rfl, ?_⟩⟩)
      refine iteT ?_
      cases t' with
      | var j =>
        refine ⟨v', rfl, .inl ⟨v', _, _, true, rfl, ht', k_ii, _, rfl, ?_⟩⟩
        refine iteT ?_
        rw [ht.inv_var, ht'.inv_var]
        refine ⟨_, rfl, _, rfl, rfl, q _ ?_⟩
        rw [decide_eq_true_iff]
        exact ⟨fun z => by cases z; rfl, fun z => by cases z; rfl⟩
      | app g bs =>
        refine ⟨v', rfl, .inl ⟨v', _, _, false, rfl, ht', k_ti, _, rfl, ?_⟩⟩
        exact iteF (q false ⟨fun z => (by cases z), fun z => (by cases z)⟩)
    | app f as =>
      refine ⟨v, rfl, .inl ⟨v, _, _, false, rfl, ht, k_ti, _, rfl, ?_⟩⟩
      refine iteF ?_
      cases t' with
      | var j =>
        refine ⟨v', rfl, .inl ⟨v', _, _, true, rfl, ht', k_ii, _, rfl, ?_⟩⟩
        refine iteT ⟨v, rfl, .inl ⟨v, _, _, false, rfl, ht, k_ti, _, rfl, ?_⟩⟩
        exact iteF (q false ⟨fun z => (by cases z), fun z => (by cases z)⟩)
      | app g bs =>
        refine ⟨v', rfl, .inl ⟨v', _, _, false, rfl, ht', k_ti, _, rfl, ?_⟩⟩
        refine iteF ?_
        refine ⟨v, rfl, .inl ⟨v, _, _, true, rfl, ht, k_tt, _, rfl, ?_⟩⟩
        refine iteF ⟨v', rfl, .inl ⟨v', _, _, true, rfl, ht', k_tt, _, rfl, ?_⟩⟩
        refine iteF ?_
        obtain ⟨a, vs, rfl, ha, hs⟩ := ht.inv_app
        obtain ⟨b, ws, rfl, hb, hs'⟩ := ht'.inv_app
        have l1 := hs.len
        have l2 := hs'.len
        refine ⟨_, rfl, a, _, rfl, .inr (SqT.of ha), _, rfl, b, _, rfl, .inr (SqT.of hb), rfl, _, rfl, ?_⟩
        by_cases el : as.length = bs.length
        · rw [decide_eq_true (show V.int (((V.str f :: vs).length : Nat) : Int) = V.int (((V.str g :: ws).length : Nat) : Int) by rw [List.length_cons, List.length_cons, l1, l2, el])]
          refine iteF ⟨_, rfl, a, _, rfl, .inr (SqT.of ha), rfl, _, rfl, ?_⟩
          rw [decide_eq_false (show ¬ V.int (((V.str f :: vs).length : Nat) : Int) = V.int 0 from fun z => by have := V.int.inj z; rw [List.length_cons] at this; omega)]
          refine iteF ⟨_, rfl, a, _, 0, .str f, rfl, rfl, SqT.of ha, atI_nat (j := 0) rfl, .inr ⟨f, rfl, _, rfl, ?_⟩⟩
          refine iteF ⟨_, rfl, a, _, 0, .str f, rfl, rfl, SqT.of ha, atI_nat (j := 0) rfl, _, rfl, b, _, 0, .str g, rfl, rfl, SqT.of hb, atI_nat (j := 0) rfl, rfl, _, rfl, ?_⟩
          by_cases ef : f = g
          · subst ef
            rw [decide_eq_true rfl]
            have hal := len_le_tszL as
            rw [tsz] at hz
            refine iteF ⟨_, rfl, a, _, rfl, .inr (SqT.of ha), 1, _, rfl, ⟨by omega, by omega, by omega, by rw [List.length_cons]; omega⟩, ?_⟩
            refine for_range (lo := 1) (n := ((((V.str f :: vs).length : Nat) : Int) - 1).toNat) (fun i σ H2 => H2 = H ∧ (∀ j : Nat, j < i → as[j]? = bs[j]?) ∧ ∃ z, σ = [some (.ref a), some (.ref b), z]) ⟨rfl, fun j h => absurd h (Nat.not_lt_zero j), none, rfl⟩ (fun i σ H2 hi h2 => ?_) (fun σ H2 h2 => ?_)
            · obtain ⟨rfl, hj, z, rfl⟩ := h2
              have hi1 : i < as.length := by rw [List.length_cons] at hi; omega
              have hi2 : i < bs.length := by omega
              have ek : ((i + 1 : Nat) : Int) = (1 : Int) + (i : Int) := by omega
              obtain ⟨x, x1, x2, x3⟩ := arg_at (f := f) hs (show 1 ≤ i + 1 by omega) (show i + 1 ≤ as.length by omega)
              obtain ⟨y, y1, y2, y3⟩ := arg_at (f := f) hs' (show 1 ≤ i + 1 by omega) (show i + 1 ≤ bs.length by omega)
              rw [ek] at x2 y2
              rw [Nat.add_sub_cancel] at x3 y3
              have ga := getD_at hi1
              have gb := getD_at hi2
              have m := List.mem_of_getElem? ga
              refine ⟨_, rfl, _, rfl, a, _, _, x, rfl, rfl, SqT.of ha, x2, _, rfl, _, rfl, b, _, _, y, rfl, rfl, SqT.of hb, y2, x, y, _, _, rfl, x3, y3, ?_, ?_, fun r hr2 => ⟨r, rfl, ?_⟩⟩
              · have := depL_mem m
                rw [dep] at hd
                omega
              · have := tszL_mem m
                omega
              · cases r with
                | true =>
                  refine iteF ⟨rfl, fun j hj2 => ?_, _, rfl⟩
                  by_cases c : j = i
                  · rw [c, ga, gb, hr2.mp rfl]
                  · exact hj j (by omega)
                | false =>
                  refine iteT (q false ⟨fun z => (by cases z), fun z => ?_⟩)
                  have e := (Tm.app.inj z).2
                  subst e
                  exact hr2.mpr rfl
            · obtain ⟨rfl, hj, z, rfl⟩ := h2
              refine q true ⟨fun _ => ?_, fun _ => rfl⟩
              have e : as = bs := by
                refine List.ext_getElem? fun j => ?_
                by_cases c : j < as.length
                · exact hj j (by rw [List.length_cons]; omega)
                · rw [List.getElem?_eq_none (by omega), List.getElem?_eq_none (by omega)]
              rw [e]
          · rw [decide_eq_false (show ¬ V.str f = V.str g from fun z => ef (V.str.inj z))]
            exact iteT (q false ⟨fun z => (by cases z), fun z => absurd (Tm.app.inj z).1 ef⟩)
        · rw [decide_eq_false (show ¬ V.int (((V.str f :: vs).length : Nat) : Int) = V.int (((V.str g :: ws).length : Nat) : Int) from fun z => by have := V.int.inj z; rw [List.length_cons, List.length_cons] at this; omega)]
          exact iteT (q false ⟨fun z => (by cases z), fun z => absurd (congrArg List.length (Tm.app.inj z).2) el⟩)
end
end J

namespace J
open PySem L2
section
variable {P : Program} {w : World} {K : PySem.W.Frag} {mg : Str → Option Value} {base : Heap}
/-! ### _law_symbols -/
theorem scLsy : FnScope ["_law_term_here", "_law_found", "_law_argument"] ["_law_term_here"] (defScope (top 34)) := ⟨rfl, rfl, rfl, by decide +kernel, rfl, by decide +kernel, by decide +kernel⟩
theorem ok_lsy (T : Txt K mg) : ∀ n : Nat, Keeps P w base (n + 1) T.gL_symbols (spSym n)
  | 0 => (no_call fun vs H Q E ⟨v, t, _, _, h, _⟩ => by have := dep_pos t; omega).mono (Nat.zero_le _)
  | n + 1 => by
    have ih := ok_lsy T n
    refine T.gL_symbols.F.ok scLsy (fun vs H Q E h => ?_) (fun cdv A outer s H vs Q E hr h => ?_)
    · obtain ⟨v, t, rfl, _⟩ := h
      rfl
    obtain ⟨v, t, rfl, ht, hd, hz, q⟩ := h
    refine ⟨_, pss_cons (ps_if (pt_val (pe_callB call_isint rfl T.z_isinstance PyProof.Rows.boot_isinstance (pa_cons (pv 0) (pa_cons (pe_bltn (v := .ty "int") rfl T.z_int PyProof.Rows.boot_int rfl) pa_nil)))) (pss_one (ps_ret (pe_lst (pa_cons (pv 0) pa_nil)))) pss_nil)
      (pss_cons (ps_set (i := 1) scLsy.nd rfl (Or.inl rfl) (pe_lst (pa_cons (pe_ix ix_tup (pv 0) pe_int (fun _ _ => rfl)) pa_nil)))
      (pss_cons (ps_for PassesOwn.never rfl (pi_tup (pe_tail (pv 0))) (pg_name (i := 2) scLsy.nd rfl (Or.inl rfl))
        (pss_one (ps_set (i := 1) scLsy.nd rfl (Or.inl rfl) (pe_op op_cat (pv 1) (pe_cl T.gL_symbols ih hr (pa_cons (pv 2) pa_nil))))))
      (pss_one (ps_ret (pv 1))))), ?_⟩
    refine ⟨v, rfl, v, t, rfl, ht, _, rfl, ?_⟩
    cases t with
    | var m =>
      refine iteT ⟨v, rfl, (by show 1 ≤ sizeLine; decide), fun r hr' => q r _ (same_upd hr' _) ?_⟩
      rw [upd_same, ht.inv_var]
      rfl
    | app f as =>
      refine iteF ?_
      obtain ⟨a, vs, rfl, ha, hs⟩ := ht.inv_app
      refine ⟨_, rfl, a, _, 0, .str f, rfl, rfl, SqT.of ha, atI_nat (j := 0) rfl, (by show 1 ≤ sizeLine; decide), fun l hl => ?_⟩
      have e1 : Same H (upd H l (.lst [.str f])) := same_upd hl _
      refine ⟨_, rfl, _, rfl, a, _, vs, rfl, rfl, rfl, SqT.of (e1 _ _ ha), fun p hp => ⟨p, rfl, ⟨_, SqT.of upd_same⟩, ?_⟩⟩
      have e2 := same_upd hp (.tup vs)
      refine for_tup (xs := vs) (fun i σ H2 => Same H H2 ∧ H2 p = some (.tup vs) ∧ ∃ (l : Addr) (z : Option V), H2 l = some (.lst (V.str f :: (symbL (as.take i)).map syV)) ∧ σ = [some (.ref a), some (.ref l), z])
        ⟨Same.trans e1 e2, upd_same, l, none, e2 _ _ upd_same, rfl⟩ (fun i σ H2 _ h2 => SqT.of h2.2.1) (fun i x σ H2 hx h2 => ?_) (fun σ H2 h2 => ?_)
      · obtain ⟨h2, h2p, l, z, h2l, rfl⟩ := h2
        obtain ⟨t, e1, e2⟩ := hs.at hx
        have hdt : dep t ≤ n := by
          have h3 := depL_mem (List.mem_of_getElem? e1)
          rw [dep] at hd
          omega
        have hzt : tszL (as.take (i + 1)) ≤ 1000 := by
          have h3 := tszL_le_take as (i + 1)
          rw [tsz] at hz
          omega
        rw [tszL_take e1] at hzt
        refine ⟨_, rfl, _, rfl, x, t, rfl, e2.same h2, hdt, by omega, fun r H3 h3 hr3 => ?_⟩
        refine ⟨l, r, _, _, rfl, rfl, h3 _ _ h2l, hr3, ?_, fun p4 hp4 => ?_⟩
        · simp only [List.length_cons, List.length_map, symbL_len, symb_len]
          exact Nat.le_trans (m := 1002) (by omega) (by decide)
        · have s4 := same_upd hp4 (.lst (V.str f :: (symbL (as.take i)).map syV ++ (symb t).map syV))
          refine ⟨Same.trans h2 (Same.trans h3 s4), s4 _ _ (h3 _ _ h2p), p4, some x, ?_, rfl⟩
          rw [upd_same, symbL_take e1, List.map_append]
          rfl
      · obtain ⟨h2, h2p, l, z, h2l, rfl⟩ := h2
        refine ⟨_, rfl, q l H2 h2 ?_⟩
        have e : as.take vs.length = as := by rw [hs.len]; exact List.take_length
        rw [e] at h2l
        rw [h2l, symb]
        rfl

/-! ### _law_compare -/
theorem scLcm : FnScope ["_law_first", "_law_second", "_law_one", "_law_other", "_law_k"] ["_law_first", "_law_second"] (defScope (top 35)) := ⟨rfl, rfl, rfl, by decide +kernel, rfl, by decide +kernel, by decide +kernel⟩
theorem sy_at {xs : List Sy} {i : Nat} (h : i < xs.length) : atI (xs.map syV) (0 + (i : Int)) = some (syV xs[i]) := by
  rw [Int.zero_add]
  exact atI_nat (by rw [List.getElem?_map, List.getElem?_eq_getElem h] <;> rfl)
theorem ok_lcm (T : Txt K mg) (n : Nat) : Keeps P w base (n + 2) T.gL_compare (spCmp n) := by
  refine T.gL_compare.F.ok scLcm (fun vs H Q E h => ?_) (fun cdv A outer s H vs Q E hr h => ?_)
  · obtain ⟨v, v', t, t', rfl, _⟩ := h
    rfl
  obtain ⟨v, v', t, t', rfl, ht, ht', ⟨hd, hd'⟩, ⟨hz, hz'⟩, q⟩ := h
  refine ⟨_, pss_cons (ps_set (i := 2) scLcm.nd rfl (Or.inl rfl) (pe_cl T.gL_symbols (ok_lsy T n) hr (pa_cons (pv 0) pa_nil)))
    (pss_cons (ps_set (i := 3) scLcm.nd rfl (Or.inl rfl) (pe_cl T.gL_symbols (ok_lsy T n) hr (pa_cons (pv 1) pa_nil)))
    (pss_cons (ps_if (pt_cmpR op_ne (pe_callB call_len_seq rfl T.z_len PySem.boot_len (pa_cons (pv 2) pa_nil)) (pe_callB call_len_seq rfl T.z_len PySem.boot_len (pa_cons (pv 3) pa_nil)) (nomark _))
      (pss_one (ps_ret (pe_ifExp (pt_cmpR op_lt (pe_callB call_len_seq rfl T.z_len PySem.boot_len (pa_cons (pv 2) pa_nil)) (pe_callB call_len_seq rfl T.z_len PySem.boot_len (pa_cons (pv 3) pa_nil)) (nomark _)) (pe_un un_neg pe_int) pe_int))) pss_nil)
    (pss_cons (ps_for PassesOwn.never rfl (pi_range1 rfl T.z_range (pa_cons (pe_callB call_len_seq rfl T.z_len PySem.boot_len (pa_cons (pv 2) pa_nil)) pa_nil)) (pg_name (i := 4) scLcm.nd rfl (.inl rfl))
      (pss_one (ps_if (pt_cmpR op_ne (pe_ix ix_list (pv 2) (pv 4) (fun _ _ => rfl)) (pe_ix ix_list (pv 3) (pv 4) (fun _ _ => rfl)) (nomark _))
        (pss_cons (ps_if (pt_cmpR op_ne (pe_callB call_isintS rfl T.z_isinstance PyProof.Rows.boot_isinstance (pa_cons (pe_ix ix_list (pv 2) (pv 4) (fun _ _ => rfl)) (pa_cons (pe_bltn (v := .ty "int") rfl T.z_int PyProof.Rows.boot_int rfl) pa_nil)))
            (pe_callB call_isintS rfl T.z_isinstance PyProof.Rows.boot_isinstance (pa_cons (pe_ix ix_list (pv 3) (pv 4) (fun _ _ => rfl)) (pa_cons (pe_bltn (v := .ty "int") rfl T.z_int PyProof.Rows.boot_int rfl) pa_nil))) (nomark _))
          (pss_one (ps_ret (pe_ifExp (pt_val (pe_callB call_isintS rfl T.z_isinstance PyProof.Rows.boot_isinstance (pa_cons (pe_ix ix_list (pv 2) (pv 4) (fun _ _ => rfl)) (pa_cons (pe_bltn (v := .ty "int") rfl T.z_int PyProof.Rows.boot_int rfl) pa_nil)))) (pe_un un_neg pe_int) pe_int))) pss_nil)
        (pss_one (ps_ret (pe_ifExp (pt_cmpR op_ltS (pe_ix ix_list (pv 2) (pv 4) (fun _ _ => rfl)) (pe_ix ix_list (pv 3) (pv 4) (fun _ _ => rfl)) (nomark _)) (pe_un un_neg pe_int) pe_int)))) pss_nil)))
    (pss_one (ps_ret pe_int))))), ?_⟩
  refine ⟨v, rfl, v, t, rfl, ht, hd, hz, fun a H3 h3 ha => ⟨v', rfl, v', t', rfl, ht'.same h3, hd', hz', fun b H4 h4 hb => ?_⟩⟩
  have ha4 := h4 _ _ ha
  have s4 := Same.trans h3 h4
  have la : ((symb t).map syV).length = tsz t := by rw [List.length_map, symb_len]
  have lb : ((symb t').map syV).length = tsz t' := by rw [List.length_map, symb_len]
  refine ⟨_, rfl, a, _, rfl, .inl (SqL.of ha4), _, rfl, b, _, rfl, .inl (SqL.of hb), rfl, _, rfl, ?_⟩
  rw [la, lb]
  by_cases e : tsz t = tsz t'
  · rw [decide_eq_true (show V.int ((tsz t : Nat) : Int) = V.int ((tsz t' : Nat) : Int) by rw [e])]
    refine iteF ⟨_, rfl, a, _, rfl, .inl (SqL.of ha4), _, rfl, by omega, by rw [la]; omega, ?_⟩
    have hl : (symb t).length = (symb t').length := by rw [symb_len, symb_len, e]
    have qq : Q (.int (lexc (symb t) (symb t'))) H4 := by
      have q' := q H4 s4
      rw [cmp, if_neg (by simp [e])] at q'
      exact q'
    refine for_range (lo := 0) (n := (((((symb t).map syV).length : Nat) : Int)).toNat) (fun i σ H5 => H5 = H4 ∧ lexc (symb t) (symb t') = lexc ((symb t).drop i) ((symb t').drop i) ∧ ∃ z, σ = [some v, some v', some (.ref a), some (.ref b), z])
      ⟨rfl, rfl, none, rfl⟩ (fun i σ H5 hi h5 => ?_) (fun σ H5 h5 => ?_)
    · obtain ⟨rfl, el, z, rfl⟩ := h5
      have hi1 : i < (symb t).length := by rw [Int.toNat_natCast, List.length_map] at hi; exact hi
      have hi2 : i < (symb t').length := by omega
      have g1 := sy_at hi1
      have g2 := sy_at hi2
      rw [lexc_step (List.getElem?_eq_getElem hi1) (List.getElem?_eq_getElem hi2)] at el
      generalize (symb t)[i] = x at el g1
      generalize (symb t')[i] = y at el g2
      refine ⟨_, rfl, _, rfl, a, _, _, _, rfl, rfl, SqL.of ha4, g1, _, rfl, _, rfl, b, _, _, _, rfl, rfl, SqL.of hb, g2, sy_scal x y, _, rfl, ?_⟩
      by_cases c : x = y
      · rw [if_pos c] at el
        rw [decide_eq_true (show syV x = syV y by rw [c])]
        exact iteF ⟨rfl, el, _, rfl⟩
      · rw [if_neg c] at el
        rw [el] at qq
        rw [decide_eq_false (show ¬ syV x = syV y from fun z => c (syV_inj z))]
        refine iteT ⟨_, rfl, _, rfl, a, _, _, _, rfl, rfl, SqL.of ha4, g1, x, rfl, _, rfl, _, rfl, b, _, _, _, rfl, rfl, SqL.of hb, g2, y, rfl, rfl, _, rfl, ?_⟩
        by_cases k : syInt x = syInt y
        · rw [decide_eq_true (show V.bl (syInt x) = V.bl (syInt y) by rw [k])]
          refine iteF ⟨_, rfl, _, rfl, a, _, _, _, rfl, rfl, SqL.of ha4, g1, _, rfl, _, rfl, b, _, _, _, rfl, rfl, SqL.of hb, g2, x, y, rfl, rfl, k, _, rfl, ?_⟩
          cases d : sylt x y with
          | true =>
            refine iteT ⟨_, rfl, ?_⟩
            rw [symc, d] at qq
            exact qq
          | false =>
            refine iteF ?_
            rw [symc, d] at qq
            exact qq
        · rw [decide_eq_false (show ¬ V.bl (syInt x) = V.bl (syInt y) from fun z => k (V.bl.inj z))]
          refine iteT ⟨_, rfl, _, rfl, a, _, _, _, rfl, rfl, SqL.of ha4, g1, x, rfl, _, rfl, ?_⟩
          match x, y, k, qq with
          | .v _, .nm _, _, qq => exact iteT ⟨_, rfl, qq⟩
          | .nm _, .v _, _, qq => exact iteF qq
          | .v _, .v _, k, _ => exact absurd rfl k
          | .nm _, .nm _, k, _ => exact absurd rfl k
    · obtain ⟨rfl, el, z, rfl⟩ := h5
      have e0 : (symb t).drop ((((((symb t).map syV).length : Nat) : Int)).toNat) = [] := by rw [Int.toNat_natCast, List.length_map, List.drop_length]
      rw [el, e0] at qq
      exact qq
  · rw [decide_eq_false (show ¬ V.int ((tsz t : Nat) : Int) = V.int ((tsz t' : Nat) : Int) from fun z => e (by have := V.int.inj z; omega))]
    refine iteT ⟨_, rfl, a, _, rfl, .inl (SqL.of ha4), _, rfl, b, _, rfl, .inl (SqL.of hb), _, _, rfl, rfl, _, rfl, ?_⟩
    have q' := q H4 s4
    rw [cmp, if_pos e] at q'
    rw [la, lb]
    by_cases c : tsz t < tsz t'
    · rw [if_pos c] at q'
      rw [decide_eq_true (show ((tsz t : Nat) : Int) < (tsz t' : Nat) by omega)]
      exact iteT ⟨_, rfl, q'⟩
    · rw [if_neg c] at q'
      rw [decide_eq_false (show ¬ ((tsz t : Nat) : Int) < (tsz t' : Nat) by omega)]
      exact iteF q'
end
end J

/-! xs.remove(t) where the items are nested data: the first one that is equal goes. -/
namespace J
section
open PySem PySem.MeetsSeq PySem.SeqAt
theorem rem_turns (L : Addr) (xs : Array Value) (c : Nat) (y : Value) (g : Value → Bool) (j : Nat) (hj : j < xs.size) (hit : g xs[j] = true) (hz : xs.size ≤ sizeLine) : ∀ (k i : Nat), j - i = k → i ≤ j → (∀ q (hq : q < xs.size), i ≤ q → q < j → g xs[q] = false) →
    Meets (Builtin.«list.remove.loop» ⟨[.ref L, y, rawInt i], []⟩) (fun A R s => s.heap.get? L = some { cls := .type "list", data := .seq xs c } ∧ (∀ z, z ∈ xs → EqAt A.in1 s z y (g z)) ∧
      R (.ok (.ret .none)) { s with heap := s.heap.update L (Obj.mapSeq fun a => a.eraseIdxIfInBounds j) })
  | 0, i, hk, hij, _, P, w, A, R, ⟨h1, h2, h3, h4, h5⟩, ⟨at_, eq_, fin⟩ => by
    obtain rfl : i = j := by omega
    wp_walk using AutoSeq1.wpAny_loadPart' at_
    rw [show xs[((i : Nat) : Int).toNat]? = some xs[i] by simp [hj]]
    refine wpAny_bind (eq_ _ (Array.getElem_mem hj) P w _ _ ?_)
    rw [hit]
    have room : (xs.eraseIdxIfInBounds i).size ≤ sizeLine + 1 := Nat.le_succ_of_le (Nat.le_trans (size_erased xs i) hz)
    wp_walk using (wpAny_updateSeq at_ rfl (hz := hz) (_hz' := room)), AutoSeq1.wpAny_loadPart' at_
    simpa using fin
  | k + 1, i, hk, hij, no, P, w, A, R, ⟨h1, h2, h3, h4, h5⟩, ⟨at_, eq_, fin⟩ => by
    have small : i < xs.size := Nat.lt_of_le_of_lt hij hj
    wp_walk using AutoSeq1.wpAny_loadPart' at_
    rw [show xs[((i : Nat) : Int).toNat]? = some xs[i] by simp [small]]
    refine wpAny_bind (eq_ _ (Array.getElem_mem small) P w _ _ ?_)
    rw [no i small (Nat.le_refl i) (by omega)]
    wp_walk
    rw [show ((i : Int) + 1) = ((i + 1 : Nat) : Int) by omega]
    refine ⟨plainId_quiet plain_remove_loop _, codeAny_builtin entry_remove_loop ?_⟩
    rw [Around.under_plainId plain_remove_loop]
    exact rem_turns L xs c y g j hj hit hz k (i + 1) (by omega) (by omega) (fun q hq a b => no q hq (by omega) b) P w A R _ ⟨at_, eq_, fin⟩
theorem rem_meets (L : Addr) (xs : Array Value) (c : Nat) (y : Value) (g : Value → Bool) (j : Nat) (hj : j < xs.size) (hit : g xs[j] = true) (no : ∀ q (hq : q < xs.size), q < j → g xs[q] = false) (hz : xs.size ≤ sizeLine) :
    Meets (Builtin.«list.remove» ⟨[.ref L, y], []⟩) (fun A R s => s.heap.get? L = some { cls := .type "list", data := .seq xs c } ∧ (∀ z, z ∈ xs → EqAt A.in1 s z y (g z)) ∧
      R (.ok (.ret .none)) { s with heap := s.heap.update L (Obj.mapSeq fun a => a.eraseIdxIfInBounds j) }) := by
  rintro P w A R ⟨h1, h2, h3, h4, h5⟩ ⟨at_, eq_, fin⟩
  wp_walk using AutoSeq1.wpAny_loadPart' at_
  refine ⟨plainId_quiet plain_remove_loop _, codeAny_builtin entry_remove_loop ?_⟩
  rw [Around.under_plainId plain_remove_loop]
  exact rem_turns L xs c y g j hj hit hz _ 0 rfl (Nat.zero_le j) (fun q hq _ b => no q hq b) P w A R _ ⟨at_, eq_, fin⟩
end
section
open PySem L2
/-- the layer's reading: d the data looked for, ds the list's, j the first equal one's place -/
def rRemD (K : PySem.W.Frag) : V → List V → Hp → VK → Prop := fun x vs H Q => ∃ (l : Addr) (xs : List V) (y : V) (d : PyData) (ds : List PyData) (j : Nat) (z : PyData), x = .ref l ∧ vs = [y] ∧ H l = some (.lst xs) ∧ DpAll K H xs ds ∧ Dp K H y d ∧
  SeqAt.shaped (.list ds) = true ∧ SeqAt.shaped d = true ∧ ds[j]? = some z ∧ PyData.eqv z d = true ∧ (∀ (q : Nat) (z' : PyData), q < j → ds[q]? = some z' → PyData.eqv z' d = false) ∧ Q .non (upd H l (.lst (xs.eraseIdx j)))
theorem mt_remD {X : Cx} (hu : X.A.units + 65 < cLine) : MtM X "list.remove" (rRemD X.K) := by
  intro pins s σ H x vs v us Q I rx rv h
  obtain ⟨l, xs, y, d, ds, j, z, rfl, rfl, hH, hds, hd, sl, sd, hz, hzj, hno, q⟩ := h
  cases rx
  obtain ⟨uy, rfl, ry⟩ := rv.one
  obtain ⟨hsz, its, n, r, hl, e⟩ := I.lstM hH
  obtain ⟨as, r1⟩ := Dp.readsAll I ds _ its hds r
  obtain ⟨bs, r2⟩ := Dp.reads I d y uy hd ry
  have lay : PyData.canLayAll0 ds = true := SeqAt.canLay_of_shaped sl
  have depthL := SeqAt.depth_of_shaped sl
  have depthD := SeqAt.depth_of_shaped sd
  have room : X.A.units + 1 + min (PyData.depthAll ds) d.depth < cLine := by
    have := Nat.min_le_right (PyData.depthAll ds) d.depth
    omega
  have hmap : its.map (SeqAt.readOf s.heap) = ds := SeqAt.readsAll_map ds its as lay r1
  have hn : its.length = ds.length := by rw [← hmap, List.length_map]
  have at_ : ∀ (m : Nat) (hm : m < its.toArray.size) (z' : PyData), ds[m]? = some z' → SeqAt.readOf s.heap its.toArray[m] = z' := fun m hm z' hz' => by
    have hml : m < its.length := by simpa using hm
    rw [← hmap, List.getElem?_map, List.getElem?_eq_getElem hml] at hz'
    have e1 : some (SeqAt.readOf s.heap its[m]) = some z' := hz'
    simpa using Option.some.inj e1
  have hjd : j < ds.length := (List.getElem?_eq_some_iff.mp hz).1
  have hj : j < its.toArray.size := by rw [List.size_toArray]; omega
  refine call_meets PySem.F.slot_list_remove ⟨_, e, rfl⟩ PySem.F.entry_list_remove (PySem.F.args_list_remove_2 _ _)
    (rem_meets l its.toArray n uy (fun u => PyData.eqv (SeqAt.readOf s.heap u) d) j hj ?_ ?_ (by rw [List.size_toArray]; omega))
    ⟨e, SeqAt.items_eqAt (vs := its.toArray) (show ReadsAll s.heap its.toArray.toList ds as from r1) r2 lay (SeqAt.canLay_of_shaped sd) room, ?_⟩
  · show PyData.eqv (SeqAt.readOf s.heap its.toArray[j]) d = true
    rw [at_ j hj z hz]
    exact hzj
  · intro m hm hmj
    have hm2 : m < ds.length := Nat.lt_trans hmj hjd
    show PyData.eqv (SeqAt.readOf s.heap its.toArray[m]) d = false
    rw [at_ m hm _ (List.getElem?_eq_getElem hm2)]
    exact hno m _ hmj (List.getElem?_eq_getElem hm2)
  · refine ⟨.non, _, I.lset (its' := its.eraseIdx j) (t' := s.toks) hH e ?_ (r.eraseIdx j) ?_, rfl, q⟩
    · exact List.eraseIdxIfInBounds_toArray ..
    · exact Nat.le_trans (len_erase xs j) hsz
end
end J

namespace J
open PySem L2

/-! ### the least one, again and again -/
theorem cmp_ge {a b : Tm} (h : ¬ cmp a b < 0) : cmp b a ≤ 0 := by
  rcases cmp_total a b with k | k
  · have z : cmp a b = 0 := by omega
    unfold cmp at z
    by_cases e : tsz a = tsz b
    · rw [if_neg (by simp [e])] at z
      have s := lexc_zero (by rw [symb_len, symb_len, e]) z
      unfold cmp
      rw [if_neg (by simp [e]), s, lexc_refl]
      exact Int.le_refl 0
    · rw [if_pos e] at z
      split at z <;> cases z
  · exact k
theorem first_at : ∀ {l : List Tm} {t : Tm}, t ∈ l → ∃ j : Nat, l[j]? = some t ∧ ∀ q : Nat, q < j → l[q]? ≠ some t
  | x :: r, t, h => by
    by_cases e : x = t
    · exact ⟨0, by rw [e]; rfl, fun q hq => absurd hq (Nat.not_lt_zero q)⟩
    · have m : t ∈ r := (List.mem_cons.mp h).elim (fun z => absurd z.symm e) id
      obtain ⟨j, h1, h2⟩ := first_at m
      refine ⟨j + 1, by simpa using h1, fun q hq => ?_⟩
      cases q with
      | zero => exact fun z => e (Option.some.inj z)
      | succ q => exact fun z => h2 q (by omega) (by simpa using z)
theorem erase_perm : ∀ {l : List Tm} {j : Nat} {t : Tm}, l[j]? = some t → (t :: l.eraseIdx j).Perm l
  | x :: r, 0, t, h => by
    have e : x = t := Option.some.inj h
    subst e
    exact .refl _
  | x :: r, j + 1, t, h => by
    have ih := erase_perm (l := r) (j := j) (by simpa using h)
    rw [List.eraseIdx_cons_succ]
    exact (List.Perm.swap x t _).trans (ih.cons x)
section
variable {P : Program} {w : World} {K : PySem.W.Frag} {mg : Str → Option Value} {base : Heap}
/-! ### _law_flat -/
theorem scLfl : FnScope ["_law_names_here", "_law_name", "_law_term_here"] ["_law_names_here", "_law_name", "_law_term_here"] (defScope (top 38)) := ⟨rfl, rfl, rfl, by decide +kernel, rfl, by decide +kernel, by decide +kernel⟩
theorem ok_lflat {ar : Str → Nat} {ops : List Str} (S : Sig ar ops) {Sc : Tm → Prop} {Sf : Str → Tm → Prop} (T : Txt K mg) {j : Nat} (C : Keeps P w base j T.gL_combined (spComb ops Sc)) (G : Keeps P w base j T.gL_flat (spFlat ops Sf)) :
    Keeps P w base (j + 1) T.gL_flat (spFlat ops (SfN ar ops Sc Sf)) := by
  refine T.gL_flat.F.ok scLfl (fun vs H Q E h => ?_) (fun cdv A outer s H vs Q E hr h => ?_)
  · obtain ⟨l, f, v, t, rfl, _⟩ := h
    rfl
  obtain ⟨l, f, v, t, rfl, hl, ht, ⟨hf, ho, hi, hs⟩, q⟩ := h
  refine ⟨_, pss_cons (ps_if (PW.pt (pw_or (pt_val (pe_callB call_isint rfl T.z_isinstance PyProof.Rows.boot_isinstance (pa_cons (pv 2) (pa_cons (pe_bltn (v := .ty "int") rfl T.z_int PyProof.Rows.boot_int rfl) pa_nil))))
        (pw_or1 (pt_cmpR op_ne (pe_ix ix_tup (pv 2) pe_int (fun _ _ => rfl)) (pv 1) (nomark _)))))
      (pss_one (ps_ret (pe_lst (pa_cons (pe_cl T.gL_combined C hr (pa_cons (pv 0) (pa_cons (pv 2) pa_nil))) pa_nil)))) pss_nil)
    (pss_one (ps_ret (pe_op op_cat (pe_cl T.gL_flat G hr (pa_cons (pv 0) (pa_cons (pv 1) (pa_cons (pe_ix ix_tup (pv 2) pe_int (fun _ _ => rfl)) pa_nil))))
      (pe_cl T.gL_flat G hr (pa_cons (pv 0) (pa_cons (pv 1) (pa_cons (pe_ix ix_tup (pv 2) pe_int (fun _ _ => rfl)) pa_nil))))))), ?_⟩
  refine ⟨v, rfl, v, t, rfl, ht, _, rfl, ?_⟩
  have other : (∀ as, t ≠ .app f as) → flat ops f t = [comb ops t] := fun h => by
    cases t with
    | var n => rw [flat_var, comb_var]
    | app g as => exact flat_other fun e => h as (by rw [e])
  have one : (∀ as, t ≠ .app f as) → tCall (spComb ops Sc) [] E0 (tCons (tVar 0) (tCons (tVar 2) tNil)) [some (.ref l), some (.str f), some v] H (fun x H1 => ([x] : List V).length ≤ sizeLine ∧ ∀ p, H1 p = none → Q (.ref p) (upd H1 p (.lst [x]))) := fun h => by
    refine ⟨_, rfl, v, rfl, l, v, t, rfl, hl, ht, hs.2 h, fun H1 r h1 hr1 => ⟨(by show 1 ≤ sizeLine; decide), fun p hp => ?_⟩⟩
    refine q _ p [r] (Same.trans h1 (same_upd hp _)) (h1.free hp) upd_same ?_
    rw [other h]
    exact .cons (hr1.same (same_upd hp _)) .nil
  cases t with
  | var n => exact iteT (iteT (one fun as z => nomatch z))
  | app g as =>
    refine iteF ?_
    obtain ⟨a, vs, rfl, ha, hv⟩ := ht.inv_app
    refine ⟨_, rfl, a, _, 0, .str g, rfl, rfl, SqT.of ha, atI_nat (j := 0) rfl, .str f, rfl, rfl, _, rfl, ?_⟩
    by_cases e : g = f
    · subst e
      rw [decide_eq_true rfl]
      obtain ⟨x, y, rfl, ox, oy⟩ := two_args S hf ho
      obtain ⟨vx, r, rfl, hx, hv⟩ := hv.inv_cons
      obtain ⟨vy, r, rfl, hy, hv⟩ := hv.inv_cons
      cases hv.inv_nil
      have fx := ((comb_facts S x ox).2 g hf)
      have fy := ((comb_facts S y oy).2 g hf)
      have hi2 : inn x + inn y ≤ 13 := by
        simp only [inn, innL, List.isEmpty_cons, Bool.false_eq_true, if_false] at hi
        omega
      refine iteF ⟨_, rfl, _, rfl, _, rfl, a, _, 1, vx, rfl, rfl, SqT.of ha, atI_nat (j := 1) rfl, l, g, vx, x, rfl, hl, hx, hs.1 _ rfl x (by simp), fun H1 p xs h1 hp hp1 hxs => ?_⟩
      refine ⟨_, rfl, _, rfl, _, rfl, a, _, 2, vy, rfl, rfl, SqT.of (h1 _ _ ha), atI_nat (j := 2) rfl, l, g, vy, y, rfl, h1 _ _ hl, hy.same h1, hs.1 _ rfl y (by simp), fun H2 p2 ys h2 hp2 hp22 hys => ?_⟩
      have l1 := hxs.len
      have l2 := hys.len
      refine ⟨p, p2, xs, ys, rfl, rfl, h2 _ _ hp1, hp22, line1000 (by have := fx.2.2; have := fy.2.2; omega), fun p3 hp3 => ?_⟩
      have s3 : Same H2 (upd H2 p3 (.lst (xs ++ ys))) := same_upd hp3 _
      refine q _ p3 (xs ++ ys) (Same.trans h1 (Same.trans h2 s3)) (h1.free (h2.free hp3)) upd_same ?_
      rw [flat_same, flatL_two]
      exact ((hxs.same h2).append hys).same s3
    · have e' : decide (V.str g = V.str f) = false := decide_eq_false fun z => e (V.str.inj z)
      rw [e']
      exact iteT (one fun bs z => e (by cases z; rfl))
end
end J

namespace J
open PySem L2
theorem hu65 {k : Nat} {A : Around} (r : Room k A) : A.units + 65 < cLine := by have := r.un; omega
theorem toPyL_map : ∀ ts : List Tm, toPyL ts = ts.map toPy
  | [] => rfl
  | t :: ts => by rw [toPyL, toPyL_map ts]; rfl
theorem toPyL_shaped {ar : Str → Nat} {ts : List Tm} (ho : ∀ t ∈ ts, ok ar t) (hd : ∀ t ∈ ts, dep t ≤ 30) : SeqAt.shaped (.list (toPyL ts)) = true := by
  have l := toPyL_lay (okL_iff.mpr ho)
  have d : depL ts ≤ 30 := by
    clear l ho
    induction ts with
    | nil => exact Nat.zero_le _
    | cons t ts ih =>
      have h1 := hd t (by simp)
      have h2 := ih fun u hu => hd u (List.mem_cons_of_mem _ hu)
      rw [depL]; omega
  unfold SeqAt.shaped
  rw [PyData.canLay0, l.1, Bool.true_and, PyData.depth]
  exact decide_eq_true (by have := l.2; omega)
section
variable {P : Program} {w : World} {K : PySem.W.Frag} {mg : Str → Option Value} {base : Heap}
/-! ### _law_combined -/
theorem scLcb : FnScope ["_law_names_here", "_law_term_here", "_law_result", "_law_argument", "_law_rest", "_law_ordered", "_law_least", "_law_candidate", "_law_k"] ["_law_names_here", "_law_term_here"] (defScope (top 39)) := ⟨rfl, rfl, rfl, by decide +kernel, rfl, by decide +kernel, by decide +kernel⟩
theorem ok_lcomb {ar : Str → Nat} {ops : List Str} (S : Sig ar ops) {Sc : Tm → Prop} {Sf : Str → Tm → Prop} (T : Txt K mg) {j : Nat} (hj : 33 ≤ j) (C : Keeps P w base j T.gL_combined (spComb ops Sc)) (G : Keeps P w base j T.gL_flat (spFlat ops Sf)) :
    Keeps P w base (j + 1) T.gL_combined (spComb ops (ScN ar ops Sc Sf)) := by
  refine T.gL_combined.F.ok scLcb (fun vs H Q E h => ?_) (fun cdv A outer s H vs Q E hr h => ?_)
  · obtain ⟨l, v, t, rfl, _⟩ := h
    rfl
  obtain ⟨l, v, t, rfl, hl, ht, ⟨ho, hi, hs⟩, q⟩ := h
  refine ⟨_, pss_cons (ps_if (pt_val (pe_callB call_isint rfl T.z_isinstance PyProof.Rows.boot_isinstance (pa_cons (pv 1) (pa_cons (pe_bltn (v := .ty "int") rfl T.z_int PyProof.Rows.boot_int rfl) pa_nil)))) (pss_one (ps_ret (pv 1))) pss_nil)
    (pss_cons (ps_if (pt_cmpR op_notIn_seq (pe_ix ix_tup (pv 1) pe_int (fun _ _ => rfl)) (pv 0) (by rfl))
      (pss_cons (ps_set (i := 2) scLcb.nd rfl (Or.inl rfl) (pe_tup (pa_cons (pe_ix ix_tup (pv 1) pe_int (fun _ _ => rfl)) pa_nil)))
      (pss_cons (ps_for PassesOwn.never rfl (pi_tup (pe_tail (pv 1))) (pg_name (i := 3) scLcb.nd rfl (Or.inl rfl))
        (pss_one (ps_set (i := 2) scLcb.nd rfl (Or.inl rfl) (pe_op op_catT (pv 2) (pe_tup (pa_cons (pe_cl T.gL_combined C hr (pa_cons (pv 0) (pa_cons (pv 3) pa_nil))) pa_nil))))))
      (pss_one (ps_ret (pv 2))))) pss_nil)
    (pss_cons (ps_set (i := 4) scLcb.nd rfl (Or.inl rfl) (pe_cl T.gL_flat G hr (pa_cons (pv 0) (pa_cons (pe_ix ix_tup (pv 1) pe_int (fun _ _ => rfl)) (pa_cons (pv 1) pa_nil)))))
    (pss_cons (ps_set (i := 5) scLcb.nd rfl (Or.inl rfl) (pe_lst pa_nil))
    (pss_cons (ps_while PassesOwn.never (pt_cmpR op_gt (pe_callB call_len_seq rfl T.z_len PySem.boot_len (pa_cons (pv 4) pa_nil)) pe_int (nomark _))
      (pss_cons (ps_set (i := 6) scLcb.nd rfl (Or.inl rfl) (pe_ix ix_list (pv 4) pe_int (fun _ _ => rfl)))
      (pss_cons (ps_for PassesOwn.never rfl (pi_list (pv 4)) (pg_name (i := 7) scLcb.nd rfl (Or.inl rfl))
        (pss_one (ps_if (pt_cmpR op_lt (pe_cl T.gL_compare (ok_lcm T 30) (hr.mono (by omega)) (pa_cons (pv 7) (pa_cons (pv 6) pa_nil))) pe_int (nomark _))
          (pss_one (ps_set (i := 6) scLcb.nd rfl (Or.inl rfl) (pv 7))) pss_nil)))
      (pss_cons (ps_expr (pe_bm PySem.F.plainAttrs_list PySem.F.slot_list_append PySem.F.type_list_append mt_append (pv 5) (pa_cons (pv 6) pa_nil)))
      (pss_one (ps_expr (pe_bm PySem.F.plainAttrs_list PySem.F.slot_list_remove PySem.F.type_list_remove (mt_remD (hu65 hr)) (pv 4) (pa_cons (pv 6) pa_nil))))))))
    (pss_cons (ps_set (i := 2) scLcb.nd rfl (Or.inl rfl) (pe_ix ix_list (pv 5) (pe_un un_neg pe_int) (fun _ _ => rfl)))
    (pss_cons (ps_for PassesOwn.never rfl (pi_range2 rfl T.z_range (pa_cons pe_int (pa_cons (pe_callB call_len_seq rfl T.z_len PySem.boot_len (pa_cons (pv 5) pa_nil)) pa_nil))) (pg_name (i := 8) scLcb.nd rfl (Or.inl rfl))
      (pss_one (ps_set (i := 2) scLcb.nd rfl (Or.inl rfl) (pe_tup (pa_cons (pe_ix ix_tup (pv 1) pe_int (fun _ _ => rfl))
        (pa_cons (pe_ix ix_list (pv 5) (pe_op op_sub (pe_op op_sub (pe_callB call_len_seq rfl T.z_len PySem.boot_len (pa_cons (pv 5) pa_nil)) pe_int) (pv 8)) (fun _ _ => rfl)) (pa_cons (pv 2) pa_nil)))))))
    (pss_one (ps_ret (pv 2))))))))), ?_⟩
  refine ⟨v, rfl, v, t, rfl, ht, _, rfl, ?_⟩
  cases t with
  | var n => exact iteT ⟨v, rfl, q H v (Same.refl H) (by rw [comb_var]; exact ht)⟩
  | app f as =>
    refine iteF ?_
    obtain ⟨a, vs, rfl, ha, hv⟩ := ht.inv_app
    obtain ⟨hs1, hs2⟩ := hs f as rfl
    refine ⟨_, rfl, a, _, 0, .str f, rfl, rfl, SqT.of ha, atI_nat (j := 0) rfl, _, rfl, l, _, rfl, .inl (SqL.of hl), rfl, flat_ops ops, _, rfl, ?_⟩
    rw [if_pos rfl, inV_ops]
    by_cases hf : f ∈ ops
    · rw [decide_eq_true hf]
      refine iteF ⟨_, rfl, _, rfl, a, _, 0, .str f, rfl, rfl, SqT.of ha, atI_nat (j := 0) rfl, _, rfl, l, f, _, .app f as, rfl, hl, ht, hs1 hf, fun H1 p xs h1 hp hp1 hxs => ?_⟩
      refine ⟨(by show 0 ≤ sizeLine; decide), fun o ho5 => ?_⟩
      have fx := ((comb_facts S _ ho).2 f hf)
      generalize efl : flat ops f (.app f as) = fl at fx hxs
      obtain ⟨fne, fok, flen⟩ := fx
      have finn : ∀ u ∈ fl, inn u ≤ 14 := fun u hu => by
        have := innL_mem hu
        have := List.length_pos_iff.mpr fne
        omega
      have fsm : ∀ u ∈ fl, dep u ≤ 30 ∧ tsz u ≤ 1000 ∧ tsz u ≤ 400 ∧ dep u ≤ 15 := fun u hu => small_tm S (fok u hu) (finn u hu)
      have hoH : H o = none := h1.free ho5
      have s2 : Same H1 (upd H1 o (.lst [])) := same_upd ho5 _
      have hpo : p ≠ o := fun z => by rw [z, ho5] at hp1; cases hp1
      refine ⟨fun m σ H2 => ∃ (rt ot : List Tm) (rv ov : List V) (z6 z7 : Option V), Same H H2 ∧ H2 p = some (.lst rv) ∧ TmsAt H2 rt rv ∧ H2 o = some (.lst ov) ∧ TmsAt H2 ot ov ∧ (ot ++ rt).Perm fl ∧ ot.Pairwise le ∧ (∀ x ∈ ot, ∀ y ∈ rt, le x y) ∧ m = rt.length ∧
          σ = [some (.ref l), some (.ref a), none, none, some (.ref p), some (.ref o), z6, z7, none],
        ⟨fl.length, fl, [], xs, [], none, none, Same.trans h1 s2, s2 _ _ hp1, hxs.same s2, upd_same, .nil, .refl _, .nil, (fun x hx => absurd hx (by simp)), rfl, rfl⟩, ?_⟩
      rintro m σ H2 ⟨rt, ot, rv, ov, z6, z7, h2, h2p, hrt, h2o, hot, per, srt, sep, rfl, rfl⟩
      have lr := hrt.len
      have lo := hot.len
      have fromR : ∀ u ∈ rt, u ∈ fl := fun u hu => per.mem_iff.mp (List.mem_append_right _ hu)
      have lper := per.length_eq
      rw [List.length_append] at lper
      refine ⟨_, rfl, p, rv, rfl, .inl (SqL.of h2p), _, _, rfl, rfl, _, rfl, ?_⟩
      by_cases c : rt = []
      · -- all are in order
        subst c
        have e0 : rv = [] := hrt.inv_nil
        subst e0
        rw [List.append_nil] at per
        have eo : ot = isort fl := isort_eq fok srt per
        have one : ot ≠ [] := fun z => by
          have e := per.length_eq
          rw [z] at e
          have := List.length_pos_iff.mpr fne
          simp only [List.length_nil] at e
          omega
        have ecomb : comb ops (.app f as) = build f ot := by rw [comb_in hf, ← flat_same, efl, ← eo]
        refine iteF ?_
        obtain ⟨pr, u, rfl⟩ : ∃ pr u, ot = pr ++ [u] := ⟨_, _, (List.dropLast_concat_getLast one).symm⟩
        obtain ⟨wr, x, rfl⟩ : ∃ wr x, ov = wr ++ [x] := by
          have ne : ov ≠ [] := fun z => by rw [z] at lo; simp at lo
          exact ⟨_, _, (List.dropLast_concat_getLast ne).symm⟩
        rw [List.length_append, List.length_append, List.length_singleton, List.length_singleton] at lo
        have lo' : wr.length = pr.length := by omega
        have hx : TmAt H2 u x := by
          have h3 := hot.drop pr.length
          rw [List.drop_left' rfl, List.drop_left' lo'] at h3
          obtain ⟨x', r, e3, h4, _⟩ := h3.inv_cons
          cases e3
          exact h4
        refine ⟨_, rfl, _, rfl, o, _, -1, x, rfl, rfl, SqL.of h2o, atI_last _ _, ?_⟩
        have hal : pr.length ≤ 1000 := by
          simp only [List.length_append, List.length_singleton] at lper
          omega
        refine ⟨_, rfl, o, _, rfl, .inl (SqL.of h2o), 1, _, rfl, ⟨by omega, by omega, by omega, by rw [List.length_append, List.length_singleton]; omega⟩, ?_⟩
        refine for_range (lo := 1) (n := ((((wr ++ [x]).length : Nat) : Int) - 1).toNat) (fun i σ H3 => Same H2 H3 ∧ ∃ (r : V) (z8 : Option V), TmAt H3 (build f ((pr ++ [u]).drop (pr.length - i))) r ∧ σ = [some (.ref l), some (.ref a), some r, none, some (.ref p), some (.ref o), z6, z7, z8])
          ⟨Same.refl H2, x, none, by rw [Nat.sub_zero, List.drop_left' rfl, build_one]; exact hx, rfl⟩ (fun i σ H3 hi3 h3 => ?_) (fun σ H3 h3 => ?_)
        · obtain ⟨h3, r, z8, hr3, rfl⟩ := h3
          have hi4 : i < pr.length := by rw [List.length_append, List.length_singleton] at hi3; omega
          have hk : pr.length - (i + 1) < (pr ++ [u]).length := by rw [List.length_append, List.length_singleton]; omega
          obtain ⟨y, y1, y2⟩ := hot.get (List.getElem?_eq_getElem hk)
          have ey : atI (wr ++ [x]) (((((wr ++ [x]).length : Nat) : Int) - 1) - (1 + (i : Int))) = some y := by
            have e : ((((wr ++ [x]).length : Nat) : Int) - 1) - (1 + (i : Int)) = ((pr.length - (i + 1) : Nat) : Int) := by rw [List.length_append, List.length_singleton]; omega
            rw [e]
            exact atI_nat y1
          refine ⟨_, rfl, a, _, 0, .str f, rfl, rfl, SqT.of (h3 _ _ (h2 _ _ ha)), atI_nat (j := 0) rfl, ?_⟩
          refine ⟨_, rfl, _, rfl, o, _, rfl, .inl (SqL.of (h3 _ _ h2o)), _, _, rfl, rfl, _, rfl, _, _, rfl, rfl, o, _, _, y, rfl, rfl, SqL.of (h3 _ _ h2o), ey, r, rfl, (by show 3 ≤ sizeLine; decide), fun p4 hp4 => ?_⟩
          have s4 : Same H3 (upd H3 p4 (.tup [.str f, y, r])) := same_upd hp4 _
          refine ⟨Same.trans h3 s4, .ref p4, _, ?_, rfl⟩
          have ed : (pr ++ [u]).drop (pr.length - (i + 1)) = (pr ++ [u])[pr.length - (i + 1)] :: (pr ++ [u]).drop (pr.length - i) := by
            rw [List.drop_eq_getElem_cons hk]
            congr 2
            omega
          have ne : (pr ++ [u]).drop (pr.length - i) ≠ [] := fun z => by
            have := congrArg List.length z
            rw [List.length_drop, List.length_append, List.length_singleton, List.length_nil] at this
            omega
          rw [ed, build_cons ne]
          exact .app upd_same (.cons ((y2.same h3).same s4) (.cons (hr3.same s4) .nil))
        · obtain ⟨h3, r, z8, hr3, rfl⟩ := h3
          have ez : pr.length - ((((wr ++ [x]).length : Nat) : Int) - 1).toNat = 0 := by rw [List.length_append, List.length_singleton]; omega
          rw [ez, List.drop_zero, ← ecomb] at hr3
          exact ⟨_, rfl, q H3 r (Same.trans h2 h3) hr3⟩
      · -- the least one goes over
        obtain ⟨t0, rt', rfl⟩ : ∃ t0 rt', rt = t0 :: rt' := by
          cases rt with
          | nil => exact absurd rfl c
          | cons t0 rt' => exact ⟨t0, rt', rfl⟩
        obtain ⟨x0, rv', rfl, hx0, hrt'⟩ := id hrt.inv_cons
        rw [decide_eq_true (show (0 : Int) < (((x0 :: rv').length : Nat) : Int) by rw [List.length_cons]; omega)]
        refine iteT ⟨fun σ' H' => ∃ (rt ot : List Tm) (rv ov : List V) (z6 z7 : Option V), Same H H' ∧ H' p = some (.lst rv) ∧ TmsAt H' rt rv ∧ H' o = some (.lst ov) ∧ TmsAt H' ot ov ∧ (ot ++ rt).Perm fl ∧ ot.Pairwise le ∧ (∀ x ∈ ot, ∀ y ∈ rt, le x y) ∧ rt.length < (t0 :: rt').length ∧
            σ' = [some (.ref l), some (.ref a), none, none, some (.ref p), some (.ref o), z6, z7, none], ?_, ?_⟩
        · rintro σ' H' ⟨rt2, ot2, rv2, ov2, y6, y7, b1, b2, b3, b4, b5, b6, b7, b8, b9, b10⟩
          exact ⟨rt2.length, b9, rt2, ot2, rv2, ov2, y6, y7, b1, b2, b3, b4, b5, b6, b7, b8, rfl, b10⟩
        generalize erv : x0 :: rv' = rv at h2p hrt lr
        generalize ert : t0 :: rt' = rts at hrt lr per sep fromR lper
        refine ⟨_, rfl, p, rv, 0, x0, rfl, rfl, SqL.of h2p, by rw [← erv]; exact atI_nat (j := 0) rfl, ?_⟩
        refine ⟨_, rfl, p, rfl, ⟨_, SqL.of h2p⟩, ?_⟩
        refine for_list (xs := rv) (fun i σ H3 => Same H2 H3 ∧ ∃ (lt : Tm) (lv : V) (z7 : Option V), TmAt H3 lt lv ∧ lt ∈ rts ∧ (∀ (j : Nat) (u : Tm), j < i → rts[j]? = some u → le lt u) ∧ σ = [some (.ref l), some (.ref a), none, none, some (.ref p), some (.ref o), some lv, z7, none])
          ⟨Same.refl H2, t0, x0, z7, hx0, by rw [← ert]; exact List.mem_cons_self, fun j u hj => absurd hj (Nat.not_lt_zero j), rfl⟩ (fun i σ H3 _ h3 => SqL.of (h3.1 _ _ h2p)) (fun i x σ H3 hx h3 => ?_) (fun σ H3 h3 => ?_)
        · obtain ⟨h3, lt, lv, y7, hlt, mlt, hle, rfl⟩ := h3
          obtain ⟨u, e1, e2⟩ := hrt.at hx
          have mu := List.mem_of_getElem? e1
          have fu := fsm u (fromR u mu)
          have fl2 := fsm lt (fromR lt mlt)
          refine ⟨_, rfl, _, rfl, x, lv, u, lt, rfl, e2.same h3, hlt, ⟨fu.1, fl2.1⟩, ⟨fu.2.1, fl2.2.1⟩, fun H4 h4 => ⟨_, _, rfl, rfl, _, rfl, ?_⟩⟩
          by_cases k : cmp u lt < 0
          · rw [decide_eq_true k]
            refine iteT ⟨_, rfl, Same.trans h3 h4, u, x, some x, (e2.same h3).same h4, mu, fun j y hj hy => ?_, rfl⟩
            by_cases z : j = i
            · rw [z, e1] at hy
              cases hy
              exact cmp_refl u
            · exact cmp_trans (Int.le_of_lt k) (hle j y (by omega) hy)
          · rw [decide_eq_false k]
            refine iteF ⟨Same.trans h3 h4, lt, lv, some x, hlt.same h4, mlt, fun j y hj hy => ?_, rfl⟩
            by_cases z : j = i
            · rw [z, e1] at hy
              cases hy
              exact cmp_ge k
            · exact hle j y (by omega) hy
        · obtain ⟨h3, lt, lv, y7, hlt, mlt, hle, rfl⟩ := h3
          have least : ∀ u ∈ rts, le lt u := fun u hu => by
            obtain ⟨j, hj, e⟩ := List.getElem_of_mem hu
            exact hle j u (by rw [lr]; exact hj) (by rw [List.getElem?_eq_getElem hj, e])
          have h3p := h3 _ _ h2p
          have h3o := h3 _ _ h2o
          have tu1 : Tups H3 (upd H3 o (.lst (ov ++ [lv]))) := tups_lst h3o
          obtain ⟨j, j1, j2⟩ := first_at mlt
          have hpo' : p ≠ o := hpo
          refine ⟨_, rfl, .inl ⟨rfl, _, SqL.of h3o⟩, _, rfl, o, ov, lv, rfl, rfl, h3o, small1000 (by omega), ?_⟩
          have h4p : upd H3 o (.lst (ov ++ [lv])) p = some (.lst rv) := by rw [upd_ne hpo']; exact h3p
          have rt4 := (hrt.same h3).mono tu1
          have lt4 := hlt.mono tu1
          refine ⟨_, rfl, .inl ⟨rfl, _, SqL.of h4p⟩, _, rfl, p, rv, lv, _, _, j, toPy lt, rfl, rfl, h4p, toPyL_dp rt4, toPy_dp lt4, toPyL_shaped (fun u hu => fok u (fromR u hu)) (fun u hu => (fsm u (fromR u hu)).1),
            toPy_shaped (fok lt (fromR lt mlt)) (by have := (fsm lt (fromR lt mlt)).1; omega), by rw [toPyL_map, List.getElem?_map, j1]; rfl, (toPy_eqv lt lt).mpr rfl, ?_, ?_⟩
          · intro q' z' hq' hz'
            rw [toPyL_map, List.getElem?_map] at hz'
            cases e : rts[q']? with
            | none => rw [e] at hz'; cases hz'
            | some u =>
              rw [e] at hz'
              have ez : toPy u = z' := Option.some.inj hz'
              rw [← ez]
              cases b : PyData.eqv (toPy u) (toPy lt) with
              | false => rfl
              | true => exact absurd (by rw [e, (toPy_eqv u lt).mp b]) (j2 q' hq')
          · have tu2 : Tups (upd H3 o (.lst (ov ++ [lv]))) (upd (upd H3 o (.lst (ov ++ [lv]))) p (.lst (rv.eraseIdx j))) := tups_lst h4p
            have ep := erase_perm j1
            refine ⟨rts.eraseIdx j, ot ++ [lt], rv.eraseIdx j, ov ++ [lv], some lv, y7, ?_, upd_same, (rt4.erase j).mono tu2, ?_, ?_, ?_, ?_, ?_, ?_, rfl⟩
            · exact same_at (same_at (Same.trans h2 h3) hoH _) hp _
            · rw [upd_ne (Ne.symm hpo'), upd_same]
            · exact ((hot.same h3).mono tu1 |>.snoc lt4).mono tu2
            · rw [List.append_assoc]
              exact (List.Perm.append_left ot ep).trans per
            · refine List.pairwise_append.mpr ⟨srt, List.pairwise_singleton _ _, fun y hy z hz => ?_⟩
              rw [List.mem_singleton.mp hz]
              exact sep y hy lt mlt
            · intro y hy z hz
              have mz : z ∈ rts := ep.mem_iff.mp (List.mem_cons_of_mem _ hz)
              rcases List.mem_append.mp hy with k | k
              · exact sep y k z mz
              · rw [List.mem_singleton.mp k]
                exact least z mz
            · have e := ep.length_eq
              rw [List.length_cons] at e
              omega
    · rw [decide_eq_false hf]
      have hout : comb ops (.app f as) = .app f (as.map (comb ops)) := comb_out hf
      have hlen := hv.len
      have h3 := S.three f
      have hal : as.length ≤ 3 := by rw [ho.1.2]; exact h3
      refine iteT ⟨_, rfl, a, _, 0, .str f, rfl, rfl, SqT.of ha, atI_nat (j := 0) rfl, (by show 1 ≤ sizeLine; decide), fun p1 hp1 => ?_⟩
      have s1 : Same H (upd H p1 (.tup [.str f])) := same_upd hp1 _
      refine ⟨_, rfl, _, rfl, a, _, vs, rfl, rfl, rfl, SqT.of (s1 _ _ ha), fun p2 hp2 => ⟨p2, rfl, ⟨_, SqT.of upd_same⟩, ?_⟩⟩
      have e2 := same_upd hp2 (.tup vs)
      refine for_tup (xs := vs) (fun i σ H2 => Same H H2 ∧ H2 p2 = some (.tup vs) ∧ ∃ (p : Addr) (acc : List V) (z : Option V), H2 p = some (.tup (.str f :: acc)) ∧ TmsAt H2 ((as.take i).map (comb ops)) acc ∧ σ = [some (.ref l), some (.ref a), some (.ref p), z, none, none, none, none, none])
        ⟨Same.trans s1 e2, upd_same, p1, [], none, e2 _ _ upd_same, .nil, rfl⟩ (fun i σ H2 _ h2 => SqT.of h2.2.1) (fun i x σ H2 hx h2 => ?_) (fun σ H2 h2 => ?_)
      · obtain ⟨h2, h2b, p, acc, z, h2p, hacc, rfl⟩ := h2
        obtain ⟨u, e1, e2⟩ := hv.at hx
        have hal2 := hacc.len
        rw [List.length_map, List.length_take] at hal2
        refine ⟨_, rfl, _, rfl, x, rfl, l, x, u, rfl, h2 _ _ hl, e2.same h2, hs2 hf u (List.mem_of_getElem? e1), fun H3 r h3 hr3 => ⟨(by show 1 ≤ sizeLine; decide), fun p4 hp4 => ?_⟩⟩
        have s4 : Same H3 (upd H3 p4 (.tup [r])) := same_upd hp4 _
        refine ⟨p, p4, _, _, rfl, rfl, SqT.of (s4 _ _ (h3 _ _ h2p)), SqT.of upd_same, by simp, line1000 (by simp only [List.length_cons, List.length_nil]; omega), (fun z => absurd z (by simp)), fun _ p5 hp5 => ?_⟩
        have s5 : Same (upd H3 p4 (.tup [r])) (upd (upd H3 p4 (.tup [r])) p5 (.tup ((.str f :: acc) ++ [r]))) := same_upd hp5 _
        have s45 := Same.trans s4 s5
        refine ⟨Same.trans h2 (Same.trans h3 s45), s45 _ _ (h3 _ _ h2b), p5, acc ++ [r], some x, upd_same, ?_, rfl⟩
        rw [List.take_succ, e1, Option.toList_some, List.map_append]
        exact ((hacc.same h3).append (.cons hr3 .nil)).same s45
      · obtain ⟨h2, h2b, p, acc, z, h2p, hacc, rfl⟩ := h2
        have et : as.take vs.length = as := by rw [hlen]; exact List.take_length
        rw [et] at hacc
        refine ⟨_, rfl, q H2 _ h2 ?_⟩
        rw [hout]
        exact .app h2p hacc
end
end J

namespace J
open PySem L2
section
variable {P : Program} {w : World} {K : PySem.W.Frag} {mg : Str → Option Value} {base : Heap}
theorem lcombs {ar : Str → Nat} {ops : List Str} (S : Sig ar ops) (T : Txt K mg) : ∀ n : Nat, Keeps P w base (40 + 3 * n) T.gL_combined (spComb ops (ScD ar n)) ∧ Keeps P w base (40 + 3 * n) T.gL_flat (spFlat ops (SfD ar ops n))
  | 0 => ⟨(no_call fun vs H Q E ⟨l, v, t, _, _, _, h, _⟩ => by have := dep_pos t; have := h.2.2; omega).mono (Nat.zero_le _),
    (no_call fun vs H Q E ⟨l, f, v, t, _, _, _, h, _⟩ => by have := dep_pos t; have := h.2.2.2; omega).mono (Nat.zero_le _)⟩
  | n + 1 => by
    obtain ⟨C, G⟩ := lcombs S T n
    have e : 40 + 3 * (n + 1) = 40 + 3 * n + 1 + 1 + 1 := by omega
    have F1 : Keeps P w base (40 + 3 * n + 1) T.gL_flat (spFlat ops fun f t => (∃ as, t = .app f as) ∧ SfD ar ops (n + 1) f t) := (ok_lflat S T C G).imp (spFlat_imp fun f t h => by
      obtain ⟨⟨as, rfl⟩, hf, ho, hi, hd⟩ := h
      refine ⟨hf, ho, hi, fun bs z a ha => ?_, fun z => absurd rfl (z as)⟩
      cases z
      exact ⟨hf, args_of ho hi hd a ha⟩)
    have C1 : Keeps P w base (40 + 3 * n + 1 + 1) T.gL_combined (spComb ops (ScD ar (n + 1))) := (ok_lcomb S T (by omega) (C.mono (Nat.le_succ _)) F1).imp (spComb_imp fun t h => by
      obtain ⟨ho, hi, hd⟩ := h
      refine ⟨ho, hi, fun f as z => ⟨fun hf => ⟨⟨as, z⟩, hf, ho, hi, hd⟩, fun hf a ha => ?_⟩⟩
      subst z
      exact args_of ho hi hd a ha)
    have F2 : Keeps P w base (40 + 3 * n + 1 + 1 + 1) T.gL_flat (spFlat ops (SfD ar ops (n + 1))) := (ok_lflat S T C1 (G.mono (by omega))).imp (spFlat_imp fun f t h => by
      obtain ⟨hf, ho, hi, hd⟩ := h
      refine ⟨hf, ho, hi, fun bs z a ha => ?_, fun z => ⟨ho, hi, hd⟩⟩
      subst z
      exact ⟨hf, args_of ho hi hd a ha⟩)
    rw [e]
    exact ⟨C1.mono (Nat.le_succ _), F2⟩
theorem ok_lcombT {ar : Str → Nat} {ops : List Str} (S : Sig ar ops) (T : Txt K mg) : Keeps P w base 85 T.gL_combined (spComb ops fun t => ok ar t ∧ inn t ≤ 14) :=
  (lcombs S T 15).1.imp (spComb_imp fun t h => ⟨h.1, h.2, (small_tm S h.1 h.2).2.2.2⟩)

/-! ### _law_spoilt -/
theorem refs_lst {rs : List Addr} (c : Int) (r : List V) : rs.map V.ref ≠ .int c :: r := fun z => by
  cases rs with
  | nil => cases z
  | cons a b => cases z
/-- a drawn place -/
theorem place_at {rs : List Addr} {i : Int} (h0 : 0 ≤ i) (h1 : i < rs.length) : ∃ r, r ∈ rs ∧ atI (rs.map V.ref) i = some (.ref r) := by
  have hi : i.toNat < rs.length := by omega
  have e : i = ((i.toNat : Nat) : Int) := by omega
  refine ⟨rs[i.toNat], List.getElem_mem hi, ?_⟩
  have z := atI_nat (xs := rs.map V.ref) (j := i.toNat) (v := .ref rs[i.toNat]) (by rw [List.getElem?_map, List.getElem?_eq_getElem hi] <;> rfl)
  rw [← e] at z
  exact z
def spSpoil (ns : List Str) : Sp := fun vs H Q _ => ∃ (st o : Addr) (v : V) (t : Tm), vs = [.ref st, .ref o, .int 2, v] ∧ StOk H st ∧ OpnsAt H o ns ∧ TmAt H t v ∧ ok (arF ns) t ∧ inn t ≤ 13 ∧
  ∀ H' r t', Sb st H H' → StOk H' st → TmAt H' t' r → ok (arF ns) t' → inn t' ≤ 14 → Q r H'
theorem scSpoil : FnScope ["_law_state_here", "_law_operations", "_law_count", "_law_term_here", "_law_places", "_law_position"] ["_law_state_here", "_law_operations", "_law_count", "_law_term_here"] (defScope (top 36)) := ⟨rfl, rfl, rfl, by decide +kernel, rfl, by decide +kernel, by decide +kernel⟩
theorem sig_nil (ns : List Str) : Sig (arF ns) [] := ⟨arF_le ns, fun f h => absurd h (by simp)⟩
theorem ok_spoil {ns : List Str} (N : Nms ns) (T : Txt K mg) : Keeps P w base 17 T.gL_spoilt (spSpoil ns) := by
  refine T.gL_spoilt.F.ok scSpoil (fun vs H Q E h => ?_) (fun cdv A outer s H vs Q E hr h => ?_)
  · obtain ⟨st, o, v, t, rfl, _⟩ := h
    rfl
  obtain ⟨st, o, v, t, rfl, hst, hop, ht, ho, hi, q⟩ := h
  refine ⟨_, pss_cons (ps_set (i := 4) scSpoil.nd rfl (Or.inl rfl) (pe_cl T.gL_positions (ok_pos T 15) hr (pa_cons (pv 3) pa_nil)))
    (pss_cons (ps_set (i := 5) scSpoil.nd rfl (Or.inl rfl) (pe_ix ix_list (pv 4) (pe_cl T.gL_draw (ok_draw T) (hr.mono (by decide)) (pa_cons (pv 0) (pa_cons (pe_callB call_len_seq rfl T.z_len PySem.boot_len (pa_cons (pv 4) pa_nil)) pa_nil))) (fun _ _ => rfl)))
    (pss_one (ps_ret (pe_cl T.gL_replace (ok_repl T 15) hr (pa_cons (pv 3) (pa_cons (pv 5) (pa_cons (pe_cl T.gL_term (ok_term N T 1) (hr.mono (by decide)) (pa_cons (pv 0) (pa_cons (pv 1) (pa_cons (pv 2) (pa_cons pe_int pa_nil))))) pa_nil))))))), ?_⟩
  have sm := small_tm (sig_nil ns) ho (by omega)
  refine ⟨v, rfl, v, t, rfl, ht, sm.2.2.2, sm.2.1, fun H1 p rs h1 hp hp1 hrl hrs => ?_⟩
  have hs1 := hst.same h1
  obtain ⟨l, ha1⟩ := id hs1
  have tp := tsz_pos t
  refine ⟨_, rfl, _, rfl, _, rfl, p, _, rfl, .inl (SqL.of hp1), st, l, _, rfl, ha1, by rw [List.length_map]; omega, by rw [List.length_map]; omega, fun H2 i h2 ha2 c0 c1 => ?_⟩
  rw [List.length_map] at c1
  obtain ⟨r, mr, hr2⟩ := place_at c0 c1
  have pne := hs1.ne_lst hp1 refs_lst
  have t12 := Tups.trans (.of h1) (hs1.tups h2)
  obtain ⟨pp, q1, q2⟩ := (hrs r mr).mono (hs1.tups h2)
  refine ⟨p, _, i, _, rfl, rfl, SqL.of (h2 _ _ pne hp1), hr2, ?_⟩
  have hs2 : StOk H2 st := ⟨l, ha2⟩
  refine ⟨v, rfl, _, rfl, _, rfl, _, rfl, _, rfl, st, o, rfl, hs2, (hop.same h1).sb hs1 h2, fun H3 u tn h3 hs3 hu ok3 in3 => ?_⟩
  have t3 := hs2.tups h3
  have vl := vpos_len pp t q2
  have hin3 : inn tn ≤ 1 := in3
  refine ⟨v, r, u, t, pp, tn, rfl, (ht.mono t12).mono t3, t3 _ _ q1, hu, q2, by omega, ⟨_, arF_le ns, ho⟩, fun H4 r4 h4 hr4 => ?_⟩
  have ri := repl_inn pp t tn q2
  exact q H4 r4 _ (Sb.trans (.of h1) (Sb.trans h2 (Sb.trans h3 (.of h4)))) (hs3.same h4) hr4 (repl_ok pp t tn ho q2 ok3) (by omega)
end
end J

namespace J
open PySem L2
section
variable {P : Program} {w : World} {K : PySem.W.Frag} {mg : Str → Option Value} {base : Heap}
/-! ### _law_moved -/
theorem ops_lst {ops : List Str} (c : Int) (r : List V) : ops.map V.str ≠ .int c :: r := fun z => by
  cases ops with
  | nil => cases z
  | cons a b => cases z
def spMoved (ar : Str → Nat) (ops : List Str) : Sp := fun vs H Q _ => ∃ (st l : Addr) (v : V) (t : Tm), vs = [.ref st, .ref l, v] ∧ StOk H st ∧ OpsAt H l ops ∧ TmAt H t v ∧ ok ar t ∧ inn t ≤ 14 ∧
  ∀ H' r t', Sb st H H' → StOk H' st → TmAt H' t' r → Eqv ops t t' → ok ar t' → inn t' = inn t → Q r H'
theorem scMoved : FnScope ["_law_state_here", "_law_names_here", "_law_term_here", "_law_places", "_law_position", "_law_found", "_law_kind", "_law_left", "_law_right"] ["_law_state_here", "_law_names_here", "_law_term_here"] (defScope (top 40)) := ⟨rfl, rfl, rfl, by decide +kernel, rfl, by decide +kernel, by decide +kernel⟩
theorem inn_two (f : Str) (a b : Tm) : inn (.app f [a, b]) = 1 + inn a + inn b := by
  simp only [inn, innL, List.isEmpty_cons, Bool.false_eq_true, if_false]
  omega
theorem ok_two_of {ar : Str → Nat} {f : Str} {a b : Tm} (hn : nmOk f = true) (h2 : ar f = 2) (ha : ok ar a) (hb : ok ar b) : ok ar (.app f [a, b]) := ⟨⟨hn, by rw [h2]; rfl⟩, ha, hb, trivial⟩
theorem ok_moved {ar : Str → Nat} {ops : List Str} (S : Sig ar ops) (T : Txt K mg) : Keeps P w base 17 T.gL_moved (spMoved ar ops) := by
  refine T.gL_moved.F.ok scMoved (fun vs H Q E h => ?_) (fun cdv A outer s H vs Q E hr h => ?_)
  · obtain ⟨st, l, v, t, rfl, _⟩ := h
    rfl
  obtain ⟨st, l, v, t, rfl, hst, hl, ht, ho, hi, q⟩ := h
  refine ⟨_, pss_cons (ps_set (i := 3) scMoved.nd rfl (Or.inl rfl) (pe_cl T.gL_positions (ok_pos T 15) hr (pa_cons (pv 2) pa_nil)))
    (pss_cons (ps_set (i := 4) scMoved.nd rfl (Or.inl rfl) (pe_ix ix_list (pv 3) (pe_cl T.gL_draw (ok_draw T) (hr.mono (by decide)) (pa_cons (pv 0) (pa_cons (pe_callB call_len_seq rfl T.z_len PySem.boot_len (pa_cons (pv 3) pa_nil)) pa_nil))) (fun _ _ => rfl)))
    (pss_cons (ps_set (i := 5) scMoved.nd rfl (Or.inl rfl) (pe_cl T.gL_subterm (ok_sub T) (hr.mono (by decide)) (pa_cons (pv 2) (pa_cons (pv 4) pa_nil))))
    (pss_cons (ps_if (PW.pt (pw_or (pt_val (pe_callB call_isint rfl T.z_isinstance PyProof.Rows.boot_isinstance (pa_cons (pv 5) (pa_cons (pe_bltn (v := .ty "int") rfl T.z_int PyProof.Rows.boot_int rfl) pa_nil))))
        (pw_or1 (pt_cmpR op_notIn_seq (pe_ix ix_tup (pv 5) pe_int (fun _ _ => rfl)) (pv 1) (by rfl))))) (pss_one (ps_ret (pv 2))) pss_nil)
    (pss_cons (ps_set (i := 6) scMoved.nd rfl (Or.inl rfl) (pe_cl T.gL_draw (ok_draw T) (hr.mono (by decide)) (pa_cons (pv 0) (pa_cons pe_int pa_nil))))
    (pss_cons (ps_par (i := 7) (j := 8) rfl scMoved.nd rfl rfl (by decide) rfl rfl (pa_cons (pe_ix ix_tup (pv 5) pe_int (fun _ _ => rfl)) (pa_cons (pe_ix ix_tup (pv 5) pe_int (fun _ _ => rfl)) pa_nil)) (by rfl))
    (C8.pss_cut (ps_if (pt_cmpR op_eq (pv 6) pe_int (nomark _))
        (pss_one (ps_set (i := 5) scMoved.nd rfl (Or.inl rfl) (pe_tup (pa_cons (pe_ix ix_tup (pv 5) pe_int (fun _ _ => rfl)) (pa_cons (pv 8) (pa_cons (pv 7) pa_nil))))))
        (pss_one (ps_if (PW.pt (pw_and (pt_cmpR op_eq (pv 6) pe_int (nomark _)) (pw_and (pt_not (pt_val (pe_callB call_isint rfl T.z_isinstance PyProof.Rows.boot_isinstance (pa_cons (pv 7) (pa_cons (pe_bltn (v := .ty "int") rfl T.z_int PyProof.Rows.boot_int rfl) pa_nil)))))
            (pw_and1 (pt_cmpR op_eq (pe_ix ix_tup (pv 7) pe_int (fun _ _ => rfl)) (pe_ix ix_tup (pv 5) pe_int (fun _ _ => rfl)) (nomark _))))))
          (pss_one (ps_set (i := 5) scMoved.nd rfl (Or.inl rfl) (pe_tup (pa_cons (pe_ix ix_tup (pv 5) pe_int (fun _ _ => rfl)) (pa_cons (pe_ix ix_tup (pv 7) pe_int (fun _ _ => rfl))
            (pa_cons (pe_tup (pa_cons (pe_ix ix_tup (pv 5) pe_int (fun _ _ => rfl)) (pa_cons (pe_ix ix_tup (pv 7) pe_int (fun _ _ => rfl)) (pa_cons (pv 8) pa_nil)))) pa_nil))))))
          (pss_one (ps_if (PW.pt (pw_and (pt_not (pt_val (pe_callB call_isint rfl T.z_isinstance PyProof.Rows.boot_isinstance (pa_cons (pv 8) (pa_cons (pe_bltn (v := .ty "int") rfl T.z_int PyProof.Rows.boot_int rfl) pa_nil)))))
            (pw_and1 (pt_cmpR op_eq (pe_ix ix_tup (pv 8) pe_int (fun _ _ => rfl)) (pe_ix ix_tup (pv 5) pe_int (fun _ _ => rfl)) (nomark _)))))
            (pss_one (ps_set (i := 5) scMoved.nd rfl (Or.inl rfl) (pe_tup (pa_cons (pe_ix ix_tup (pv 5) pe_int (fun _ _ => rfl))
              (pa_cons (pe_tup (pa_cons (pe_ix ix_tup (pv 5) pe_int (fun _ _ => rfl)) (pa_cons (pv 7) (pa_cons (pe_ix ix_tup (pv 8) pe_int (fun _ _ => rfl)) pa_nil)))) (pa_cons (pe_ix ix_tup (pv 8) pe_int (fun _ _ => rfl)) pa_nil)))))) pss_nil)))))
    (pss_one (ps_ret (pe_cl T.gL_replace (ok_repl T 15) hr (pa_cons (pv 2) (pa_cons (pv 4) (pa_cons (pv 5) pa_nil)))))))))))), ?_⟩
  have sm := small_tm S ho hi
  refine ⟨v, rfl, v, t, rfl, ht, sm.2.2.2, sm.2.1, fun H1 p rs h1 hp hp1 hrl hrs => ?_⟩
  have hs1 := hst.same h1
  obtain ⟨l1, ha1⟩ := id hs1
  have tp := tsz_pos t
  refine ⟨_, rfl, _, rfl, _, rfl, p, _, rfl, .inl (SqL.of hp1), st, l1, _, rfl, ha1, by rw [List.length_map]; omega, by rw [List.length_map]; omega, fun H2 i h2 ha2 c0 c1 => ?_⟩
  rw [List.length_map] at c1
  obtain ⟨r, mr, hr2⟩ := place_at c0 c1
  have pne := hs1.ne_lst hp1 refs_lst
  have t12 := Tups.trans (.of h1) (hs1.tups h2)
  obtain ⟨pp, q1, q2⟩ := (hrs r mr).mono (hs1.tups h2)
  have hs2 : StOk H2 st := ⟨l1, ha2⟩
  have sb2 : Sb st H H2 := Sb.trans (.of h1) h2
  have ht2 := ht.mono t12
  have lne := hst.ne_lst hl ops_lst
  have hl2 : OpsAt H2 l ops := sb2 _ _ lne hl
  refine ⟨p, _, i, _, rfl, rfl, SqL.of (h2 _ _ pne hp1), hr2, v, rfl, _, rfl, v, r, t, pp, rfl, ht2, q1, q2, fun vu hu => ?_⟩
  have ou := sub_ok pp t ho q2
  have keepT : tRet (tVar 2) { nx := fun _ H' => Q .non H', rt := Q } [some (.ref st), some (.ref l), some v, some (.ref p), some (.ref r), some vu, none, none, none] H2 := ⟨_, rfl, q H2 v t sb2 hs2 ht2 (.rfl' t) ho rfl⟩
  have fin : ∀ (H4 : Hp) (v5 : V) (t5 : Tm) (z6 z7 z8 : Option V), Sb st H H4 → StOk H4 st → TmAt H4 t5 v5 → Eqv ops (sub pp t) t5 → ok ar t5 → inn t5 = inn (sub pp t) → H4 r = some (.tup (PosV pp)) → TmAt H4 t v →
      tRet (tCall (spRepl 15) [] E0 (tCons (tVar 2) (tCons (tVar 4) (tCons (tVar 5) tNil)))) { nx := fun _ H' => Q .non H', rt := Q } [some (.ref st), some (.ref l), some v, some (.ref p), some (.ref r), some v5, z6, z7, z8] H4 := fun H4 v5 t5 z6 z7 z8 b1 b2 b3 b4 b5 b6 b7 b8 => by
    have vl := vpos_len pp t q2
    refine ⟨_, rfl, _, rfl, _, rfl, v, r, v5, t, pp, t5, rfl, b8, b7, b3, q2, by omega, ⟨ar, S.three, ho⟩, fun H5 r5 h5 hr5 => ?_⟩
    have ri := repl_inn pp t t5 q2
    exact q H5 r5 _ (Sb.trans b1 (.of h5)) (b2.same h5) hr5 (repl_eqv S pp t t5 ho q2 b4) (repl_ok pp t t5 ho q2 b5) (by omega)
  generalize eu : sub pp t = u at hu ou fin
  refine ⟨vu, rfl, vu, u, rfl, hu, _, rfl, ?_⟩
  cases u with
  | var n => exact iteT (iteT keepT)
  | app g as =>
    obtain ⟨au, vs, rfl, hau, hvs⟩ := hu.inv_app
    refine iteF ⟨_, rfl, au, _, 0, .str g, rfl, rfl, SqT.of hau, atI_nat (j := 0) rfl, _, rfl, l, _, rfl, .inl (SqL.of hl2), rfl, flat_ops ops, _, rfl, ?_⟩
    rw [if_pos rfl, inV_ops]
    by_cases hg : g ∈ ops
    · rw [decide_eq_true hg]
      obtain ⟨x, y, rfl, ox, oy⟩ := two_args S hg ou
      obtain ⟨vx, r1, rfl, hx, hvs⟩ := hvs.inv_cons
      obtain ⟨vy, r2, rfl, hy, hvs⟩ := hvs.inv_cons
      cases hvs.inv_nil
      refine iteF ⟨_, rfl, st, l1, 3, rfl, ha2, by decide, by decide, fun H3 k h3 ha3 d0 d1 => ?_⟩
      have hs3 : StOk H3 st := ⟨l1, ha3⟩
      have t3 := hs2.tups h3
      have sb3 := Sb.trans sb2 h3
      have hau3 := t3 _ _ hau
      have hx3 := hx.mono t3
      have hy3 := hy.mono t3
      have ht3 := ht2.mono t3
      have hpp3 := t3 _ _ q1
      refine ⟨_, rfl, au, _, 1, vx, rfl, rfl, SqT.of hau3, atI_nat (j := 1) rfl, _, rfl, au, _, 2, vy, rfl, rfl, SqT.of hau3, atI_nat (j := 2) rfl, _, _, rfl, ?_⟩
      refine ⟨fun σ' H' => ∃ (v5 : V) (t5 : Tm) (z6 z7 z8 : Option V), σ' = [some (.ref st), some (.ref l), some v, some (.ref p), some (.ref r), some v5, z6, z7, z8] ∧ Sb st H H' ∧ StOk H' st ∧ TmAt H' t5 v5 ∧ Eqv ops (.app g [x, y]) t5 ∧ ok ar t5 ∧ inn t5 = inn (.app g [x, y]) ∧ H' r = some (.tup (PosV pp)) ∧ TmAt H' t v, ?_,
        fun σ' H' ⟨v5, t5, z6, z7, z8, e, b1, b2, b3, b4, b5, b6, b7, b8⟩ => by rw [e]; exact fin H' v5 t5 z6 z7 z8 b1 b2 b3 b4 b5 b6 b7 b8⟩
      have keep : ∀ z6 z7 z8 : Option V, ∃ (v5 : V) (t5 : Tm) (y6 y7 y8 : Option V), [some (.ref st), some (.ref l), some v, some (.ref p), some (.ref r), some (.ref au), z6, z7, z8] = [some (.ref st), some (.ref l), some v, some (.ref p), some (.ref r), some v5, y6, y7, y8] ∧ Sb st H H3 ∧ StOk H3 st ∧ TmAt H3 t5 v5 ∧ Eqv ops (.app g [x, y]) t5 ∧ ok ar t5 ∧ inn t5 = inn (.app g [x, y]) ∧ H3 r = some (.tup (PosV pp)) ∧ TmAt H3 t v :=
        fun z6 z7 z8 => ⟨.ref au, .app g [x, y], z6, z7, z8, rfl, sb3, hs3, .app hau3 (.cons hx3 (.cons hy3 .nil)), .rfl' _, ou, rfl, hpp3, ht3⟩
      refine ⟨_, rfl, rfl, _, rfl, ?_⟩
      by_cases k0 : k = 0
      · rw [decide_eq_true (show V.int k = V.int 0 by rw [k0])]
        refine iteT ⟨_, rfl, au, _, 0, .str g, rfl, rfl, SqT.of hau3, atI_nat (j := 0) rfl, vy, rfl, vx, rfl, (by show 3 ≤ sizeLine; decide), fun p4 hp4 => ?_⟩
        have s4 : Same H3 (upd H3 p4 (.tup [.str g, vy, vx])) := same_upd hp4 _
        refine ⟨.ref p4, .app g [y, x], _, _, _, rfl, Sb.trans sb3 (.of s4), hs3.same s4, .app upd_same (.cons (hy3.same s4) (.cons (hx3.same s4) .nil)), .swap S hg ou, ok_two_of ou.1.1 (S.two g hg) oy ox, ?_, s4 _ _ hpp3, ht3.same s4⟩
        simp only [inn_two]
        omega
      rw [decide_eq_false (show ¬ V.int k = V.int 0 from fun z => k0 (V.int.inj z))]
      refine iteF ⟨_, rfl, rfl, _, rfl, ?_⟩
      by_cases k1 : k = 1
      · rw [decide_eq_true (show V.int k = V.int 1 by rw [k1])]
        refine iteT ⟨vx, rfl, vx, _, rfl, hx3, _, rfl, ?_⟩
        cases x with
        | var m =>
          refine iteF (iteF ?_)
          cases y with
          | var m =>
            refine ⟨vy, rfl, vy, _, rfl, hy3, _, rfl, ?_⟩
            exact iteF (iteF (keep _ _ _))
          | app h bs =>
            refine ⟨vy, rfl, vy, _, rfl, hy3, _, rfl, ?_⟩
            obtain ⟨ay, vbs, rfl, hay, hvbs⟩ := hy3.inv_app
            refine iteT ⟨_, rfl, ay, _, 0, .str h, rfl, rfl, SqT.of hay, atI_nat (j := 0) rfl, _, rfl, au, _, 0, .str g, rfl, rfl, SqT.of hau3, atI_nat (j := 0) rfl, rfl, _, rfl, ?_⟩
            by_cases eh : h = g
            · subst eh
              rw [decide_eq_true rfl]
              obtain ⟨b1, b2, rfl, ob1, ob2⟩ := two_args S hg oy
              obtain ⟨vb1, r1, rfl, hb1, hvbs⟩ := hvbs.inv_cons
              obtain ⟨vb2, r2, rfl, hb2, hvbs⟩ := hvbs.inv_cons
              cases hvbs.inv_nil
              refine iteT ⟨_, rfl, au, _, 0, .str h, rfl, rfl, SqT.of hau3, atI_nat (j := 0) rfl, _, rfl, au, _, 0, .str h, rfl, rfl, SqT.of hau3, atI_nat (j := 0) rfl, _, rfl, _, rfl, ay, _, 1, vb1, rfl, rfl, SqT.of hay, atI_nat (j := 1) rfl, (by show 3 ≤ sizeLine; decide), fun p5 hp5 => ?_⟩
              have s5 : Same H3 (upd H3 p5 (.tup [.str h, vx, vb1])) := same_upd hp5 _
              refine ⟨_, rfl, ay, _, 2, vb2, rfl, rfl, SqT.of (s5 _ _ hay), atI_nat (j := 2) rfl, (by show 3 ≤ sizeLine; decide), fun p6 hp6 => ?_⟩
              have s6 : Same (upd H3 p5 (.tup [.str h, vx, vb1])) (upd (upd H3 p5 (.tup [.str h, vx, vb1])) p6 (.tup [.str h, .ref p5, vb2])) := same_upd hp6 _
              have s56 := Same.trans s5 s6
              refine ⟨.ref p6, .app h [.app h [_, b1], b2], _, _, _, rfl, Sb.trans sb3 (.of s56), hs3.same s56, .app upd_same (.cons (.app (s6 _ _ upd_same) (.cons (hx3.same s56) (.cons (hb1.same s56) .nil))) (.cons (hb2.same s56) .nil)), .left S hg ou, ?_, ?_, s56 _ _ hpp3, ht3.same s56⟩
              · exact ok_two_of ou.1.1 (S.two h hg) (ok_two_of ou.1.1 (S.two h hg) ox ob1) ob2
              · simp only [inn_two]
                omega
            · rw [decide_eq_false (show ¬ V.str h = V.str g from fun z => eh (V.str.inj z))]
              exact iteF (keep _ _ _)
        | app h bs0 =>
          obtain ⟨ax, vbs0, evx, hax, hvbs0⟩ := hx3.inv_app
          refine iteT ⟨_, rfl, ax, _, 0, .str h, evx, rfl, SqT.of hax, atI_nat (j := 0) rfl, _, rfl, au, _, 0, .str g, rfl, rfl, SqT.of hau3, atI_nat (j := 0) rfl, rfl, _, rfl, ?_⟩
          by_cases eh0 : h = g
          · subst eh0
            rw [decide_eq_true rfl]
            obtain ⟨b1, b2, rfl, ob1, ob2⟩ := two_args S hg ox
            obtain ⟨vb1, r1, rfl, hb1, hvbs0⟩ := hvbs0.inv_cons
            obtain ⟨vb2, r2, rfl, hb2, hvbs0⟩ := hvbs0.inv_cons
            cases hvbs0.inv_nil
            refine iteT ⟨_, rfl, au, _, 0, .str h, rfl, rfl, SqT.of hau3, atI_nat (j := 0) rfl, _, rfl, ax, _, 1, vb1, evx, rfl, SqT.of hax, atI_nat (j := 1) rfl, _, rfl, au, _, 0, .str h, rfl, rfl, SqT.of hau3, atI_nat (j := 0) rfl, _, rfl, ax, _, 2, vb2, evx, rfl, SqT.of hax, atI_nat (j := 2) rfl, vy, rfl, (by show 3 ≤ sizeLine; decide), fun p5 hp5 => ?_⟩
            have s5 : Same H3 (upd H3 p5 (.tup [.str h, vb2, vy])) := same_upd hp5 _
            refine ⟨(by show 3 ≤ sizeLine; decide), fun p6 hp6 => ?_⟩
            have s6 : Same (upd H3 p5 (.tup [.str h, vb2, vy])) (upd (upd H3 p5 (.tup [.str h, vb2, vy])) p6 (.tup [.str h, vb1, .ref p5])) := same_upd hp6 _
            have s56 := Same.trans s5 s6
            refine ⟨.ref p6, .app h [b1, .app h [b2, y]], _, _, _, rfl, Sb.trans sb3 (.of s56), hs3.same s56, .app upd_same (.cons (hb1.same s56) (.cons (.app (s6 _ _ upd_same) (.cons (hb2.same s56) (.cons (hy3.same s56) .nil))) .nil)), .right S hg ou, ?_, ?_, s56 _ _ hpp3, ht3.same s56⟩
            · exact ok_two_of ou.1.1 (S.two h hg) ob1 (ok_two_of ou.1.1 (S.two h hg) ob2 oy)
            · simp only [inn_two]
              omega
          · rw [decide_eq_false (show ¬ V.str h = V.str g from fun z => eh0 (V.str.inj z))]
            refine iteF ?_
            cases y with
            | var m =>
              refine ⟨vy, rfl, vy, _, rfl, hy3, _, rfl, ?_⟩
              exact iteF (iteF (keep _ _ _))
            | app h bs =>
              refine ⟨vy, rfl, vy, _, rfl, hy3, _, rfl, ?_⟩
              obtain ⟨ay, vbs, rfl, hay, hvbs⟩ := hy3.inv_app
              refine iteT ⟨_, rfl, ay, _, 0, .str h, rfl, rfl, SqT.of hay, atI_nat (j := 0) rfl, _, rfl, au, _, 0, .str g, rfl, rfl, SqT.of hau3, atI_nat (j := 0) rfl, rfl, _, rfl, ?_⟩
              by_cases eh : h = g
              · subst eh
                rw [decide_eq_true rfl]
                obtain ⟨b1, b2, rfl, ob1, ob2⟩ := two_args S hg oy
                obtain ⟨vb1, r1, rfl, hb1, hvbs⟩ := hvbs.inv_cons
                obtain ⟨vb2, r2, rfl, hb2, hvbs⟩ := hvbs.inv_cons
                cases hvbs.inv_nil
                refine iteT ⟨_, rfl, au, _, 0, .str h, rfl, rfl, SqT.of hau3, atI_nat (j := 0) rfl, _, rfl, au, _, 0, .str h, rfl, rfl, SqT.of hau3, atI_nat (j := 0) rfl, _, rfl, _, rfl, ay, _, 1, vb1, rfl, rfl, SqT.of hay, atI_nat (j := 1) rfl, (by show 3 ≤ sizeLine; decide), fun p5 hp5 => ?_⟩
                have s5 : Same H3 (upd H3 p5 (.tup [.str h, vx, vb1])) := same_upd hp5 _
                refine ⟨_, rfl, ay, _, 2, vb2, rfl, rfl, SqT.of (s5 _ _ hay), atI_nat (j := 2) rfl, (by show 3 ≤ sizeLine; decide), fun p6 hp6 => ?_⟩
                have s6 : Same (upd H3 p5 (.tup [.str h, vx, vb1])) (upd (upd H3 p5 (.tup [.str h, vx, vb1])) p6 (.tup [.str h, .ref p5, vb2])) := same_upd hp6 _
                have s56 := Same.trans s5 s6
                refine ⟨.ref p6, .app h [.app h [_, b1], b2], _, _, _, rfl, Sb.trans sb3 (.of s56), hs3.same s56, .app upd_same (.cons (.app (s6 _ _ upd_same) (.cons (hx3.same s56) (.cons (hb1.same s56) .nil))) (.cons (hb2.same s56) .nil)), .left S hg ou, ?_, ?_, s56 _ _ hpp3, ht3.same s56⟩
                · exact ok_two_of ou.1.1 (S.two h hg) (ok_two_of ou.1.1 (S.two h hg) ox ob1) ob2
                · simp only [inn_two]
                  omega
              · rw [decide_eq_false (show ¬ V.str h = V.str g from fun z => eh (V.str.inj z))]
                exact iteF (keep _ _ _)
      · rw [decide_eq_false (show ¬ V.int k = V.int 1 from fun z => k1 (V.int.inj z))]
        refine iteF (iteF ?_)
        cases y with
        | var m =>
          refine ⟨vy, rfl, vy, _, rfl, hy3, _, rfl, ?_⟩
          exact iteF (iteF (keep _ _ _))
        | app h bs =>
          refine ⟨vy, rfl, vy, _, rfl, hy3, _, rfl, ?_⟩
          obtain ⟨ay, vbs, rfl, hay, hvbs⟩ := hy3.inv_app
          refine iteT ⟨_, rfl, ay, _, 0, .str h, rfl, rfl, SqT.of hay, atI_nat (j := 0) rfl, _, rfl, au, _, 0, .str g, rfl, rfl, SqT.of hau3, atI_nat (j := 0) rfl, rfl, _, rfl, ?_⟩
          by_cases eh : h = g
          · subst eh
            rw [decide_eq_true rfl]
            obtain ⟨b1, b2, rfl, ob1, ob2⟩ := two_args S hg oy
            obtain ⟨vb1, r1, rfl, hb1, hvbs⟩ := hvbs.inv_cons
            obtain ⟨vb2, r2, rfl, hb2, hvbs⟩ := hvbs.inv_cons
            cases hvbs.inv_nil
            refine iteT ⟨_, rfl, au, _, 0, .str h, rfl, rfl, SqT.of hau3, atI_nat (j := 0) rfl, _, rfl, au, _, 0, .str h, rfl, rfl, SqT.of hau3, atI_nat (j := 0) rfl, _, rfl, _, rfl, ay, _, 1, vb1, rfl, rfl, SqT.of hay, atI_nat (j := 1) rfl, (by show 3 ≤ sizeLine; decide), fun p5 hp5 => ?_⟩
            have s5 : Same H3 (upd H3 p5 (.tup [.str h, vx, vb1])) := same_upd hp5 _
            refine ⟨_, rfl, ay, _, 2, vb2, rfl, rfl, SqT.of (s5 _ _ hay), atI_nat (j := 2) rfl, (by show 3 ≤ sizeLine; decide), fun p6 hp6 => ?_⟩
            have s6 : Same (upd H3 p5 (.tup [.str h, vx, vb1])) (upd (upd H3 p5 (.tup [.str h, vx, vb1])) p6 (.tup [.str h, .ref p5, vb2])) := same_upd hp6 _
            have s56 := Same.trans s5 s6
            refine ⟨.ref p6, .app h [.app h [_, b1], b2], _, _, _, rfl, Sb.trans sb3 (.of s56), hs3.same s56, .app upd_same (.cons (.app (s6 _ _ upd_same) (.cons (hx3.same s56) (.cons (hb1.same s56) .nil))) (.cons (hb2.same s56) .nil)), .left S hg ou, ?_, ?_, s56 _ _ hpp3, ht3.same s56⟩
            · exact ok_two_of ou.1.1 (S.two h hg) (ok_two_of ou.1.1 (S.two h hg) ox ob1) ob2
            · simp only [inn_two]
              omega
          · rw [decide_eq_false (show ¬ V.str h = V.str g from fun z => eh (V.str.inj z))]
            exact iteF (keep _ _ _)
    · rw [decide_eq_false hg]
      exact iteT keepT
end
end J

namespace J
open PySem L2
section
variable {P : Program} {w : World} {K : PySem.W.Frag} {mg : Str → Option Value} {base : Heap}
/-! ### law -/
def spLaw (K : PySem.W.Frag) : Sp := fun vs H Q _ => ∃ (a : Addr) (ns : List Int), vs = [.ref a] ∧ SqL K H a (ns.map V.int) ∧ ∀ H', Q (.bl true) H'
theorem scLaw : FnScope ["_law_script", "_law_state_here", "_law_operations", "_law_both", "_law_names_here", "_law_first", "_law_second", "_law_k", "_law_expected"] ["_law_script"] (defScope (top 41)) := ⟨rfl, rfl, rfl, by decide +kernel, rfl, by decide +kernel, by decide +kernel⟩
/-- the part of two names that is drawn -/
theorem cut_two {n3 n4 : Str} {i j : Int} (h0 : 0 ≤ i) (h1 : i < 2) (h2 : 0 ≤ j) (h3 : j < 2) : ∃ ops : List Str, cutV [V.str n3, V.str n4] (some i) (some (2 - j)) = ops.map V.str ∧ ∀ f ∈ ops, f = n3 ∨ f = n4 := by
  have hi : i = 0 ∨ i = 1 := by omega
  have hj : j = 0 ∨ j = 1 := by omega
  rcases hi with rfl | rfl <;> rcases hj with rfl | rfl
  · exact ⟨[n3, n4], rfl, fun f hf => by simpa using hf⟩
  · exact ⟨[n3], rfl, fun f hf => .inl (by simpa using hf)⟩
  · exact ⟨[n4], rfl, fun f hf => .inr (by simpa using hf)⟩
  · exact ⟨[], rfl, fun f hf => absurd hf (by simp)⟩
theorem sb_ops {st l : Addr} {ops : List Str} {H H' : Hp} (h : OpsAt H l ops) (hst : StOk H st) (e : Sb st H H') : OpsAt H' l ops := e _ _ (hst.ne_lst h ops_lst) h
/-- a promise for each of many: one promise -/
theorem fn_any {ι : Type} {k : Nat} {f : Addr} {fd : FuncData} {ps : List Str} {sp : ι → Sp} (F : ∀ i, FnOk P w K mg base CX0 k f fd ps (sp i)) : FnOk P w K mg base CX0 k f fd ps (fun vs H Q E => ∃ i, sp i vs H Q E) :=
  ⟨fun vs H Q E ⟨i, h⟩ => (F i).len vs H Q E h, fun A outer s H args us vs Q E hr he hb hv ⟨i, h⟩ => (F i).run A outer s H args us vs Q E hr he hb hv h⟩
/-- names; a signature with operations -/
abbrev NmsI := { ns : List Str // Nms ns }
abbrev SigI := { x : (Str → Nat) × List Str // Sig x.1 x.2 }
theorem ok_law (T : Txt K mg) : Keeps P w base 88 T.g_law (spLaw K) := by
  have gTerm : Keeps P w base 8 T.gL_term (fun vs H Q E => ∃ i : NmsI, spTerm i.1 3 vs H Q E) := fn_any fun i => ok_term i.2 T 3
  have gSpoil : Keeps P w base 17 T.gL_spoilt (fun vs H Q E => ∃ i : NmsI, spSpoil i.1 vs H Q E) := fn_any fun i => ok_spoil i.2 T
  have gMoved : Keeps P w base 17 T.gL_moved (fun vs H Q E => ∃ i : SigI, spMoved i.1.1 i.1.2 vs H Q E) := fn_any fun i => ok_moved i.2 T
  have gAlike : Keeps P w base 87 T.g_are_combined_alike (fun vs H Q E => ∃ i : SigI, spAlike i.1.1 i.1.2 vs H Q E) := fn_any fun i => ok_alike i.2 T
  have gComb : Keeps P w base 85 T.gL_combined (fun vs H Q E => ∃ i : SigI, spComb i.1.2 (fun t => ok i.1.1 t ∧ inn t ≤ 14) vs H Q E) := fn_any fun i => ok_lcombT i.2 T
  refine T.g_law.F.ok scLaw (fun vs H Q E h => ?_) (fun cdv A outer s H vs Q E hr h => ?_)
  · obtain ⟨a, ns, rfl, _⟩ := h
    rfl
  obtain ⟨a, ns, rfl, hS, q⟩ := h
  refine ⟨_, pss_cons (ps_set (i := 1) scLaw.nd rfl (Or.inl rfl) (pe_cl T.gL_state (ok_state T) (hr.mono (by decide)) (pa_cons (pv 0) pa_nil)))
    (pss_cons (ps_set (i := 2) scLaw.nd rfl (Or.inl rfl) (pe_cl T.gL_two (ok_two T) (hr.mono (by decide)) (pa_cons (pv 1) pa_nil)))
    (pss_cons (ps_set (i := 3) scLaw.nd rfl (Or.inl rfl) (pe_lst (pa_cons (pe_ix ix_tup (pe_ix ix_list (pv 2) pe_int (fun _ _ => rfl)) pe_int (fun _ _ => rfl)) (pa_cons (pe_ix ix_tup (pe_ix ix_list (pv 2) pe_int (fun _ _ => rfl)) pe_int (fun _ _ => rfl)) pa_nil))))
    (pss_cons (ps_set (i := 4) scLaw.nd rfl (Or.inl rfl) (pe_slice sl_list (pv 3) (po_some (pe_cl T.gL_draw (ok_draw T) (hr.mono (by decide)) (pa_cons (pv 1) (pa_cons pe_int pa_nil)))) (po_some (pe_op op_sub pe_int (pe_cl T.gL_draw (ok_draw T) (hr.mono (by decide)) (pa_cons (pv 1) (pa_cons pe_int pa_nil)))))))
    (pss_cons (ps_set (i := 5) scLaw.nd rfl (Or.inl rfl) (pe_cl T.gL_term gTerm (hr.mono (by decide)) (pa_cons (pv 1) (pa_cons (pv 2) (pa_cons pe_int (pa_cons pe_int pa_nil))))))
    (pss_cons (ps_set (i := 6) scLaw.nd rfl (Or.inl rfl) (pv 5))
    (pss_cons (ps_for PassesOwn.never rfl (pi_range1 rfl T.z_range (pa_cons pe_int pa_nil)) (pg_name (i := 7) scLaw.nd rfl (Or.inl rfl))
      (pss_one (ps_set (i := 6) scLaw.nd rfl (Or.inl rfl) (pe_cl T.gL_moved gMoved (hr.mono (by decide)) (pa_cons (pv 1) (pa_cons (pv 4) (pa_cons (pv 6) pa_nil)))))))
    (pss_cons (ps_if (pt_cmpR op_notBl (pe_cl T.g_are_combined_alike gAlike hr (pa_cons (pe_callTy call_list_of rfl T.z_list PyProof.Rows.boot_list (pa_cons (pv 4) pa_nil)) (pa_cons (pv 5) (pa_cons (pv 6) pa_nil)))) pe_bl (nomark _)) (pss_one (ps_ret pe_bl)) pss_nil)
    (pss_cons (ps_if (pt_cmpR op_notBl (pe_cl T.g_are_combined_alike gAlike hr (pa_cons (pe_callTy call_list_of rfl T.z_list PyProof.Rows.boot_list (pa_cons (pv 4) pa_nil)) (pa_cons (pv 6) (pa_cons (pv 5) pa_nil)))) pe_bl (nomark _)) (pss_one (ps_ret pe_bl)) pss_nil)
    (C8.pss_cut (ps_if (pt_cmpR op_eq (pe_cl T.gL_draw (ok_draw T) (hr.mono (by decide)) (pa_cons (pv 1) (pa_cons pe_int pa_nil))) pe_int (nomark _))
      (pss_one (ps_set (i := 6) scLaw.nd rfl (Or.inl rfl) (pe_cl T.gL_spoilt gSpoil (hr.mono (by decide)) (pa_cons (pv 1) (pa_cons (pv 2) (pa_cons pe_int (pa_cons (pv 6) pa_nil))))))) pss_nil)
    (pss_cons (ps_set (i := 8) scLaw.nd rfl (Or.inl rfl) (pe_cl T.gL_same (ok_same T 30) (hr.mono (by decide)) (pa_cons (pe_cl T.gL_combined gComb (hr.mono (by decide)) (pa_cons (pv 4) (pa_cons (pv 5) pa_nil))) (pa_cons (pe_cl T.gL_combined gComb (hr.mono (by decide)) (pa_cons (pv 4) (pa_cons (pv 6) pa_nil))) pa_nil))))
    (pss_one (ps_ret (pe_cl T.gL_tells (ok_tells T) (hr.mono (by decide)) (pa_cons (pe_cl T.g_are_combined_alike gAlike hr (pa_cons (pe_callTy call_list_of rfl T.z_list PyProof.Rows.boot_list (pa_cons (pv 4) pa_nil)) (pa_cons (pv 5) (pa_cons (pv 6) pa_nil)))) (pa_cons (pv 8) pa_nil))))))))))))))), ?_⟩
  refine ⟨_, rfl, a, ns, rfl, hS, fun H1 st h1 _ hs1 => ?_⟩
  refine ⟨_, rfl, st, rfl, hs1, fun H2 o nms h2 hs2 hop N => ?_⟩
  obtain ⟨rs, r3, n3, a3, g1, _, g3, g4, g5, g6, g7, g8⟩ := hop.at N (i := 3) (by decide) (by decide)
  obtain ⟨rs', r4, n4, a4, k1, _, k3, k4, k5, k6, k7, k8⟩ := hop.at N (i := 4) (by decide) (by decide)
  refine ⟨_, rfl, o, _, 3, _, rfl, rfl, SqL.of g1, g3, r3, _, 0, .str n3, rfl, rfl, SqT.of g4, atI_nat (j := 0) rfl, _, rfl, o, _, 4, _, rfl, rfl, SqL.of k1, k3, r4, _, 0, .str n4, rfl, rfl, SqT.of k4, atI_nat (j := 0) rfl, (by show 2 ≤ sizeLine; decide), fun b hb => ?_⟩
  have s3 : Same H2 (upd H2 b (.lst [.str n3, .str n4])) := same_upd hb _
  have hs3 := hs2.same s3
  have hop3 := hop.same s3
  obtain ⟨l3, ha3⟩ := id hs3
  have hb3 : upd H2 b (.lst [.str n3, .str n4]) b = some (.lst ([n3, n4].map V.str)) := upd_same
  refine ⟨_, rfl, _, rfl, st, l3, 2, rfl, ha3, by decide, by decide, fun H4 d1 h4 ha4 c0 c1 => ⟨d1, rfl, ?_⟩⟩
  refine ⟨_, rfl, st, l3, 2, rfl, ha4, by decide, by decide, fun H5 d2 h5 ha5 e0 e1 => ⟨2, d2, rfl, rfl, 2 - d2, rfl, ?_⟩⟩
  have hs5 : StOk H5 st := ⟨l3, ha5⟩
  have hs4 : StOk H4 st := ⟨l3, ha4⟩
  obtain ⟨ops, eo, hops⟩ := cut_two (n3 := n3) (n4 := n4) c0 c1 e0 e1
  refine ⟨b, _, rfl, SqL.of (sb_ops (sb_ops hb3 hs3 h4) hs4 h5), fun l hl => ?_⟩
  have eo' : cutV ([n3, n4].map V.str) (some d1) (some (2 - d2)) = ops.map V.str := eo
  rw [eo']
  have s6 : Same H5 (upd H5 l (.lst (ops.map V.str))) := same_upd hl _
  have hl6 : OpsAt (upd H5 l (.lst (ops.map V.str))) l ops := upd_same
  have hs6 := hs5.same s6
  have hop6 := ((hop3.sb hs3 h4).sb hs4 h5).same s6
  have S : Sig (arF nms) ops := ⟨arF_le nms, fun f hf => by
    rcases hops f hf with z | z
    · rw [z, g7]; exact (Option.some.inj g6).symm
    · rw [z, k7]; exact (Option.some.inj k6).symm⟩
  refine ⟨_, rfl, _, rfl, ⟨nms, N⟩, st, o, rfl, hs6, hop6, fun H7 v t h7 hs7 ht ok1 in1 => ?_⟩
  have in1 : inn t ≤ 13 := in1
  have hl7 := sb_ops hl6 hs6 h7
  have hop7 := hop6.sb hs6 h7
  refine ⟨_, rfl, 8, rfl, by decide, by decide, ?_⟩
  refine for_range (lo := 0) (n := 8) (fun i σ H8 => StOk H8 st ∧ OpsAt H8 l ops ∧ OpnsAt H8 o nms ∧ TmAt H8 t v ∧ ∃ (v2 : V) (t2 : Tm) (z : Option V), TmAt H8 t2 v2 ∧ Eqv ops t t2 ∧ ok (arF nms) t2 ∧ inn t2 = inn t ∧
      σ = [some (.ref a), some (.ref st), some (.ref o), some (.ref b), some (.ref l), some v, some v2, z, none])
    ⟨hs7, hl7, hop7, ht, v, t, none, ht, .rfl' t, ok1, rfl, rfl⟩ (fun i σ H8 _ h8 => ?_) (fun σ H8 h8 => ?_)
  · obtain ⟨hs8, hl8, hop8, ht8, v2, t2, z, ht2, ev, ok2, in2, rfl⟩ := h8
    refine ⟨_, rfl, _, rfl, _, rfl, ⟨(arF nms, ops), S⟩, st, l, v2, t2, rfl, hs8, hl8, ht2, ok2, by omega, fun H9 r t3 h9 hs9 ht3 ev3 ok3 in3 => ?_⟩
    exact ⟨hs9, sb_ops hl8 hs8 h9, hop8.sb hs8 h9, ht8.mono (hs8.tups h9), r, t3, _, ht3, ev.trans ev3, ok3, in3.trans in2, rfl⟩
  · obtain ⟨hs8, hl8, hop8, ht8, v2, t2, z, ht2, ev, ok2, in2, rfl⟩ := h8
    refine ⟨_, rfl, l, _, rfl, .inl (SqL.of hl8), fun l9 hl9 => ?_⟩
    have s9 : Same H8 (upd H8 l9 (.lst (ops.map V.str))) := same_upd hl9 _
    refine ⟨_, rfl, _, rfl, ⟨(arF nms, ops), S⟩, l9, v, v2, t, t2, rfl, upd_same, ht8.same s9, ht2.same s9, ⟨ok1, by omega⟩, ⟨ok2, by omega⟩, fun H10 b1 h10 hb1 => ?_⟩
    have eb1 : b1 = true := hb1.mpr ev.1
    subst eb1
    refine ⟨_, _, rfl, rfl, _, rfl, iteF ?_⟩
    have s10 := Same.trans s9 h10
    have hl10 := s10 _ _ hl8
    refine ⟨_, rfl, l, _, rfl, .inl (SqL.of hl10), fun l11 hl11 => ?_⟩
    have s11 : Same H10 (upd H10 l11 (.lst (ops.map V.str))) := same_upd hl11 _
    have s811 := Same.trans s10 s11
    refine ⟨_, rfl, _, rfl, ⟨(arF nms, ops), S⟩, l11, v2, v, t2, t, rfl, upd_same, ht2.same s811, ht8.same s811, ⟨ok2, by omega⟩, ⟨ok1, by omega⟩, fun H12 b2 h12 hb2 => ?_⟩
    have eb2 : b2 = true := hb2.mpr ev.1.symm
    subst eb2
    refine ⟨_, _, rfl, rfl, _, rfl, iteF ?_⟩
    have s12 := Same.trans s811 h12
    have hs12 := hs8.same s12
    have hl12 : OpsAt H12 l ops := s12 _ _ hl8
    obtain ⟨l12, ha12⟩ := id hs12
    refine ⟨fun σ' H' => ∃ (v3 : V) (t3 : Tm) (z : Option V), σ' = [some (.ref a), some (.ref st), some (.ref o), some (.ref b), some (.ref l), some v, some v3, z, none] ∧ OpsAt H' l ops ∧ TmAt H' t v ∧ TmAt H' t3 v3 ∧ ok (arF nms) t3 ∧ inn t3 ≤ 14, ?_, ?_⟩
    · refine ⟨_, rfl, st, l12, 3, rfl, ha12, by decide, by decide, fun H13 d3 h13 ha13 _ _ => ⟨rfl, _, rfl, ?_⟩⟩
      have hl13 := sb_ops hl12 hs12 h13
      have t13 := hs12.tups h13
      have hs13 : StOk H13 st := ⟨l12, ha13⟩
      refine ite2 (fun _ => ?_) (fun _ => ?_)
      · refine ⟨_, rfl, _, rfl, v2, rfl, ⟨nms, N⟩, st, o, v2, t2, rfl, hs13, (hop8.same s12).sb hs12 h13, (ht2.same s12).mono t13, ok2, by omega, fun H14 r t3 h14 hs14 ht3 ok3 in3 => ?_⟩
        exact ⟨r, t3, z, rfl, sb_ops hl13 hs13 h14, ((ht8.same s12).mono t13).mono (hs13.tups h14), ht3, ok3, in3⟩
      · exact ⟨v2, t2, z, rfl, hl13, (ht8.same s12).mono t13, (ht2.same s12).mono t13, ok2, by omega⟩
    · rintro σ' H13 ⟨v3, t3, z', rfl, hl13, ht13, ht3, ok3, in3⟩
      refine ⟨_, rfl, _, rfl, ⟨(arF nms, ops), S⟩, l, v, t, rfl, hl13, ht13, ⟨ok1, by omega⟩, fun H14 w1 h14 hw1 => ?_⟩
      refine ⟨_, rfl, _, rfl, ⟨(arF nms, ops), S⟩, l, v3, t3, rfl, h14 _ _ hl13, ht3.same h14, ⟨ok3, in3⟩, fun H15 w2 h15 hw2 => ?_⟩
      have cf1 := (comb_facts S t ok1).1
      have m1 := small_tm S cf1.1 (by rw [cf1.2]; omega)
      refine ⟨w1, w2, comb ops t, comb ops t3, rfl, hw1.same h15, hw2, m1.1, m1.2.1, fun b3 hb3 => ?_⟩
      have s15 := Same.trans h14 h15
      refine ⟨_, rfl, l, _, rfl, .inl (SqL.of (s15 _ _ hl13)), fun l16 hl16 => ?_⟩
      have s16 : Same H15 (upd H15 l16 (.lst (ops.map V.str))) := same_upd hl16 _
      have s1316 := Same.trans s15 s16
      refine ⟨_, rfl, _, rfl, ⟨(arF nms, ops), S⟩, l16, v, v3, t, t3, rfl, upd_same, ht13.same s1316, ht3.same s1316, ⟨ok1, by omega⟩, ⟨ok3, in3⟩, fun H17 b4 h17 hb4 => ?_⟩
      refine ⟨_, rfl, b4, b3, rfl, ?_, q _⟩
      rw [Bool.eq_iff_iff]
      exact hb4.trans hb3.symm
end
end J

namespace J
open PySem L2
theorem all_mk {l : PySem.W.OpenLaw} {w : World} {K : PySem.W.Frag} {h : Heap} {mg : Str → Option Value} {fa : Addr} (X : K.In h) (G : h.Ns mainGlobals mg) (hfa : mg "law" = some (.ref fa))
    {f0 f1 f2 f3 f4 f5 f6 f7 f8 f9 f10 f11 f12 f13 f14 f15 f16 f17 f18 f19 f20 f21 f22 f23 f24 f25 f26 f27 f28 f29 f30 f31 f32 : Addr} {od0 an0 od1 an1 od2 an2 od3 an3 od4 an4 od5 an5 od6 an6 od7 an7 od8 an8 od9 an9 od10 an10 od11 an11 od12 an12 od13 an13 od14 an14 od15 an15 od16 an16 od17 an17 od18 an18 od19 an19 od20 an20 od21 an21 od22 an22 od23 an23 od24 an24 od25 an25 od26 an26 od27 an27 od28 an28 od29 an29 od30 an30 od31 an31 od32 an32 : Option Addr} {sl0 sl1 sl2 sl3 sl4 sl5 sl6 sl7 sl8 sl9 sl10 sl11 sl12 sl13 sl14 sl15 sl16 sl17 sl18 sl19 sl20 sl21 sl22 sl23 sl24 sl25 sl26 sl27 sl28 sl29 sl30 sl31 sl32 : Array (Option Value)}
    {oc0 kv0 dc0 pm0 cd0 ct0 oc1 kv1 dc1 pm1 cd1 ct1 oc2 kv2 dc2 pm2 cd2 ct2 oc3 kv3 dc3 pm3 cd3 ct3 oc4 kv4 dc4 pm4 cd4 ct4 oc5 kv5 dc5 pm5 cd5 ct5 oc6 kv6 dc6 pm6 cd6 ct6 oc7 kv7 dc7 pm7 cd7 ct7 oc8 kv8 dc8 pm8 cd8 ct8 oc9 kv9 dc9 pm9 cd9 ct9 oc10 kv10 dc10 pm10 cd10 ct10 oc11 kv11 dc11 pm11 cd11 ct11 oc12 kv12 dc12 pm12 cd12 ct12 oc13 kv13 dc13 pm13 cd13 ct13 oc14 kv14 dc14 pm14 cd14 ct14 oc15 kv15 dc15 pm15 cd15 ct15 oc16 kv16 dc16 pm16 cd16 ct16 oc17 kv17 dc17 pm17 cd17 ct17 oc18 kv18 dc18 pm18 cd18 ct18 oc19 kv19 dc19 pm19 cd19 ct19 oc20 kv20 dc20 pm20 cd20 ct20 oc21 kv21 dc21 pm21 cd21 ct21 oc22 kv22 dc22 pm22 cd22 ct22 oc23 kv23 dc23 pm23 cd23 ct23 oc24 kv24 dc24 pm24 cd24 ct24 oc25 kv25 dc25 pm25 cd25 ct25 oc26 kv26 dc26 pm26 cd26 ct26 oc27 kv27 dc27 pm27 cd27 ct27 oc28 kv28 dc28 pm28 cd28 ct28 oc29 kv29 dc29 pm29 cd29 ct29 oc30 kv30 dc30 pm30 cd30 ct30 oc31 kv31 dc31 pm31 cd31 ct31 oc32 kv32 dc32 pm32 cd32 ct32 : Value} {tk0 tk1 tk2 : Tok}
    (a0 : PySem.W.nsIn K mainGlobals "is_variable" = some (some (.ref f0))) (l0 : K.lookup f0 = some ⟨oc0, od0, .func (PySem.W.fnOf "is_variable" "is_variable" (defArgs (top 6)) (defBody (top 6)) (defScope (top 6)) .none kv0 dc0 pm0 an0 cd0 ct0), sl0⟩) (c0 : PySem.W.codeIn K cd0 "is_variable" = true) (k0 : PySem.W.keepIn K (.ref f0) = true)
    (a1 : PySem.W.nsIn K mainGlobals "size" = some (some (.ref f1))) (l1 : K.lookup f1 = some ⟨oc1, od1, .func (PySem.W.fnOf "size" "size" (defArgs (top 7)) (defBody (top 7)) (defScope (top 7)) .none kv1 dc1 pm1 an1 cd1 ct1), sl1⟩) (c1 : PySem.W.codeIn K cd1 "size" = true) (k1 : PySem.W.keepIn K (.ref f1) = true)
    (a2 : PySem.W.nsIn K mainGlobals "depth" = some (some (.ref f2))) (l2 : K.lookup f2 = some ⟨oc2, od2, .func (PySem.W.fnOf "depth" "depth" (defArgs (top 8)) (defBody (top 8)) (defScope (top 8)) .none kv2 dc2 pm2 an2 cd2 ct2), sl2⟩) (c2 : PySem.W.codeIn K cd2 "depth" = true) (k2 : PySem.W.keepIn K (.ref f2) = true)
    (a3 : PySem.W.nsIn K mainGlobals "check_size" = some (some (.ref f3))) (l3 : K.lookup f3 = some ⟨oc3, od3, .func (PySem.W.fnOf "check_size" "check_size" (defArgs (top 9)) (defBody (top 9)) (defScope (top 9)) .none kv3 dc3 pm3 an3 cd3 ct3), sl3⟩) (c3 : PySem.W.codeIn K cd3 "check_size" = true) (k3 : PySem.W.keepIn K (.ref f3) = true)
    (a4 : PySem.W.nsIn K mainGlobals "symbols" = some (some (.ref f4))) (l4 : K.lookup f4 = some ⟨oc4, od4, .func (PySem.W.fnOf "symbols" "symbols" (defArgs (top 10)) (defBody (top 10)) (defScope (top 10)) .none kv4 dc4 pm4 an4 cd4 ct4), sl4⟩) (c4 : PySem.W.codeIn K cd4 "symbols" = true) (k4 : PySem.W.keepIn K (.ref f4) = true)
    (a5 : PySem.W.nsIn K mainGlobals "compare_symbols" = some (some (.ref f5))) (l5 : K.lookup f5 = some ⟨oc5, od5, .func (PySem.W.fnOf "compare_symbols" "compare_symbols" (defArgs (top 11)) (defBody (top 11)) (defScope (top 11)) .none kv5 dc5 pm5 an5 cd5 ct5), sl5⟩) (c5 : PySem.W.codeIn K cd5 "compare_symbols" = true) (k5 : PySem.W.keepIn K (.ref f5) = true)
    (a6 : PySem.W.nsIn K mainGlobals "compare_terms" = some (some (.ref f6))) (l6 : K.lookup f6 = some ⟨oc6, od6, .func (PySem.W.fnOf "compare_terms" "compare_terms" (defArgs (top 12)) (defBody (top 12)) (defScope (top 12)) .none kv6 dc6 pm6 an6 cd6 ct6), sl6⟩) (c6 : PySem.W.codeIn K cd6 "compare_terms" = true) (k6 : PySem.W.keepIn K (.ref f6) = true)
    (a7 : PySem.W.nsIn K mainGlobals "insert_term" = some (some (.ref f7))) (l7 : K.lookup f7 = some ⟨oc7, od7, .func (PySem.W.fnOf "insert_term" "insert_term" (defArgs (top 15)) (defBody (top 15)) (defScope (top 15)) .none kv7 dc7 pm7 an7 cd7 ct7), sl7⟩) (c7 : PySem.W.codeIn K cd7 "insert_term" = true) (k7 : PySem.W.keepIn K (.ref f7) = true)
    (a8 : PySem.W.nsIn K mainGlobals "flat_arguments" = some (some (.ref f8))) (l8 : K.lookup f8 = some ⟨oc8, od8, .func (PySem.W.fnOf "flat_arguments" "flat_arguments" (defArgs (top 16)) (defBody (top 16)) (defScope (top 16)) .none kv8 dc8 pm8 an8 cd8 ct8), sl8⟩) (c8 : PySem.W.codeIn K cd8 "flat_arguments" = true) (k8 : PySem.W.keepIn K (.ref f8) = true)
    (a9 : PySem.W.nsIn K mainGlobals "combined" = some (some (.ref f9))) (l9 : K.lookup f9 = some ⟨oc9, od9, .func (PySem.W.fnOf "combined" "combined" (defArgs (top 17)) (defBody (top 17)) (defScope (top 17)) .none kv9 dc9 pm9 an9 cd9 ct9), sl9⟩) (c9 : PySem.W.codeIn K cd9 "combined" = true) (k9 : PySem.W.keepIn K (.ref f9) = true)
    (a10 : PySem.W.nsIn K mainGlobals "combined_form" = some (some (.ref f10))) (l10 : K.lookup f10 = some ⟨oc10, od10, .func (PySem.W.fnOf "combined_form" "combined_form" (defArgs (top 18)) (defBody (top 18)) (defScope (top 18)) .none kv10 dc10 pm10 an10 cd10 ct10), sl10⟩) (c10 : PySem.W.codeIn K cd10 "combined_form" = true) (k10 : PySem.W.keepIn K (.ref f10) = true)
    (a11 : PySem.W.nsIn K mainGlobals "are_combined_alike" = some (some (.ref f11))) (l11 : K.lookup f11 = some ⟨oc11, od11, .func (PySem.W.fnOf "are_combined_alike" "are_combined_alike" (defArgs (top 19)) (defBody (top 19)) (defScope (top 19)) .none kv11 dc11 pm11 an11 cd11 ct11), sl11⟩) (c11 : PySem.W.codeIn K cd11 "are_combined_alike" = true) (k11 : PySem.W.keepIn K (.ref f11) = true)
    (a12 : PySem.W.nsIn K mainGlobals "_law_tells" = some (some (.ref f12))) (l12 : K.lookup f12 = some ⟨oc12, od12, .func (PySem.W.fnOf "_law_tells" "_law_tells" (defArgs (top 21)) (defBody (top 21)) (defScope (top 21)) .none kv12 dc12 pm12 an12 cd12 ct12), sl12⟩) (c12 : PySem.W.codeIn K cd12 "_law_tells" = true) (k12 : PySem.W.keepIn K (.ref f12) = true)
    (a13 : PySem.W.nsIn K mainGlobals "_law_mix" = some (some (.ref f13))) (l13 : K.lookup f13 = some ⟨oc13, od13, .func (PySem.W.fnOf "_law_mix" "_law_mix" (defArgs (top 22)) (defBody (top 22)) (defScope (top 22)) .none kv13 dc13 pm13 an13 cd13 ct13), sl13⟩) (c13 : PySem.W.codeIn K cd13 "_law_mix" = true) (k13 : PySem.W.keepIn K (.ref f13) = true)
    (a14 : PySem.W.nsIn K mainGlobals "_law_number" = some (some (.ref f14))) (l14 : K.lookup f14 = some ⟨oc14, od14, .func (PySem.W.fnOf "_law_number" "_law_number" (defArgs (top 23)) (defBody (top 23)) (defScope (top 23)) .none kv14 dc14 pm14 an14 cd14 ct14), sl14⟩) (c14 : PySem.W.codeIn K cd14 "_law_number" = true) (k14 : PySem.W.keepIn K (.ref f14) = true)
    (a15 : PySem.W.nsIn K mainGlobals "_law_state" = some (some (.ref f15))) (l15 : K.lookup f15 = some ⟨oc15, od15, .func (PySem.W.fnOf "_law_state" "_law_state" (defArgs (top 24)) (defBody (top 24)) (defScope (top 24)) .none kv15 dc15 pm15 an15 cd15 ct15), sl15⟩) (c15 : PySem.W.codeIn K cd15 "_law_state" = true) (k15 : PySem.W.keepIn K (.ref f15) = true)
    (a16 : PySem.W.nsIn K mainGlobals "_law_draw" = some (some (.ref f16))) (l16 : K.lookup f16 = some ⟨oc16, od16, .func (PySem.W.fnOf "_law_draw" "_law_draw" (defArgs (top 25)) (defBody (top 25)) (defScope (top 25)) .none kv16 dc16 pm16 an16 cd16 ct16), sl16⟩) (c16 : PySem.W.codeIn K cd16 "_law_draw" = true) (k16 : PySem.W.keepIn K (.ref f16) = true)
    (a17 : PySem.W.nsIn K mainGlobals "_law_word" = some (some (.ref f17))) (l17 : K.lookup f17 = some ⟨oc17, od17, .func (PySem.W.fnOf "_law_word" "_law_word" (defArgs (top 26)) (defBody (top 26)) (defScope (top 26)) .none kv17 dc17 pm17 an17 cd17 ct17), sl17⟩) (c17 : PySem.W.codeIn K cd17 "_law_word" = true) (k17 : PySem.W.keepIn K (.ref f17) = true)
    (a18 : PySem.W.nsIn K mainGlobals "_law_names" = some (some (.ref f18))) (l18 : K.lookup f18 = some ⟨oc18, od18, .func (PySem.W.fnOf "_law_names" "_law_names" (defArgs (top 27)) (defBody (top 27)) (defScope (top 27)) .none kv18 dc18 pm18 an18 cd18 ct18), sl18⟩) (c18 : PySem.W.codeIn K cd18 "_law_names" = true) (k18 : PySem.W.keepIn K (.ref f18) = true)
    (a19 : PySem.W.nsIn K mainGlobals "_law_leaf" = some (some (.ref f19))) (l19 : K.lookup f19 = some ⟨oc19, od19, .func (PySem.W.fnOf "_law_leaf" "_law_leaf" (defArgs (top 28)) (defBody (top 28)) (defScope (top 28)) .none kv19 dc19 pm19 an19 cd19 ct19), sl19⟩) (c19 : PySem.W.codeIn K cd19 "_law_leaf" = true) (k19 : PySem.W.keepIn K (.ref f19) = true)
    (a20 : PySem.W.nsIn K mainGlobals "_law_term" = some (some (.ref f20))) (l20 : K.lookup f20 = some ⟨oc20, od20, .func (PySem.W.fnOf "_law_term" "_law_term" (defArgs (top 29)) (defBody (top 29)) (defScope (top 29)) .none kv20 dc20 pm20 an20 cd20 ct20), sl20⟩) (c20 : PySem.W.codeIn K cd20 "_law_term" = true) (k20 : PySem.W.keepIn K (.ref f20) = true)
    (a21 : PySem.W.nsIn K mainGlobals "_law_subterm" = some (some (.ref f21))) (l21 : K.lookup f21 = some ⟨oc21, od21, .func (PySem.W.fnOf "_law_subterm" "_law_subterm" (defArgs (top 30)) (defBody (top 30)) (defScope (top 30)) .none kv21 dc21 pm21 an21 cd21 ct21), sl21⟩) (c21 : PySem.W.codeIn K cd21 "_law_subterm" = true) (k21 : PySem.W.keepIn K (.ref f21) = true)
    (a22 : PySem.W.nsIn K mainGlobals "_law_replace" = some (some (.ref f22))) (l22 : K.lookup f22 = some ⟨oc22, od22, .func (PySem.W.fnOf "_law_replace" "_law_replace" (defArgs (top 31)) (defBody (top 31)) (defScope (top 31)) .none kv22 dc22 pm22 an22 cd22 ct22), sl22⟩) (c22 : PySem.W.codeIn K cd22 "_law_replace" = true) (k22 : PySem.W.keepIn K (.ref f22) = true)
    (a23 : PySem.W.nsIn K mainGlobals "_law_positions" = some (some (.ref f23))) (l23 : K.lookup f23 = some ⟨oc23, od23, .func (PySem.W.fnOf "_law_positions" "_law_positions" (defArgs (top 32)) (defBody (top 32)) (defScope (top 32)) .none kv23 dc23 pm23 an23 cd23 ct23), sl23⟩) (c23 : PySem.W.codeIn K cd23 "_law_positions" = true) (k23 : PySem.W.keepIn K (.ref f23) = true)
    (a24 : PySem.W.nsIn K mainGlobals "_law_same" = some (some (.ref f24))) (l24 : K.lookup f24 = some ⟨oc24, od24, .func (PySem.W.fnOf "_law_same" "_law_same" (defArgs (top 33)) (defBody (top 33)) (defScope (top 33)) .none kv24 dc24 pm24 an24 cd24 ct24), sl24⟩) (c24 : PySem.W.codeIn K cd24 "_law_same" = true) (k24 : PySem.W.keepIn K (.ref f24) = true)
    (a25 : PySem.W.nsIn K mainGlobals "_law_symbols" = some (some (.ref f25))) (l25 : K.lookup f25 = some ⟨oc25, od25, .func (PySem.W.fnOf "_law_symbols" "_law_symbols" (defArgs (top 34)) (defBody (top 34)) (defScope (top 34)) .none kv25 dc25 pm25 an25 cd25 ct25), sl25⟩) (c25 : PySem.W.codeIn K cd25 "_law_symbols" = true) (k25 : PySem.W.keepIn K (.ref f25) = true)
    (a26 : PySem.W.nsIn K mainGlobals "_law_compare" = some (some (.ref f26))) (l26 : K.lookup f26 = some ⟨oc26, od26, .func (PySem.W.fnOf "_law_compare" "_law_compare" (defArgs (top 35)) (defBody (top 35)) (defScope (top 35)) .none kv26 dc26 pm26 an26 cd26 ct26), sl26⟩) (c26 : PySem.W.codeIn K cd26 "_law_compare" = true) (k26 : PySem.W.keepIn K (.ref f26) = true)
    (a27 : PySem.W.nsIn K mainGlobals "_law_spoilt" = some (some (.ref f27))) (l27 : K.lookup f27 = some ⟨oc27, od27, .func (PySem.W.fnOf "_law_spoilt" "_law_spoilt" (defArgs (top 36)) (defBody (top 36)) (defScope (top 36)) .none kv27 dc27 pm27 an27 cd27 ct27), sl27⟩) (c27 : PySem.W.codeIn K cd27 "_law_spoilt" = true) (k27 : PySem.W.keepIn K (.ref f27) = true)
    (a28 : PySem.W.nsIn K mainGlobals "_law_two" = some (some (.ref f28))) (l28 : K.lookup f28 = some ⟨oc28, od28, .func (PySem.W.fnOf "_law_two" "_law_two" (defArgs (top 37)) (defBody (top 37)) (defScope (top 37)) .none kv28 dc28 pm28 an28 cd28 ct28), sl28⟩) (c28 : PySem.W.codeIn K cd28 "_law_two" = true) (k28 : PySem.W.keepIn K (.ref f28) = true)
    (a29 : PySem.W.nsIn K mainGlobals "_law_flat" = some (some (.ref f29))) (l29 : K.lookup f29 = some ⟨oc29, od29, .func (PySem.W.fnOf "_law_flat" "_law_flat" (defArgs (top 38)) (defBody (top 38)) (defScope (top 38)) .none kv29 dc29 pm29 an29 cd29 ct29), sl29⟩) (c29 : PySem.W.codeIn K cd29 "_law_flat" = true) (k29 : PySem.W.keepIn K (.ref f29) = true)
    (a30 : PySem.W.nsIn K mainGlobals "_law_combined" = some (some (.ref f30))) (l30 : K.lookup f30 = some ⟨oc30, od30, .func (PySem.W.fnOf "_law_combined" "_law_combined" (defArgs (top 39)) (defBody (top 39)) (defScope (top 39)) .none kv30 dc30 pm30 an30 cd30 ct30), sl30⟩) (c30 : PySem.W.codeIn K cd30 "_law_combined" = true) (k30 : PySem.W.keepIn K (.ref f30) = true)
    (a31 : PySem.W.nsIn K mainGlobals "_law_moved" = some (some (.ref f31))) (l31 : K.lookup f31 = some ⟨oc31, od31, .func (PySem.W.fnOf "_law_moved" "_law_moved" (defArgs (top 40)) (defBody (top 40)) (defScope (top 40)) .none kv31 dc31 pm31 an31 cd31 ct31), sl31⟩) (c31 : PySem.W.codeIn K cd31 "_law_moved" = true) (k31 : PySem.W.keepIn K (.ref f31) = true)
    (a32 : PySem.W.nsIn K mainGlobals "law" = some (some (.ref f32))) (l32 : K.lookup f32 = some ⟨oc32, od32, .func (PySem.W.fnOf "law" "law" (defArgs (top 41)) (defBody (top 41)) (defScope (top 41)) .none kv32 dc32 pm32 an32 cd32 ct32), sl32⟩) (c32 : PySem.W.codeIn K cd32 "law" = true) (k32 : PySem.W.keepIn K (.ref f32) = true)
    (z0 : PySem.W.nsIn K mainGlobals "isinstance" = some none)
    (z1 : PySem.W.nsIn K mainGlobals "int" = some none)
    (z2 : PySem.W.nsIn K mainGlobals "max" = some none)
    (z3 : PySem.W.nsIn K mainGlobals "zip" = some none)
    (z4 : PySem.W.nsIn K mainGlobals "len" = some none)
    (z5 : PySem.W.nsIn K mainGlobals "range" = some none)
    (z6 : PySem.W.nsIn K mainGlobals "tuple" = some none)
    (z7 : PySem.W.nsIn K mainGlobals "list" = some none)
    (z8 : PySem.W.nsIn K mainGlobals "bool" = some none)
    (z9 : PySem.W.nsIn K mainGlobals "str" = some none)
    (v0 : PySem.W.nsIn K mainGlobals "MAX_SIZE" = some (some (.int 400 tk0)))
    (v1 : PySem.W.nsIn K mainGlobals "MAX_DEPTH" = some (some (.int 30 tk1)))
    (v2 : PySem.W.nsIn K mainGlobals "MOST_DEPTH" = some (some (.int 30 tk2)))
    : ∃ fd : FuncData, (∀ (s : Shared) (v : Value), BindsTo s fd ⟨[v], []⟩ [("_law_script", v)]) ∧ ∀ base : Heap, K.In base → base.Ns mainGlobals mg → FnOk l.prog w K mg base CX0 88 fa fd ["_law_script"] (spLaw K) := by
  have e := hfa.symm.trans (PySem.W.mg_of X G a32)
  cases e
  obtain ⟨T, e1, e2⟩ : ∃ T : Txt K mg, T.g_law.a = fa ∧ T.g_law.d = PySem.W.fnOf "law" "law" (defArgs (top 41)) (defBody (top 41)) (defScope (top 41)) .none kv32 dc32 pm32 an32 cd32 ct32 := ⟨{
    g_is_variable := ⟨f0, _, fun_mk (st := top 6) l0 c0 k0, (fun_mk (st := top 6) l0 c0 k0).binds (ps := ["term"]) (fun _ _ _ _ _ _ us hl => match us, hl with | [_], _ => rfl), PySem.W.mg_of X G a0⟩
    g_size := ⟨f1, _, fun_mk (st := top 7) l1 c1 k1, (fun_mk (st := top 7) l1 c1 k1).binds (ps := ["term"]) (fun _ _ _ _ _ _ us hl => match us, hl with | [_], _ => rfl), PySem.W.mg_of X G a1⟩
    g_depth := ⟨f2, _, fun_mk (st := top 8) l2 c2 k2, (fun_mk (st := top 8) l2 c2 k2).binds (ps := ["term"]) (fun _ _ _ _ _ _ us hl => match us, hl with | [_], _ => rfl), PySem.W.mg_of X G a2⟩
    g_check_size := ⟨f3, _, fun_mk (st := top 9) l3 c3 k3, (fun_mk (st := top 9) l3 c3 k3).binds (ps := ["term"]) (fun _ _ _ _ _ _ us hl => match us, hl with | [_], _ => rfl), PySem.W.mg_of X G a3⟩
    g_symbols := ⟨f4, _, fun_mk (st := top 10) l4 c4 k4, (fun_mk (st := top 10) l4 c4 k4).binds (ps := ["term"]) (fun _ _ _ _ _ _ us hl => match us, hl with | [_], _ => rfl), PySem.W.mg_of X G a4⟩
    g_compare_symbols := ⟨f5, _, fun_mk (st := top 11) l5 c5 k5, (fun_mk (st := top 11) l5 c5 k5).binds (ps := ["first", "second"]) (fun _ _ _ _ _ _ us hl => match us, hl with | [_, _], _ => rfl), PySem.W.mg_of X G a5⟩
    g_compare_terms := ⟨f6, _, fun_mk (st := top 12) l6 c6 k6, (fun_mk (st := top 12) l6 c6 k6).binds (ps := ["first", "second"]) (fun _ _ _ _ _ _ us hl => match us, hl with | [_, _], _ => rfl), PySem.W.mg_of X G a6⟩
    g_insert_term := ⟨f7, _, fun_mk (st := top 15) l7 c7 k7, (fun_mk (st := top 15) l7 c7 k7).binds (ps := ["terms", "term"]) (fun _ _ _ _ _ _ us hl => match us, hl with | [_, _], _ => rfl), PySem.W.mg_of X G a7⟩
    g_flat_arguments := ⟨f8, _, fun_mk (st := top 16) l8 c8 k8, (fun_mk (st := top 16) l8 c8 k8).binds (ps := ["operations", "name", "term"]) (fun _ _ _ _ _ _ us hl => match us, hl with | [_, _, _], _ => rfl), PySem.W.mg_of X G a8⟩
    g_combined := ⟨f9, _, fun_mk (st := top 17) l9 c9 k9, (fun_mk (st := top 17) l9 c9 k9).binds (ps := ["operations", "term"]) (fun _ _ _ _ _ _ us hl => match us, hl with | [_, _], _ => rfl), PySem.W.mg_of X G a9⟩
    g_combined_form := ⟨f10, _, fun_mk (st := top 18) l10 c10 k10, (fun_mk (st := top 18) l10 c10 k10).binds (ps := ["operations", "term"]) (fun _ _ _ _ _ _ us hl => match us, hl with | [_, _], _ => rfl), PySem.W.mg_of X G a10⟩
    g_are_combined_alike := ⟨f11, _, fun_mk (st := top 19) l11 c11 k11, (fun_mk (st := top 19) l11 c11 k11).binds (ps := ["operations", "first", "second"]) (fun _ _ _ _ _ _ us hl => match us, hl with | [_, _, _], _ => rfl), PySem.W.mg_of X G a11⟩
    gL_tells := ⟨f12, _, fun_mk (st := top 21) l12 c12 k12, (fun_mk (st := top 21) l12 c12 k12).binds (ps := ["_law_actual", "_law_due"]) (fun _ _ _ _ _ _ us hl => match us, hl with | [_, _], _ => rfl), PySem.W.mg_of X G a12⟩
    gL_mix := ⟨f13, _, fun_mk (st := top 22) l13 c13 k13, (fun_mk (st := top 22) l13 c13 k13).binds (ps := ["_law_cell"]) (fun _ _ _ _ _ _ us hl => match us, hl with | [_], _ => rfl), PySem.W.mg_of X G a13⟩
    gL_number := ⟨f14, _, fun_mk (st := top 23) l14 c14 k14, (fun_mk (st := top 23) l14 c14 k14).binds (ps := ["_law_cell"]) (fun _ _ _ _ _ _ us hl => match us, hl with | [_], _ => rfl), PySem.W.mg_of X G a14⟩
    gL_state := ⟨f15, _, fun_mk (st := top 24) l15 c15 k15, (fun_mk (st := top 24) l15 c15 k15).binds (ps := ["_law_script"]) (fun _ _ _ _ _ _ us hl => match us, hl with | [_], _ => rfl), PySem.W.mg_of X G a15⟩
    gL_draw := ⟨f16, _, fun_mk (st := top 25) l16 c16 k16, (fun_mk (st := top 25) l16 c16 k16).binds (ps := ["_law_state_here", "_law_many"]) (fun _ _ _ _ _ _ us hl => match us, hl with | [_, _], _ => rfl), PySem.W.mg_of X G a16⟩
    gL_word := ⟨f17, _, fun_mk (st := top 26) l17 c17 k17, (fun_mk (st := top 26) l17 c17 k17).binds (ps := ["_law_state_here", "_law_size"]) (fun _ _ _ _ _ _ us hl => match us, hl with | [_, _], _ => rfl), PySem.W.mg_of X G a17⟩
    gL_names := ⟨f18, _, fun_mk (st := top 27) l18 c18 k18, (fun_mk (st := top 27) l18 c18 k18).binds (ps := ["_law_state_here", "_law_count"]) (fun _ _ _ _ _ _ us hl => match us, hl with | [_, _], _ => rfl), PySem.W.mg_of X G a18⟩
    gL_leaf := ⟨f19, _, fun_mk (st := top 28) l19 c19 k19, (fun_mk (st := top 28) l19 c19 k19).binds (ps := ["_law_state_here", "_law_operations", "_law_count"]) (fun _ _ _ _ _ _ us hl => match us, hl with | [_, _, _], _ => rfl), PySem.W.mg_of X G a19⟩
    gL_term := ⟨f20, _, fun_mk (st := top 29) l20 c20 k20, (fun_mk (st := top 29) l20 c20 k20).binds (ps := ["_law_state_here", "_law_operations", "_law_count", "_law_height"]) (fun _ _ _ _ _ _ us hl => match us, hl with | [_, _, _, _], _ => rfl), PySem.W.mg_of X G a20⟩
    gL_subterm := ⟨f21, _, fun_mk (st := top 30) l21 c21 k21, (fun_mk (st := top 30) l21 c21 k21).binds (ps := ["_law_term_here", "_law_position"]) (fun _ _ _ _ _ _ us hl => match us, hl with | [_, _], _ => rfl), PySem.W.mg_of X G a21⟩
    gL_replace := ⟨f22, _, fun_mk (st := top 31) l22 c22 k22, (fun_mk (st := top 31) l22 c22 k22).binds (ps := ["_law_term_here", "_law_position", "_law_new"]) (fun _ _ _ _ _ _ us hl => match us, hl with | [_, _, _], _ => rfl), PySem.W.mg_of X G a22⟩
    gL_positions := ⟨f23, _, fun_mk (st := top 32) l23 c23 k23, (fun_mk (st := top 32) l23 c23 k23).binds (ps := ["_law_term_here"]) (fun _ _ _ _ _ _ us hl => match us, hl with | [_], _ => rfl), PySem.W.mg_of X G a23⟩
    gL_same := ⟨f24, _, fun_mk (st := top 33) l24 c24 k24, (fun_mk (st := top 33) l24 c24 k24).binds (ps := ["_law_first", "_law_second"]) (fun _ _ _ _ _ _ us hl => match us, hl with | [_, _], _ => rfl), PySem.W.mg_of X G a24⟩
    gL_symbols := ⟨f25, _, fun_mk (st := top 34) l25 c25 k25, (fun_mk (st := top 34) l25 c25 k25).binds (ps := ["_law_term_here"]) (fun _ _ _ _ _ _ us hl => match us, hl with | [_], _ => rfl), PySem.W.mg_of X G a25⟩
    gL_compare := ⟨f26, _, fun_mk (st := top 35) l26 c26 k26, (fun_mk (st := top 35) l26 c26 k26).binds (ps := ["_law_first", "_law_second"]) (fun _ _ _ _ _ _ us hl => match us, hl with | [_, _], _ => rfl), PySem.W.mg_of X G a26⟩
    gL_spoilt := ⟨f27, _, fun_mk (st := top 36) l27 c27 k27, (fun_mk (st := top 36) l27 c27 k27).binds (ps := ["_law_state_here", "_law_operations", "_law_count", "_law_term_here"]) (fun _ _ _ _ _ _ us hl => match us, hl with | [_, _, _, _], _ => rfl), PySem.W.mg_of X G a27⟩
    gL_two := ⟨f28, _, fun_mk (st := top 37) l28 c28 k28, (fun_mk (st := top 37) l28 c28 k28).binds (ps := ["_law_state_here"]) (fun _ _ _ _ _ _ us hl => match us, hl with | [_], _ => rfl), PySem.W.mg_of X G a28⟩
    gL_flat := ⟨f29, _, fun_mk (st := top 38) l29 c29 k29, (fun_mk (st := top 38) l29 c29 k29).binds (ps := ["_law_names_here", "_law_name", "_law_term_here"]) (fun _ _ _ _ _ _ us hl => match us, hl with | [_, _, _], _ => rfl), PySem.W.mg_of X G a29⟩
    gL_combined := ⟨f30, _, fun_mk (st := top 39) l30 c30 k30, (fun_mk (st := top 39) l30 c30 k30).binds (ps := ["_law_names_here", "_law_term_here"]) (fun _ _ _ _ _ _ us hl => match us, hl with | [_, _], _ => rfl), PySem.W.mg_of X G a30⟩
    gL_moved := ⟨f31, _, fun_mk (st := top 40) l31 c31 k31, (fun_mk (st := top 40) l31 c31 k31).binds (ps := ["_law_state_here", "_law_names_here", "_law_term_here"]) (fun _ _ _ _ _ _ us hl => match us, hl with | [_, _, _], _ => rfl), PySem.W.mg_of X G a31⟩
    g_law := ⟨fa, _, fun_mk (st := top 41) l32 c32 k32, (fun_mk (st := top 41) l32 c32 k32).binds (ps := ["_law_script"]) (fun _ _ _ _ _ _ us hl => match us, hl with | [_], _ => rfl), PySem.W.mg_of X G a32⟩
    z_isinstance := PySem.W.mg_none_of X G z0
    z_int := PySem.W.mg_none_of X G z1
    z_max := PySem.W.mg_none_of X G z2
    z_zip := PySem.W.mg_none_of X G z3
    z_len := PySem.W.mg_none_of X G z4
    z_range := PySem.W.mg_none_of X G z5
    z_tuple := PySem.W.mg_none_of X G z6
    z_list := PySem.W.mg_none_of X G z7
    z_bool := PySem.W.mg_none_of X G z8
    z_str := PySem.W.mg_none_of X G z9
    c_MAX_SIZE := ⟨_, PySem.W.mg_of X G v0⟩
    c_MAX_DEPTH := ⟨_, PySem.W.mg_of X G v1⟩
    c_MOST_DEPTH := ⟨_, PySem.W.mg_of X G v2⟩
  }, rfl, rfl⟩
  refine ⟨PySem.W.fnOf "law" "law" (defArgs (top 41)) (defBody (top 41)) (defScope (top 41)) .none kv32 dc32 pm32 an32 cd32 ct32, fun s v => .of_eq rfl, fun base _ _ => ?_⟩
  have k := ok_law (P := l.prog) (w := w) (base := base) T
  unfold Keeps at k
  rw [e1, e2] at k
  exact k
end J

open PySem PySem.W PyProof.Rows
set_option maxRecDepth 100000 in
set_option maxHeartbeats 0 in
theorem PySem.Challenge.cw_joinedends_k31_whole_combined_alike_holds : PySem.Challenge.rw_joinedends_k31_whole_combined_alike.Holds := by
  w_on; o_law; k_head; (case hw => w_witness2)
  k_fill
  refine L2.walk_of (l := PySem.Challenge.rw_joinedends_k31_whole_combined_alike) (n := 63) (k := 88) (x := "_law_script") (CX := fun _ => L2.CX0) (sp := fun w => J.spLaw _) rfl (by decide) rfl ⟨rfl, by decide, by decide⟩ (fun w h Y => PySem.W.kIn_of Y) ?F (fun _ _ a ns hl _ hS => ⟨a, ns, rfl, hS, fun _ => rfl⟩) (fun _ _ _ _ _ z => z)
  case F =>
    intro w mg fa h KX G hmg
    refine' J.all_mk KX G hmg ?a0 ?l0 ?c0 ?k0 ?a1 ?l1 ?c1 ?k1 ?a2 ?l2 ?c2 ?k2 ?a3 ?l3 ?c3 ?k3 ?a4 ?l4 ?c4 ?k4 ?a5 ?l5 ?c5 ?k5 ?a6 ?l6 ?c6 ?k6 ?a7 ?l7 ?c7 ?k7 ?a8 ?l8 ?c8 ?k8 ?a9 ?l9 ?c9 ?k9 ?a10 ?l10 ?c10 ?k10 ?a11 ?l11 ?c11 ?k11 ?a12 ?l12 ?c12 ?k12 ?a13 ?l13 ?c13 ?k13 ?a14 ?l14 ?c14 ?k14 ?a15 ?l15 ?c15 ?k15 ?a16 ?l16 ?c16 ?k16 ?a17 ?l17 ?c17 ?k17 ?a18 ?l18 ?c18 ?k18 ?a19 ?l19 ?c19 ?k19 ?a20 ?l20 ?c20 ?k20 ?a21 ?l21 ?c21 ?k21 ?a22 ?l22 ?c22 ?k22 ?a23 ?l23 ?c23 ?k23 ?a24 ?l24 ?c24 ?k24 ?a25 ?l25 ?c25 ?k25 ?a26 ?l26 ?c26 ?k26 ?a27 ?l27 ?c27 ?k27 ?a28 ?l28 ?c28 ?k28 ?a29 ?l29 ?c29 ?k29 ?a30 ?l30 ?c30 ?k30 ?a31 ?l31 ?c31 ?k31 ?a32 ?l32 ?c32 ?k32 ?z0 ?z1 ?z2 ?z3 ?z4 ?z5 ?z6 ?z7 ?z8 ?z9 ?v0 ?v1 ?v2
    (case a0 => k_is)
    (case l0 => k_is)
    (case c0 => k_is)
    (case k0 => k_is)
    (case a1 => k_is)
    (case l1 => k_is)
    (case c1 => k_is)
    (case k1 => k_is)
    (case a2 => k_is)
    (case l2 => k_is)
    (case c2 => k_is)
    (case k2 => k_is)
    (case a3 => k_is)
    (case l3 => k_is)
    (case c3 => k_is)
    (case k3 => k_is)
    (case a4 => k_is)
    (case l4 => k_is)
    (case c4 => k_is)
    (case k4 => k_is)
    (case a5 => k_is)
    (case l5 => k_is)
    (case c5 => k_is)
    (case k5 => k_is)
    (case a6 => k_is)
    (case l6 => k_is)
    (case c6 => k_is)
    (case k6 => k_is)
    (case a7 => k_is)
    (case l7 => k_is)
    (case c7 => k_is)
    (case k7 => k_is)
    (case a8 => k_is)
    (case l8 => k_is)
    (case c8 => k_is)
    (case k8 => k_is)
    (case a9 => k_is)
    (case l9 => k_is)
    (case c9 => k_is)
    (case k9 => k_is)
    (case a10 => k_is)
    (case l10 => k_is)
    (case c10 => k_is)
    (case k10 => k_is)
    (case a11 => k_is)
    (case l11 => k_is)
    (case c11 => k_is)
    (case k11 => k_is)
    (case a12 => k_is)
    (case l12 => k_is)
    (case c12 => k_is)
    (case k12 => k_is)
    (case a13 => k_is)
    (case l13 => k_is)
    (case c13 => k_is)
    (case k13 => k_is)
    (case a14 => k_is)
    (case l14 => k_is)
    (case c14 => k_is)
    (case k14 => k_is)
    (case a15 => k_is)
    (case l15 => k_is)
    (case c15 => k_is)
    (case k15 => k_is)
    (case a16 => k_is)
    (case l16 => k_is)
    (case c16 => k_is)
    (case k16 => k_is)
    (case a17 => k_is)
    (case l17 => k_is)
    (case c17 => k_is)
    (case k17 => k_is)
    (case a18 => k_is)
    (case l18 => k_is)
    (case c18 => k_is)
    (case k18 => k_is)
    (case a19 => k_is)
    (case l19 => k_is)
    (case c19 => k_is)
    (case k19 => k_is)
    (case a20 => k_is)
    (case l20 => k_is)
    (case c20 => k_is)
    (case k20 => k_is)
    (case a21 => k_is)
    (case l21 => k_is)
    (case c21 => k_is)
    (case k21 => k_is)
    (case a22 => k_is)
    (case l22 => k_is)
    (case c22 => k_is)
    (case k22 => k_is)
    (case a23 => k_is)
    (case l23 => k_is)
    (case c23 => k_is)
    (case k23 => k_is)
    (case a24 => k_is)
    (case l24 => k_is)
    (case c24 => k_is)
    (case k24 => k_is)
    (case a25 => k_is)
    (case l25 => k_is)
    (case c25 => k_is)
    (case k25 => k_is)
    (case a26 => k_is)
    (case l26 => k_is)
    (case c26 => k_is)
    (case k26 => k_is)
    (case a27 => k_is)
    (case l27 => k_is)
    (case c27 => k_is)
    (case k27 => k_is)
    (case a28 => k_is)
    (case l28 => k_is)
    (case c28 => k_is)
    (case k28 => k_is)
    (case a29 => k_is)
    (case l29 => k_is)
    (case c29 => k_is)
    (case k29 => k_is)
    (case a30 => k_is)
    (case l30 => k_is)
    (case c30 => k_is)
    (case k30 => k_is)
    (case a31 => k_is)
    (case l31 => k_is)
    (case c31 => k_is)
    (case k31 => k_is)
    (case a32 => k_is)
    (case l32 => k_is)
    (case c32 => k_is)
    (case k32 => k_is)
    (case z0 => k_is)
    (case z1 => k_is)
    (case z2 => k_is)
    (case z3 => k_is)
    (case z4 => k_is)
    (case z5 => k_is)
    (case z6 => k_is)
    (case z7 => k_is)
    (case z8 => k_is)
    (case z9 => k_is)
    (case v0 => k_is)
    (case v1 => k_is)
    (case v2 => k_is)
