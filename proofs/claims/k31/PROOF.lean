import PyProof.Rows.All
import Wide.All
import OpenK.AllK
import Wide.FinOn
import HandS.ForMost
import HandS.Star
import HandS.IsInst
import HandS.Style
import HandS.Wide
import HandS.DictComp
import HandS.Strs
import HandS.SetBool
import HandS.Walk
import HandS.Zip
import HandS.SortKw
import HandS.TupAny
import KE.KOpsOwn
import KE.KDictPairs
import HandS.SetTxt0
import KE.GoesEnum
import PySem.Challenge.RW_rowsinplace_k31_whole_bounds_that_follow
set_option Elab.async false
set_option maxRecDepth 100000
set_option linter.all false
/-! Systems of difference bounds over any names: solutions, the least one, what follows. Plain mathematics. -/
namespace K31
section
variable {α : Type} [DecidableEq α]

/-- a bound: u is at most v plus c -/
structure Bd (α : Type) where
  u : α
  v : α
  c : Int

def Sol (z : α) (bs : List (Bd α)) (s : α → Int) : Prop := s z = 0 ∧ (∀ n, 0 ≤ s n) ∧ ∀ b ∈ bs, s b.u ≤ s b.v + b.c
def Feas (z : α) (bs : List (Bd α)) : Prop := ∃ s, Sol z bs s
def Fol (z : α) (bs : List (Bd α)) (b : Bd α) : Prop := ∀ s, Sol z bs s → s b.u ≤ s b.v + b.c
def Least (z : α) (bs : List (Bd α)) (m : α → Int) : Prop := Sol z bs m ∧ ∀ s, Sol z bs s → ∀ n, m n ≤ s n
def opp (b : Bd α) : Bd α := ⟨b.v, b.u, -b.c - 1⟩

theorem min_nat {P : Nat → Prop} : ∀ n, P n → ∃ k, P k ∧ ∀ j, P j → k ≤ j := by
  intro n
  induction n using Nat.strongRecOn with
  | _ n ih =>
    intro hn
    by_cases h : ∃ j, j < n ∧ P j
    · obtain ⟨j, hj, pj⟩ := h
      exact ih j hj pj
    · refine ⟨n, hn, fun j pj => ?_⟩
      rcases Nat.lt_or_ge j n with q | q
      · exact absurd ⟨j, q, pj⟩ h
      · exact q

theorem least_ex {z : α} {bs : List (Bd α)} (h : Feas z bs) : ∃ m, Least z bs m := by
  have key : ∀ n : α, ∃ k : Int, (∃ s, Sol z bs s ∧ s n = k) ∧ ∀ s, Sol z bs s → k ≤ s n := by
    intro n
    obtain ⟨s, hs⟩ := h
    obtain ⟨k, ⟨t, ht, e⟩, hk⟩ := min_nat (P := fun k => ∃ s, Sol z bs s ∧ (s n).toNat = k) _ ⟨s, hs, rfl⟩
    refine ⟨t n, ⟨t, ht, rfl⟩, fun s' hs' => ?_⟩
    have h1 := hk _ ⟨s', hs', rfl⟩
    have h2 := ht.2.1 n
    have h3 := hs'.2.1 n
    omega
  refine ⟨fun n => Classical.choose (key n), ⟨?_, fun n => ?_, fun b hb => ?_⟩, fun s hs n => (Classical.choose_spec (key n)).2 s hs⟩
  · obtain ⟨⟨s, hs, e⟩, _⟩ := Classical.choose_spec (key z)
    show Classical.choose (key z) = 0
    rw [← e]
    exact hs.1
  · obtain ⟨⟨s, hs, e⟩, _⟩ := Classical.choose_spec (key n)
    show 0 ≤ Classical.choose (key n)
    rw [← e]
    exact hs.2.1 n
  · obtain ⟨⟨s, hs, e⟩, _⟩ := Classical.choose_spec (key b.v)
    show Classical.choose (key b.u) ≤ Classical.choose (key b.v) + b.c
    have h1 := (Classical.choose_spec (key b.u)).2 s hs
    have h2 := hs.2.2 b hb
    omega

theorem least_uniq {z : α} {bs : List (Bd α)} {m m' : α → Int} (h : Least z bs m) (h' : Least z bs m') (n : α) : m n = m' n := by
  have a := h.2 m' h'.1 n
  have b := h'.2 m h.1 n
  omega

theorem sol_append {z : α} {bs : List (Bd α)} {b : Bd α} {s : α → Int} : Sol z (bs ++ [b]) s ↔ Sol z bs s ∧ s b.u ≤ s b.v + b.c := by
  constructor
  · rintro ⟨h0, h1, h2⟩
    exact ⟨⟨h0, h1, fun a ha => h2 a (List.mem_append_left _ ha)⟩, h2 b (by simp)⟩
  · rintro ⟨⟨h0, h1, h2⟩, h3⟩
    refine ⟨h0, h1, fun a ha => ?_⟩
    rcases List.mem_append.mp ha with q | q
    · exact h2 a q
    · rw [List.mem_singleton.mp q]
      exact h3

theorem opp_fol {z : α} {bs : List (Bd α)} {b : Bd α} : ¬ Feas z (bs ++ [opp b]) ↔ Fol z bs b := by
  constructor
  · intro h s hs
    apply Classical.byContradiction
    intro q
    refine h ⟨s, sol_append.mpr ⟨hs, ?_⟩⟩
    show s b.v ≤ s b.u + (-b.c - 1)
    omega
  · rintro h ⟨s, hs⟩
    obtain ⟨h1, h2⟩ := sol_append.mp hs
    have h3 := h s h1
    have h2 : s b.v ≤ s b.u + (-b.c - 1) := h2
    omega

theorem fol_add {z : α} {bs : List (Bd α)} {b : Bd α} (h : Fol z bs b) {s : α → Int} : Sol z (bs ++ [b]) s ↔ Sol z bs s := by
  rw [sol_append]
  exact ⟨fun q => q.1, fun q => ⟨q, h s q⟩⟩

theorem fol_least {z : α} {bs : List (Bd α)} {b : Bd α} (h : Fol z bs b) {m : α → Int} (hm : Least z bs m) : Least z (bs ++ [b]) m :=
  ⟨(fol_add h).mpr hm.1, fun s hs => hm.2 s ((fol_add h).mp hs)⟩

/-! ### how many names are not yet at the least solution -/
def uns (ks : List α) (f m : α → Int) : Nat := (ks.filter fun n => decide (f n ≠ m n)).length

theorem filter_le {ks : List α} {p q : α → Bool} (h : ∀ x ∈ ks, q x = true → p x = true) : (ks.filter q).length ≤ (ks.filter p).length := by
  induction ks with
  | nil => exact Nat.le_refl _
  | cons a ks ih =>
    have ih := ih fun x hx => h x (List.mem_cons_of_mem _ hx)
    have ha := h a List.mem_cons_self
    cases hq : q a with
    | true =>
      rw [List.filter_cons_of_pos hq, List.filter_cons_of_pos (ha hq)]
      simpa using ih
    | false =>
      rw [List.filter_cons_of_neg (by simp [hq])]
      cases hp : p a with
      | true =>
        rw [List.filter_cons_of_pos hp, List.length_cons]
        omega
      | false =>
        rw [List.filter_cons_of_neg (by simp [hp])]
        exact ih
theorem filter_lt {ks : List α} {p q : α → Bool} (h : ∀ x ∈ ks, q x = true → p x = true) {y : α} (hy : y ∈ ks) (py : p y = true) (qy : q y = false) : (ks.filter q).length < (ks.filter p).length := by
  induction ks with
  | nil => cases hy
  | cons a ks ih =>
    have ha := h a List.mem_cons_self
    have hr : ∀ x ∈ ks, q x = true → p x = true := fun x hx => h x (List.mem_cons_of_mem _ hx)
    rcases List.mem_cons.mp hy with e | e
    · subst e
      rw [List.filter_cons_of_neg (by simp [qy]), List.filter_cons_of_pos py, List.length_cons]
      have := filter_le hr
      omega
    · have ih := ih hr e
      cases hq : q a with
      | true =>
        rw [List.filter_cons_of_pos hq, List.filter_cons_of_pos (ha hq)]
        simpa using ih
      | false =>
        rw [List.filter_cons_of_neg (by simp [hq])]
        cases hp : p a with
        | true =>
          rw [List.filter_cons_of_pos hp, List.length_cons]
          omega
        | false =>
          rw [List.filter_cons_of_neg (by simp [hp])]
          exact ih
theorem uns_zero {ks : List α} {f m : α → Int} (h : uns ks f m = 0) : ∀ n ∈ ks, f n = m n := by
  intro n hn
  apply Classical.byContradiction
  intro q
  have : n ∈ ks.filter fun n => decide (f n ≠ m n) := List.mem_filter.mpr ⟨hn, decide_eq_true q⟩
  unfold uns at h
  rw [List.length_eq_zero_iff.mp h] at this
  cases this
theorem uns_start {ks : List α} {z : α} {f m : α → Int} (hz : z ∈ ks) (e : f z = m z) : uns ks f m + 1 ≤ ks.length := by
  unfold uns
  have h := filter_lt (ks := ks) (p := fun _ => true) (q := fun n => decide (f n ≠ m n)) (fun _ _ _ => rfl) hz rfl (by simp [e])
  rw [show ks.filter (fun _ => true) = ks from List.filter_eq_self.mpr fun _ _ => rfl] at h
  exact h

/-- one round that brings every bound forward settles one name more -/
theorem step_gain {ks : List α} {z : α} {bs : List (Bd α)} {m f f' : α → Int} (hm : Least z bs m) (hz : z ∈ ks) (hk : ∀ b ∈ bs, b.u ∈ ks ∧ b.v ∈ ks)
    (h0 : ∀ n, 0 ≤ f n) (hf : ∀ n, f n ≤ f' n) (hf' : ∀ n, f' n ≤ m n) (he : ∀ b ∈ bs, f b.u - b.c ≤ f' b.v) (hn : uns ks f m ≠ 0) : uns ks f' m < uns ks f m := by
  have mono : ∀ x ∈ ks, decide (f' x ≠ m x) = true → decide (f x ≠ m x) = true := fun x _ h => by
    have h := of_decide_eq_true h
    refine decide_eq_true fun e => h ?_
    have a := hf x
    have b := hf' x
    omega
  apply Classical.byContradiction
  intro hlt
  have all : ∀ x ∈ ks, f x ≠ m x → f' x ≠ m x := fun x hx h1 h2 => hlt (filter_lt mono hx (decide_eq_true h1) (decide_eq_false (by simp [h2])))
  have sol : Sol z bs (fun n => if n ∈ ks ∧ f n ≠ m n then m n - 1 else m n) := by
    refine ⟨?_, fun n => ?_, fun b hb => ?_⟩
    · have e : f z = m z := by
        have a := h0 z
        have b := hf z
        have c := hf' z
        have d := hm.1.1
        omega
      show (if z ∈ ks ∧ f z ≠ m z then m z - 1 else m z) = 0
      rw [if_neg (fun q => q.2 e)]
      exact hm.1.1
    · show 0 ≤ (if n ∈ ks ∧ f n ≠ m n then m n - 1 else m n)
      have a := h0 n
      have b := hf n
      have c := hf' n
      split
      · rename_i q
        have := q.2
        omega
      · omega
    · obtain ⟨hu, hv⟩ := hk b hb
      have e := hm.1.2.2 b hb
      have g := he b hb
      show (if b.u ∈ ks ∧ f b.u ≠ m b.u then m b.u - 1 else m b.u) ≤ (if b.v ∈ ks ∧ f b.v ≠ m b.v then m b.v - 1 else m b.v) + b.c
      by_cases qv : f b.v = m b.v
      · rw [if_neg (show ¬ (b.v ∈ ks ∧ f b.v ≠ m b.v) from fun q => q.2 qv)]
        split <;> omega
      · rw [if_pos (show b.v ∈ ks ∧ f b.v ≠ m b.v from ⟨hv, qv⟩)]
        by_cases qu : f b.u = m b.u
        · rw [if_neg (show ¬ (b.u ∈ ks ∧ f b.u ≠ m b.u) from fun q => q.2 qu)]
          have := all _ hv qv
          have := hf' b.v
          omega
        · rw [if_pos (show b.u ∈ ks ∧ f b.u ≠ m b.u from ⟨hu, qu⟩)]
          omega
  obtain ⟨n, hn1, hn2⟩ : ∃ n ∈ ks, f n ≠ m n := by
    apply Classical.byContradiction
    intro q
    refine hn ?_
    unfold uns
    rw [List.length_eq_zero_iff, List.filter_eq_nil_iff]
    intro x hx h
    exact q ⟨x, hx, of_decide_eq_true h⟩
  have := hm.2 _ sol n
  rw [if_pos ⟨hn1, hn2⟩] at this
  omega

/-! ### pigeons -/
theorem nodup_len : ∀ (l D : List α), l.Nodup → (∀ x ∈ l, x ∈ D) → l.length ≤ D.length
  | [], D, _, _ => Nat.zero_le _
  | a :: l, D, hn, hs => by
    obtain ⟨h1, h2⟩ := List.nodup_cons.mp hn
    have ha := hs a List.mem_cons_self
    have h3 := nodup_len l (D.erase a) h2 fun x hx => by
      refine (List.mem_erase_of_ne fun e => h1 (by rw [← e]; exact hx)).mpr (hs x (List.mem_cons_of_mem _ hx))
    rw [List.length_erase_of_mem ha] at h3
    have := List.length_pos_of_mem ha
    simp only [List.length_cons]
    omega
theorem pigeon {D : List α} {x : Nat → α} {k : Nat} (hk : D.length ≤ k) (hx : ∀ i, i ≤ k → x i ∈ D) : ∃ i j, i < j ∧ j ≤ k ∧ x i = x j := by
  apply Classical.byContradiction
  intro q
  have nd : ((List.range (k + 1)).map x).Nodup := by
    refine List.pairwise_map.mpr (List.Pairwise.imp_of_mem (fun {a b} ha hb hab e => ?_) List.pairwise_lt_range)
    have := List.mem_range.mp hb
    exact q ⟨a, b, hab, by omega, e⟩
  have := nodup_len _ D nd fun a ha => by
    obtain ⟨i, hi, rfl⟩ := List.mem_map.mp ha
    have := List.mem_range.mp hi
    exact hx i (by omega)
  rw [List.length_map, List.length_range] at this
  omega
def itr (g : α → α) : Nat → α → α
  | 0, a => a
  | k + 1, a => itr g k (g a)
theorem itr_succ (g : α → α) : ∀ (k : Nat) (a : α), itr g (k + 1) a = g (itr g k a)
  | 0, _ => rfl
  | k + 1, a => itr_succ g k (g a)
theorem itr_add (g : α → α) (j : Nat) : ∀ (i : Nat) (a : α), itr g (i + j) a = itr g j (itr g i a)
  | 0, a => by rw [Nat.zero_add]; rfl
  | i + 1, a => by
    rw [show i + 1 + j = (i + j) + 1 by omega]
    exact itr_add g j i (g a)
/-- a walk that stays among finitely many names goes round -/
theorem goes_round {D : List α} {g : α → α} {a : α} (h : ∀ k, itr g k a ∈ D) : ∃ p, p < D.length ∧ itr g (p + 1) (itr g D.length a) = itr g D.length a := by
  obtain ⟨i, j, hij, hj, e⟩ := pigeon (x := fun k => itr g k a) (Nat.le_refl D.length) fun i _ => h i
  refine ⟨j - i - 1, by omega, ?_⟩
  rw [← itr_add]
  have e1 : D.length + (j - i - 1 + 1) = j + (D.length - i) := by omega
  have e2 : itr g D.length a = itr g (i + (D.length - i)) a := by congr 1; omega
  rw [e1, itr_add, e2, itr_add g (D.length - i) i]
  have e : itr g i a = itr g j a := e
  rw [e]
end
end K31
namespace K31
section
variable {α : Type} [DecidableEq α]

def up {β : Type} (g : α → β) (a : α) (b : β) : α → β := fun x => if x = a then b else g x
theorem up_same {β : Type} {g : α → β} {a : α} {b : β} : up g a b a = b := if_pos rfl
theorem up_ne {β : Type} {g : α → β} {a x : α} {b : β} (h : x ≠ a) : up g a b x = g x := if_neg h

/-! ### the rounds over all bounds, each read at its turn, with the causes -/
structure BF (α : Type) where
  f : α → Int
  cs : List α
  cau : α → Bd α
  last : Option α
  rnd : α → Nat
def relax (r : Nat) (S : BF α) (b : Bd α) : BF α :=
  if S.f b.v < S.f b.u - b.c then ⟨up S.f b.v (S.f b.u - b.c), if b.v ∈ S.cs then S.cs else S.cs ++ [b.v], up S.cau b.v b, some b.v, up S.rnd b.v r⟩ else S
def pass (r : Nat) (L : List (Bd α)) (S : BF α) : BF α := L.foldl (relax r) { S with last := none }
def runs (L : List (Bd α)) (S : BF α) : Nat → BF α
  | 0 => S
  | r + 1 => pass (r + 1) L (runs L S r)
def start0 (z : α) (cs : List α) : BF α := ⟨fun _ => 0, cs, fun n => ⟨z, n, 0⟩, none, fun _ => 0⟩
def lows (z : α) (cs : List α) : List (Bd α) := cs.map fun n => ⟨z, n, 0⟩

theorem relax_mono (r : Nat) (S : BF α) (b : Bd α) (n : α) : S.f n ≤ (relax r S b).f n := by
  unfold relax
  split
  · show S.f n ≤ up S.f b.v (S.f b.u - b.c) n
    by_cases e : n = b.v
    · subst e
      rw [up_same]
      omega
    · rw [up_ne e]
      exact Int.le_refl _
  · exact Int.le_refl _
theorem fold_mono (r : Nat) : ∀ (L : List (Bd α)) (S : BF α) (n : α), S.f n ≤ (L.foldl (relax r) S).f n
  | [], _, _ => Int.le_refl _
  | b :: L, S, n => Int.le_trans (relax_mono r S b n) (fold_mono r L (relax r S b) n)
theorem relax_below {r : Nat} {S : BF α} {b : Bd α} {s : α → Int} (hs : s b.u ≤ s b.v + b.c) (h : ∀ n, S.f n ≤ s n) (n : α) : (relax r S b).f n ≤ s n := by
  unfold relax
  split
  · show up S.f b.v (S.f b.u - b.c) n ≤ s n
    by_cases e : n = b.v
    · subst e
      rw [up_same]
      have := h b.u
      omega
    · rw [up_ne e]
      exact h n
  · exact h n
theorem fold_below {r : Nat} {s : α → Int} : ∀ (L : List (Bd α)) (S : BF α), (∀ b ∈ L, s b.u ≤ s b.v + b.c) → (∀ n, S.f n ≤ s n) → ∀ n, (L.foldl (relax r) S).f n ≤ s n
  | [], _, _, h, n => h n
  | b :: L, S, hs, h, n => fold_below L (relax r S b) (fun a ha => hs a (List.mem_cons_of_mem _ ha)) (relax_below (hs b List.mem_cons_self) h) n
theorem relax_meets (r : Nat) (S : BF α) (b : Bd α) : S.f b.u - b.c ≤ (relax r S b).f b.v := by
  unfold relax
  split
  · show S.f b.u - b.c ≤ up S.f b.v (S.f b.u - b.c) b.v
    rw [up_same]
    exact Int.le_refl _
  · omega
theorem fold_meets (r : Nat) : ∀ (L : List (Bd α)) (S : BF α) (b : Bd α), b ∈ L → S.f b.u - b.c ≤ (L.foldl (relax r) S).f b.v
  | a :: L, S, b, h => by
    rcases List.mem_cons.mp h with e | e
    · subst e
      exact Int.le_trans (relax_meets r S b) (fold_mono r L _ _)
    · have h1 := fold_meets r L (relax r S a) b e
      have h2 := relax_mono r S a b.u
      show S.f b.u - b.c ≤ (L.foldl (relax r) (relax r S a)).f b.v
      omega
theorem fold_last_keep (r : Nat) : ∀ (L : List (Bd α)) (S : BF α), S.last ≠ none → (L.foldl (relax r) S).last ≠ none
  | [], _, h => h
  | b :: L, S, h => fold_last_keep r L (relax r S b) (by
    unfold relax
    split
    · exact fun e => nomatch e
    · exact h)
theorem fold_still (r : Nat) : ∀ (L : List (Bd α)) (S : BF α), (L.foldl (relax r) S).last = none → L.foldl (relax r) S = S ∧ ∀ b ∈ L, S.f b.u ≤ S.f b.v + b.c
  | [], S, _ => ⟨rfl, fun _ h => nomatch h⟩
  | b :: L, S, h => by
    have hr : relax r S b = S ∧ S.f b.u ≤ S.f b.v + b.c := by
      unfold relax
      split
      · rename_i q
        refine absurd h (fold_last_keep r L _ ?_)
        unfold relax
        rw [if_pos q]
        exact fun e => nomatch e
      · exact ⟨rfl, by omega⟩
    have h' : (L.foldl (relax r) S).last = none := by
      rw [List.foldl_cons, hr.1] at h
      exact h
    obtain ⟨h1, h2⟩ := fold_still r L S h'
    refine ⟨by rw [List.foldl_cons, hr.1]; exact h1, fun a ha => ?_⟩
    rcases List.mem_cons.mp ha with e | e
    · rw [e]
      exact hr.2
    · exact h2 a e
theorem fold_moves (r : Nat) : ∀ (L : List (Bd α)) (S : BF α), S.last = none → (L.foldl (relax r) S).last ≠ none → ∃ b ∈ L, S.f b.v < (L.foldl (relax r) S).f b.v
  | [], S, h, h' => absurd h h'
  | b :: L, S, h, h' => by
    by_cases q : S.f b.v < S.f b.u - b.c
    · refine ⟨b, List.mem_cons_self, ?_⟩
      have h1 := relax_meets r S b
      have h2 := fold_mono r L (relax r S b) b.v
      show S.f b.v < (L.foldl (relax r) (relax r S b)).f b.v
      omega
    · have e : relax r S b = S := by
        unfold relax
        rw [if_neg q]
      rw [List.foldl_cons, e] at h' ⊢
      obtain ⟨a, ha, q⟩ := fold_moves r L S h h'
      exact ⟨a, List.mem_cons_of_mem _ ha, q⟩

section
variable {z : α} {cs : List α} {bs : List (Bd α)}
theorem sol_all {s : α → Int} (h : Sol z bs s) : ∀ b ∈ lows z cs ++ bs, s b.u ≤ s b.v + b.c := fun b hb => by
  rcases List.mem_append.mp hb with q | q
  · obtain ⟨n, _, rfl⟩ := List.mem_map.mp q
    show s z ≤ s n + 0
    have := h.1
    have := h.2.1 n
    omega
  · exact h.2.2 b q
theorem runs_below {L : List (Bd α)} {S : BF α} {s : α → Int} (hs : ∀ b ∈ L, s b.u ≤ s b.v + b.c) (h : ∀ n, S.f n ≤ s n) : ∀ r n, (runs L S r).f n ≤ s n
  | 0, n => h n
  | r + 1, n => fold_below (r := r + 1) L { runs L S r with last := none } hs (fun n => runs_below hs h r n) n
theorem runs_low {L : List (Bd α)} {S : BF α} (h : ∀ n, 0 ≤ S.f n) : ∀ r n, 0 ≤ (runs L S r).f n
  | 0, n => h n
  | r + 1, n => Int.le_trans (runs_low h r n) (fold_mono (r + 1) L { runs L S r with last := none } n)

/-- a round without a change: the least solution stands -/
theorem bf_still (hk : ∀ b ∈ bs, b.u ∈ z :: cs ∧ b.v ∈ z :: cs) {r : Nat} (h : (runs (lows z cs ++ bs) (start0 z cs) (r + 1)).last = none) : Least z bs (runs (lows z cs ++ bs) (start0 z cs) (r + 1)).f := by
  obtain ⟨e, sat⟩ := fold_still (r + 1) (lows z cs ++ bs) { runs (lows z cs ++ bs) (start0 z cs) r with last := none } h
  have e' : (runs (lows z cs ++ bs) (start0 z cs) (r + 1)).f = (runs (lows z cs ++ bs) (start0 z cs) r).f := by
    show (List.foldl (relax (r + 1)) { runs (lows z cs ++ bs) (start0 z cs) r with last := none } (lows z cs ++ bs)).f = _
    rw [e]
  rw [e']
  have below : ∀ s, Sol z bs s → ∀ n, (runs (lows z cs ++ bs) (start0 z cs) r).f n ≤ s n := fun s hs n => runs_below (sol_all hs) (fun n => hs.2.1 n) r n
  have low : ∀ n, 0 ≤ (runs (lows z cs ++ bs) (start0 z cs) r).f n := fun n => runs_low (fun n => Int.le_refl _) r n
  generalize (runs (lows z cs ++ bs) (start0 z cs) r) = S at sat below low ⊢
  have sat : ∀ b ∈ lows z cs ++ bs, S.f b.u ≤ S.f b.v + b.c := sat
  have zn : ∀ n ∈ cs, S.f z ≤ S.f n := fun n hn => by
    have h1 : S.f z ≤ S.f n + 0 := sat ⟨z, n, 0⟩ (List.mem_append_left _ (List.mem_map.mpr ⟨n, hn, rfl⟩))
    omega
  have sol' : Sol z bs fun n => if n ∈ z :: cs then S.f n - S.f z else 0 := by
    refine ⟨?_, fun n => ?_, fun b hb => ?_⟩
    · show (if z ∈ z :: cs then S.f z - S.f z else 0) = 0
      rw [if_pos List.mem_cons_self]
      omega
    · show 0 ≤ if n ∈ z :: cs then S.f n - S.f z else 0
      split
      · rename_i q
        rcases List.mem_cons.mp q with q | q
        · rw [q]
          omega
        · have := zn n q
          omega
      · exact Int.le_refl _
    · obtain ⟨h1, h2⟩ := hk b hb
      show (if b.u ∈ z :: cs then S.f b.u - S.f z else 0) ≤ (if b.v ∈ z :: cs then S.f b.v - S.f z else 0) + b.c
      rw [if_pos h1, if_pos h2]
      have := sat b (List.mem_append_right _ hb)
      omega
  have z0 : S.f z = 0 := by
    have h1 : S.f z ≤ if z ∈ z :: cs then S.f z - S.f z else 0 := below _ sol' z
    rw [if_pos List.mem_cons_self] at h1
    have := low z
    omega
  exact ⟨⟨z0, low, fun b hb => sat b (List.mem_append_right _ hb)⟩, below⟩

/-- every round with a change: there is no solution -/
theorem bf_never (hk : ∀ b ∈ bs, b.u ∈ z :: cs ∧ b.v ∈ z :: cs) (h : ∀ r, r < cs.length + 1 → (runs (lows z cs ++ bs) (start0 z cs) (r + 1)).last ≠ none) : ¬ Feas z bs := by
  intro hf
  obtain ⟨m, hm⟩ := least_ex hf
  have below : ∀ r n, (runs (lows z cs ++ bs) (start0 z cs) r).f n ≤ m n := runs_below (sol_all hm.1) (fun n => hm.1.2.1 n)
  have low : ∀ r n, 0 ≤ (runs (lows z cs ++ bs) (start0 z cs) r).f n := runs_low (fun n => Int.le_refl _)
  have key : ∀ r, r ≤ cs.length + 1 → uns (z :: cs) (runs (lows z cs ++ bs) (start0 z cs) r).f m + r + 1 ≤ cs.length + 1 := by
    intro r
    induction r with
    | zero =>
      intro _
      have := uns_start (ks := z :: cs) (z := z) (f := (runs (lows z cs ++ bs) (start0 z cs) 0).f) (m := m) List.mem_cons_self (by rw [hm.1.1]; rfl)
      simpa using this
    | succ r ih =>
      intro hr
      have ih := ih (by omega)
      have hl := h r (by omega)
      obtain ⟨b, hb, hlt⟩ := fold_moves (r + 1) (lows z cs ++ bs) { runs (lows z cs ++ bs) (start0 z cs) r with last := none } rfl hl
      have hlt : (runs (lows z cs ++ bs) (start0 z cs) r).f b.v < (runs (lows z cs ++ bs) (start0 z cs) (r + 1)).f b.v := hlt
      have hbv : b.v ∈ z :: cs := by
        rcases List.mem_append.mp hb with q | q
        · obtain ⟨n, hn, rfl⟩ := List.mem_map.mp q
          exact List.mem_cons_of_mem _ hn
        · exact (hk b q).2
      have ne : uns (z :: cs) (runs (lows z cs ++ bs) (start0 z cs) r).f m ≠ 0 := fun e => by
        have h1 := uns_zero e b.v hbv
        have h2 := below (r + 1) b.v
        omega
      have gain := step_gain hm (List.mem_cons_self (a := z) (l := cs)) hk (low r) (fun n => fold_mono (r + 1) _ { runs (lows z cs ++ bs) (start0 z cs) r with last := none } n) (below (r + 1)) (fun b hb => fold_meets (r + 1) _ { runs (lows z cs ++ bs) (start0 z cs) r with last := none } b (List.mem_append_right _ hb)) ne
      have gain : uns (z :: cs) (runs (lows z cs ++ bs) (start0 z cs) (r + 1)).f m < uns (z :: cs) (runs (lows z cs ++ bs) (start0 z cs) r).f m := gain
      omega
  have := key (cs.length + 1) (Nat.le_refl _)
  omega
end
end
end K31
namespace K31
section
variable {α : Type} [DecidableEq α]

/-! ### the causes lead round -/
/-- what stands in round r, the bounds ahead of place i done: p tells the round in which the j-th bound was last done -/
structure RI (z : α) (cs : List α) (L : List (Bd α)) (r : Nat) (p : Nat → Nat) (S : BF α) : Prop where
  sub : ∀ n ∈ S.cs, n ∈ z :: cs
  all : ∀ n ∈ cs, n ∈ S.cs
  zer : z ∉ S.cs → S.rnd z = 0
  src : ∀ n ∈ S.cs, (S.cau n).u ∈ z :: cs
  tgt : ∀ n ∈ S.cs, (S.cau n).v = n
  dec : ∀ n t, S.rnd n = t + 1 → n ∈ S.cs ∧ t ≤ S.rnd (S.cau n).u
  top : ∀ n, S.rnd n ≤ r
  due : ∀ j b, L[j]? = some b → S.f b.v < S.f b.u - b.c → p j ≤ S.rnd b.u
  nd : S.cs.Nodup
  lst : ∀ v, S.last = some v → S.rnd v = r ∧ v ∈ S.cs

section
variable {z : α} {cs : List α} {L : List (Bd α)}
theorem ri_relax {r i : Nat} {S : BF α} {b : Bd α} (R : RI z cs L (r + 1) (fun j => if j < i then r + 1 else r) S) (hb : L[i]? = some b) (hk : ∀ b ∈ L, b.u ∈ z :: cs ∧ b.v ∈ z :: cs ∧ b.u ≠ b.v) :
    RI z cs L (r + 1) (fun j => if j < i + 1 then r + 1 else r) (relax (r + 1) S b) := by
  obtain ⟨hu, hv, hne⟩ := hk b (List.mem_of_getElem? hb)
  unfold relax
  by_cases q : S.f b.v < S.f b.u - b.c
  · rw [if_pos q]
    have hd : r ≤ S.rnd b.u := by
      have := R.due i b hb q
      simpa using this
    have mem_cs : ∀ n, n ∈ (if b.v ∈ S.cs then S.cs else S.cs ++ [b.v]) ↔ n ∈ S.cs ∨ n = b.v := fun n => by
      split
      · rename_i h
        exact ⟨.inl, fun e => e.elim id fun e => e ▸ h⟩
      · simp
    have rmono : ∀ n, S.rnd n ≤ up S.rnd b.v (r + 1) n := fun n => by
      by_cases e : n = b.v
      · subst e
        rw [up_same]
        exact R.top _
      · rw [up_ne e]
        exact Nat.le_refl _
    constructor
    · intro n hn
      rcases (mem_cs n).mp hn with h | h
      · exact R.sub n h
      · rw [h]
        exact hv
    · exact fun n hn => (mem_cs n).mpr (.inl (R.all n hn))
    · intro hz
      have h1 : z ∉ S.cs := fun h => hz ((mem_cs z).mpr (.inl h))
      have h2 : z ≠ b.v := fun h => hz ((mem_cs z).mpr (.inr h))
      show up S.rnd b.v (r + 1) z = 0
      rw [up_ne h2]
      exact R.zer h1
    · intro n hn
      show (up S.cau b.v b n).u ∈ z :: cs
      by_cases e : n = b.v
      · subst e
        rw [up_same]
        exact hu
      · rw [up_ne e]
        exact R.src n (((mem_cs n).mp hn).resolve_right e)
    · intro n hn
      show (up S.cau b.v b n).v = n
      by_cases e : n = b.v
      · subst e
        rw [up_same]
      · rw [up_ne e]
        exact R.tgt n (((mem_cs n).mp hn).resolve_right e)
    · intro n t ht
      have ht : up S.rnd b.v (r + 1) n = t + 1 := ht
      show n ∈ (if b.v ∈ S.cs then S.cs else S.cs ++ [b.v]) ∧ t ≤ up S.rnd b.v (r + 1) (up S.cau b.v b n).u
      by_cases e : n = b.v
      · subst e
        rw [up_same] at ht
        refine ⟨(mem_cs _).mpr (.inr rfl), ?_⟩
        rw [up_same, up_ne hne]
        omega
      · rw [up_ne e] at ht
        obtain ⟨h1, h2⟩ := R.dec n t ht
        refine ⟨(mem_cs _).mpr (.inl h1), ?_⟩
        rw [up_ne e]
        exact Nat.le_trans h2 (rmono _)
    · intro n
      show up S.rnd b.v (r + 1) n ≤ r + 1
      by_cases e : n = b.v
      · subst e
        rw [up_same]
        exact Nat.le_refl _
      · rw [up_ne e]
        exact R.top n
    · intro j a ha hlt
      have hlt : up S.f b.v (S.f b.u - b.c) a.v < up S.f b.v (S.f b.u - b.c) a.u - a.c := hlt
      show (if j < i + 1 then r + 1 else r) ≤ up S.rnd b.v (r + 1) a.u
      by_cases eu : a.u = b.v
      · rw [eu, up_same]
        split <;> omega
      · rw [up_ne eu] at hlt ⊢
        by_cases ej : j = i
        · subst ej
          rw [hb] at ha
          cases ha
          rw [up_same] at hlt
          omega
        · have hlt2 : S.f a.v < S.f a.u - a.c := by
            by_cases ev : a.v = b.v
            · rw [ev] at hlt ⊢
              rw [up_same] at hlt
              omega
            · rw [up_ne ev] at hlt
              exact hlt
          have := R.due j a ha hlt2
          have e : (j < i + 1) = (j < i) := propext ⟨fun h => by omega, fun h => by omega⟩
          simp only [e]
          exact this
    · show (if b.v ∈ S.cs then S.cs else S.cs ++ [b.v]).Nodup
      split
      · exact R.nd
      · rename_i h
        refine List.nodup_append.mpr ⟨R.nd, by simp, fun a ha c hc e => h ?_⟩
        rw [← List.mem_singleton.mp hc, ← e]
        exact ha
    · intro v hv
      have hv : some b.v = some v := hv
      cases hv
      exact ⟨up_same, (mem_cs _).mpr (.inr rfl)⟩
  · rw [if_neg q]
    refine ⟨R.sub, R.all, R.zer, R.src, R.tgt, R.dec, R.top, fun j a ha hlt => ?_, R.nd, R.lst⟩
    by_cases ej : j = i
    · subst ej
      rw [hb] at ha
      cases ha
      exact absurd hlt q
    · have := R.due j a ha hlt
      show (if j < i + 1 then r + 1 else r) ≤ S.rnd a.u
      have e : (j < i + 1) = (j < i) := propext ⟨fun h => by omega, fun h => by omega⟩
      simp only [e]
      exact this
theorem ri_fold {r : Nat} {S : BF α} (hk : ∀ b ∈ L, b.u ∈ z :: cs ∧ b.v ∈ z :: cs ∧ b.u ≠ b.v) : ∀ (L1 L2 : List (Bd α)) (i : Nat) (S : BF α), L = L1 ++ L2 → L1.length = i →
    RI z cs L (r + 1) (fun j => if j < i then r + 1 else r) S → RI z cs L (r + 1) (fun j => if j < L.length then r + 1 else r) (L2.foldl (relax (r + 1)) S)
  | L1, [], i, S, e, hi, R => by
    have e' : L.length = i := by rw [e, List.append_nil, hi]
    rw [e']
    exact R
  | L1, b :: L2, i, S, e, hi, R => by
    have hb : L[i]? = some b := by
      rw [e, ← hi]
      simp
    exact ri_fold (S := S) hk (L1 ++ [b]) L2 (i + 1) (relax (r + 1) S b) (by rw [e]; simp) (by simp [hi]) (ri_relax R hb hk)
theorem ri_pass {r : Nat} {S : BF α} (hk : ∀ b ∈ L, b.u ∈ z :: cs ∧ b.v ∈ z :: cs ∧ b.u ≠ b.v) (R : RI z cs L r (fun _ => r) S) : RI z cs L (r + 1) (fun _ => r + 1) (pass (r + 1) L S) := by
  have h := ri_fold (r := r) (S := S) hk [] L 0 { S with last := none } rfl rfl
    ⟨R.sub, R.all, R.zer, R.src, R.tgt, R.dec, fun n => Nat.le_succ_of_le (R.top n), fun j b hb hlt => by simpa using R.due j b hb hlt, R.nd, fun v e => nomatch e⟩
  refine ⟨h.sub, h.all, h.zer, h.src, h.tgt, h.dec, h.top, fun j b hb hlt => ?_, h.nd, h.lst⟩
  have := h.due j b hb hlt
  rw [if_pos (List.getElem?_eq_some_iff.mp hb).1] at this
  exact this
theorem ri_runs (hnd : cs.Nodup) (hk : ∀ b ∈ L, b.u ∈ z :: cs ∧ b.v ∈ z :: cs ∧ b.u ≠ b.v) : ∀ r, RI z cs L r (fun _ => r) (runs L (start0 z cs) r)
  | 0 => ⟨fun n hn => List.mem_cons_of_mem _ hn, fun n hn => hn, fun _ => rfl, fun n hn => List.mem_cons_self, fun n hn => rfl, fun n t h => (by cases h), fun n => Nat.le_refl _, fun j b _ _ => Nat.zero_le _, hnd, fun v e => nomatch e⟩
  | r + 1 => ri_pass hk (ri_runs hnd hk r)

/-- a walk along the causes from the name changed last never ends -/
theorem cause_walk {S : BF α} {v : α} (R : RI z cs L (cs.length + 1) (fun _ => cs.length + 1) S) (hv : S.last = some v) : ∀ k, itr (fun n => (S.cau n).u) k v ∈ S.cs := by
  apply Classical.byContradiction
  intro hno
  have hno : ∃ k, itr (fun n => (S.cau n).u) k v ∉ S.cs := Classical.not_forall.mp hno
  obtain ⟨k0, hk0⟩ := hno
  obtain ⟨k, hk, hmin⟩ := min_nat (P := fun k => itr (fun n => (S.cau n).u) k v ∉ S.cs) k0 hk0
  have before : ∀ j, j < k → itr (fun n => (S.cau n).u) j v ∈ S.cs := fun j hj => Classical.byContradiction fun q => by
    have := hmin j q
    omega
  obtain ⟨h1, h2⟩ := R.lst v hv
  have rn : ∀ j, j ≤ k → cs.length + 1 ≤ S.rnd (itr (fun n => (S.cau n).u) j v) + j := by
    intro j
    induction j with
    | zero =>
      intro _
      show cs.length + 1 ≤ S.rnd v + 0
      omega
    | succ j ih =>
      intro hj
      have ih := ih (by omega)
      rw [itr_succ]
      cases e : S.rnd (itr (fun n => (S.cau n).u) j v) with
      | zero =>
        rw [e] at ih
        omega
      | succ t =>
        have := (R.dec _ t e).2
        rw [e] at ih
        show cs.length + 1 ≤ S.rnd ((S.cau (itr (fun n => (S.cau n).u) j v)).u) + (j + 1)
        omega
  have inks : ∀ j, j ≤ k → itr (fun n => (S.cau n).u) j v ∈ z :: cs := by
    intro j hj
    cases j with
    | zero => exact R.sub _ h2
    | succ j =>
      rw [itr_succ]
      exact R.src _ (before j (by omega))
  have ez : itr (fun n => (S.cau n).u) k v = z := by
    rcases List.mem_cons.mp (inks k (Nat.le_refl _)) with q | q
    · exact q
    · exact absurd (R.all _ q) hk
  have big : cs.length + 1 ≤ k := by
    have := rn k (Nat.le_refl _)
    rw [ez, R.zer (by rw [← ez]; exact hk)] at this
    omega
  obtain ⟨i, j, hij, hj, e⟩ := pigeon (D := z :: cs) (x := fun k => itr (fun n => (S.cau n).u) k v) (by simpa using big) inks
  have e : itr (fun n => (S.cau n).u) i v = itr (fun n => (S.cau n).u) j v := e
  refine hk ?_
  have h3 : itr (fun n => (S.cau n).u) k v = itr (fun n => (S.cau n).u) (i + (k - j)) v := by
    have h4 : k = j + (k - j) := by omega
    rw [h4, itr_add, ← e, ← itr_add]
    congr 1
    omega
  rw [h3]
  exact before _ (by omega)
end

/-! ### the rounds all at once -/
def lmax (x : Int) (l : List Int) : Int := l.foldl (fun a b => if b > a then b else a) x
theorem lmax_ge : ∀ (l : List Int) (x : Int), x ≤ lmax x l ∧ ∀ y ∈ l, y ≤ lmax x l
  | [], x => ⟨Int.le_refl _, fun _ h => nomatch h⟩
  | a :: l, x => by
    obtain ⟨h1, h2⟩ := lmax_ge l (if a > x then a else x)
    have e : lmax x (a :: l) = lmax (if a > x then a else x) l := rfl
    rw [e]
    have hx : x ≤ (if a > x then a else x) ∧ a ≤ (if a > x then a else x) := by split <;> omega
    refine ⟨Int.le_trans hx.1 h1, fun y hy => ?_⟩
    rcases List.mem_cons.mp hy with q | q
    · rw [q]
      exact Int.le_trans hx.2 h1
    · exact h2 y q
theorem lmax_mem : ∀ (l : List Int) (x : Int), lmax x l = x ∨ lmax x l ∈ l
  | [], x => .inl rfl
  | a :: l, x => by
    have e : lmax x (a :: l) = lmax (if a > x then a else x) l := rfl
    rw [e]
    rcases lmax_mem l (if a > x then a else x) with h | h
    · rw [h]
      split
      · exact .inr List.mem_cons_self
      · exact .inl rfl
    · exact .inr (List.mem_cons_of_mem _ h)
theorem lmax_of {l : List Int} {x m : Int} (h : m ∈ l ++ [x]) (hle : ∀ y ∈ l ++ [x], y ≤ m) : m = lmax x l := by
  obtain ⟨h1, h2⟩ := lmax_ge l x
  have a : m ≤ lmax x l := by
    rcases List.mem_append.mp h with q | q
    · exact h2 m q
    · rw [List.mem_singleton.mp q]
      exact h1
  have b : lmax x l ≤ m := by
    rcases lmax_mem l x with q | q
    · rw [q]
      exact hle x (by simp)
    · exact hle _ (List.mem_append_left _ q)
  omega
def low (L : List (Bd α)) (f : α → Int) (n : α) : List Int := (L.filter fun b => decide (b.v = n)).map fun b => f b.u - b.c
def jac (L : List (Bd α)) (f : α → Int) : α → Int := fun n => lmax (f n) (low L f n)
def jacs (L : List (Bd α)) : Nat → α → Int
  | 0 => fun _ => 0
  | r + 1 => jac L (jacs L r)
section
variable {z : α} {ks : List α} {L : List (Bd α)}
theorem jac_mono (f : α → Int) (n : α) : f n ≤ jac L f n := (lmax_ge _ _).1
theorem jac_meets (f : α → Int) {b : Bd α} (hb : b ∈ L) : f b.u - b.c ≤ jac L f b.v :=
  (lmax_ge (low L f b.v) _).2 _ (List.mem_map.mpr ⟨b, List.mem_filter.mpr ⟨hb, by simp⟩, rfl⟩)
theorem jac_below {f s : α → Int} (hs : ∀ b ∈ L, s b.u ≤ s b.v + b.c) (h : ∀ n, f n ≤ s n) (n : α) : jac L f n ≤ s n := by
  rcases lmax_mem (low L f n) (f n) with q | q
  · show lmax (f n) (low L f n) ≤ s n
    rw [q]
    exact h n
  · obtain ⟨b, hb, e⟩ := List.mem_map.mp q
    obtain ⟨h1, h2⟩ := List.mem_filter.mp hb
    have h2 : b.v = n := of_decide_eq_true h2
    show lmax (f n) (low L f n) ≤ s n
    rw [← e, ← h2]
    have := hs b h1
    have := h b.u
    omega
theorem jacs_below {s : α → Int} (hs : Sol z L s) : ∀ r n, jacs L r n ≤ s n
  | 0, n => hs.2.1 n
  | r + 1, n => jac_below hs.2.2 (jacs_below hs r) n
theorem jacs_low : ∀ r n, 0 ≤ jacs L r n
  | 0, n => Int.le_refl _
  | r + 1, n => Int.le_trans (jacs_low r n) (jac_mono _ n)
theorem jac_still (hz : z ∈ ks) (hk : ∀ b ∈ L, b.u ∈ ks ∧ b.v ∈ ks) {r : Nat} (h : ∀ n ∈ ks, jacs L (r + 1) n = jacs L r n) : jacs L r z = 0 ↔ Feas z L := by
  constructor
  · intro h0
    refine ⟨jacs L r, h0, jacs_low r, fun b hb => ?_⟩
    have h1 := jac_meets (L := L) (jacs L r) hb
    have h2 : jac L (jacs L r) b.v = jacs L r b.v := h b.v (hk b hb).2
    omega
  · rintro ⟨s, hs⟩
    have h1 := jacs_below hs r z
    have h2 := jacs_low (L := L) r z
    rw [hs.1] at h1
    omega
theorem jac_never (hz : z ∈ ks) (hk : ∀ b ∈ L, b.u ∈ ks ∧ b.v ∈ ks) (h : ∀ r, r < ks.length → ¬ ∀ n ∈ ks, jacs L (r + 1) n = jacs L r n) : ¬ Feas z L := by
  intro hf
  obtain ⟨m, hm⟩ := least_ex hf
  have below := fun r => jacs_below hm.1 r
  have key : ∀ r, r ≤ ks.length → uns ks (jacs L r) m + r + 1 ≤ ks.length := by
    intro r
    induction r with
    | zero =>
      intro _
      have := uns_start (ks := ks) (z := z) (f := jacs L 0) (m := m) hz (by rw [hm.1.1]; rfl)
      simpa using this
    | succ r ih =>
      intro hr
      have ih := ih (by omega)
      have ne : uns ks (jacs L r) m ≠ 0 := fun e => h r (by omega) fun n hn => by
        have h1 := uns_zero e n hn
        have h2 := below (r + 1) n
        have h3 : jacs L r n ≤ jacs L (r + 1) n := jac_mono (jacs L r) n
        omega
      have gain : uns ks (jacs L (r + 1)) m < uns ks (jacs L r) m := step_gain hm hz hk (jacs_low r) (fun n => jac_mono _ n) (below (r + 1)) (fun b hb => jac_meets _ hb) ne
      omega
  have := key ks.length (Nat.le_refl _)
  omega
end
end
end K31
namespace K31
section
variable {α : Type} [DecidableEq α]

/-! ### the shortest roads between all names -/
def up2 (D : α → α → Option Int) (u v : α) (x : Option Int) : α → α → Option Int := fun a b => if a = u ∧ b = v then x else D a b
theorem up2_same {D : α → α → Option Int} {u v : α} {x : Option Int} : up2 D u v x u v = x := if_pos ⟨rfl, rfl⟩
theorem up2_ne {D : α → α → Option Int} {u v a b : α} {x : Option Int} (h : ¬ (a = u ∧ b = v)) : up2 D u v x a b = D a b := if_neg h
def fwStep (k : α) (D : α → α → Option Int) (p : α × α) : α → α → Option Int :=
  match D p.1 k, D k p.2 with
  | some a, some b => up2 D p.1 p.2 (some (match D p.1 p.2 with
    | none => a + b
    | some c => if a + b < c then a + b else c))
  | _, _ => D
def addB (D : α → α → Option Int) (b : Bd α) : α → α → Option Int :=
  up2 D b.u b.v (some (match D b.u b.v with
    | none => b.c
    | some d => if d < b.c then d else b.c))
def road0 (z : α) : α → α → Option Int := fun u v => if u = v ∨ u = z then some 0 else none
def prs (names : List α) : List (α × α) := names.flatMap fun u => names.map fun v => (u, v)
def fwPhase (names : List α) (D : α → α → Option Int) (k : α) : α → α → Option Int := (prs names).foldl (fwStep k) D
def fw (names : List α) (D : α → α → Option Int) : α → α → Option Int := names.foldl (fwPhase names) D
def roads (z : α) (names : List α) (bs : List (Bd α)) : α → α → Option Int := fw names (bs.foldl addB (road0 z))

def LeD (D' D : α → α → Option Int) : Prop := ∀ u v d, D u v = some d → ∃ d', D' u v = some d' ∧ d' ≤ d
theorem LeD.refl (D : α → α → Option Int) : LeD D D := fun _ _ d h => ⟨d, h, Int.le_refl _⟩
theorem LeD.trans {D D1 D2 : α → α → Option Int} (a : LeD D1 D) (b : LeD D2 D1) : LeD D2 D := fun u v d h => by
  obtain ⟨d1, h1, l1⟩ := a u v d h
  obtain ⟨d2, h2, l2⟩ := b u v d1 h1
  exact ⟨d2, h2, by omega⟩
def Snd (s : α → Int) (D : α → α → Option Int) : Prop := ∀ u v d, D u v = some d → s u ≤ s v + d

theorem step_val (k : α) (D : α → α → Option Int) (p : α × α) :
    (fwStep k D p = D ∧ (D p.1 k = none ∨ D k p.2 = none)) ∨ ∃ a b e, D p.1 k = some a ∧ D k p.2 = some b ∧ fwStep k D p = up2 D p.1 p.2 (some e) ∧ e ≤ a + b ∧ (∀ c, D p.1 p.2 = some c → e ≤ c) ∧ (e = a + b ∨ D p.1 p.2 = some e) := by
  unfold fwStep
  cases h1 : D p.1 k with
  | none => exact .inl ⟨rfl, .inl rfl⟩
  | some a =>
    cases h2 : D k p.2 with
    | none => exact .inl ⟨rfl, .inr rfl⟩
    | some b =>
      cases h3 : D p.1 p.2 with
      | none => exact .inr ⟨a, b, a + b, rfl, rfl, rfl, Int.le_refl _, (fun c e => nomatch e), .inl rfl⟩
      | some c =>
        refine .inr ⟨a, b, if a + b < c then a + b else c, rfl, rfl, rfl, ?_, fun c' e => ?_, ?_⟩
        · split <;> omega
        · cases e
          split <;> omega
        · split
          · exact .inl rfl
          · exact .inr rfl
theorem step_le (k : α) (D : α → α → Option Int) (p : α × α) : LeD (fwStep k D p) D := by
  rcases step_val k D p with ⟨e, _⟩ | ⟨a, b, x, h1, h2, e, l1, l2, _⟩
  · rw [e]
    exact LeD.refl D
  · rw [e]
    intro u v d h
    by_cases q : u = p.1 ∧ v = p.2
    · obtain ⟨rfl, rfl⟩ := q
      exact ⟨x, up2_same, l2 d h⟩
    · exact ⟨d, by rw [up2_ne q]; exact h, Int.le_refl _⟩
theorem steps_le (k : α) : ∀ (P : List (α × α)) (D : α → α → Option Int), LeD (P.foldl (fwStep k) D) D
  | [], D => LeD.refl D
  | p :: P, D => (step_le k D p).trans (steps_le k P _)
theorem step_snd {s : α → Int} (k : α) {D : α → α → Option Int} (p : α × α) (h : Snd s D) : Snd s (fwStep k D p) := by
  rcases step_val k D p with ⟨e, _⟩ | ⟨a, b, x, h1, h2, e, l1, l2, l3⟩
  · rw [e]
    exact h
  · rw [e]
    intro u v d hd
    by_cases q : u = p.1 ∧ v = p.2
    · obtain ⟨rfl, rfl⟩ := q
      rw [up2_same] at hd
      cases hd
      rcases l3 with l3 | l3
      · have := h _ _ _ h1
        have := h _ _ _ h2
        omega
      · exact h _ _ _ l3
    · rw [up2_ne q] at hd
      exact h _ _ _ hd
theorem steps_snd {s : α → Int} (k : α) : ∀ (P : List (α × α)) {D : α → α → Option Int}, Snd s D → Snd s (P.foldl (fwStep k) D)
  | [], _, h => h
  | p :: P, _, h => steps_snd k P (step_snd k p h)
theorem fw_snd {s : α → Int} {ns : List α} : ∀ (M : List α) {D : α → α → Option Int}, Snd s D → Snd s (M.foldl (fwPhase ns) D)
  | [], _, h => h
  | k :: M, _, h => fw_snd M (steps_snd k (prs ns) h)
theorem addB_le (D : α → α → Option Int) (b : Bd α) : LeD (addB D b) D := by
  intro u v d h
  unfold addB
  by_cases q : u = b.u ∧ v = b.v
  · obtain ⟨rfl, rfl⟩ := q
    refine ⟨_, up2_same, ?_⟩
    rw [h]
    show (if d < b.c then d else b.c) ≤ d
    split <;> omega
  · exact ⟨d, by rw [up2_ne q]; exact h, Int.le_refl _⟩
theorem addBs_le : ∀ (bs : List (Bd α)) (D : α → α → Option Int), LeD (bs.foldl addB D) D
  | [], D => LeD.refl D
  | b :: bs, D => (addB_le D b).trans (addBs_le bs _)
theorem addBs_has : ∀ (bs : List (Bd α)) (D : α → α → Option Int) (b : Bd α), b ∈ bs → ∃ d, (bs.foldl addB D) b.u b.v = some d ∧ d ≤ b.c
  | a :: bs, D, b, h => by
    rcases List.mem_cons.mp h with q | q
    · subst q
      have h1 : ∃ d, addB D b b.u b.v = some d ∧ d ≤ b.c := by
        refine ⟨_, up2_same, ?_⟩
        split
        · exact Int.le_refl _
        · split <;> omega
      obtain ⟨d, hd, l⟩ := h1
      obtain ⟨d', hd', l'⟩ := addBs_le bs (addB D b) _ _ _ hd
      exact ⟨d', hd', by omega⟩
    · exact addBs_has bs (addB D a) b q
theorem addBs_snd {s : α → Int} : ∀ (bs : List (Bd α)) {D : α → α → Option Int}, Snd s D → (∀ b ∈ bs, s b.u ≤ s b.v + b.c) → Snd s (bs.foldl addB D)
  | [], _, h, _ => h
  | b :: bs, D, h, hb => addBs_snd bs (by
      intro u v d hd
      by_cases q : u = b.u ∧ v = b.v
      · obtain ⟨rfl, rfl⟩ := q
        unfold addB at hd
        rw [up2_same] at hd
        have hd := Option.some.inj hd
        have h0 := hb b List.mem_cons_self
        cases e : D b.u b.v with
        | none =>
          rw [e] at hd
          have hd : b.c = d := hd
          omega
        | some c =>
          rw [e] at hd
          have hd : (if c < b.c then c else b.c) = d := hd
          have := h _ _ _ e
          split at hd <;> omega
      · unfold addB at hd
        rw [up2_ne q] at hd
        exact h _ _ _ hd) fun a ha => hb a (List.mem_cons_of_mem _ ha)
theorem road0_snd {z : α} {s : α → Int} (hz : s z = 0) (h0 : ∀ n, 0 ≤ s n) : Snd s (road0 z) := by
  intro u v d h
  unfold road0 at h
  split at h
  · rename_i q
    cases h
    rcases q with q | q
    · rw [q]
      omega
    · rw [q, hz]
      have := h0 v
      omega
  · cases h

/-- one phase, its middle name at 0 to itself -/
structure Ph (k : α) (D D' : α → α → Option Int) (P : List (α × α)) : Prop where
  col : ∀ u, D' u k = D u k
  row : ∀ v, D' k v = D k v
  le : LeD D' D
  got : ∀ p ∈ P, ∀ a b, D p.1 k = some a → D k p.2 = some b → ∃ d, D' p.1 p.2 = some d ∧ d ≤ a + b
  how : ∀ u v d, D' u v = some d → D u v = some d ∨ ∃ a b, D u k = some a ∧ D k v = some b ∧ d = a + b
theorem ph_step {k : α} {D D' : α → α → Option Int} {P : List (α × α)} (h0 : D k k = some 0) (H : Ph k D D' P) (p : α × α) : Ph k D (fwStep k D' p) (P ++ [p]) := by
  rcases step_val k D' p with ⟨e, hn⟩ | ⟨a, b, x, h1, h2, e, l1, l2, l3⟩
  · rw [e]
    refine ⟨H.col, H.row, H.le, fun q hq a b ha hb => ?_, H.how⟩
    rcases List.mem_append.mp hq with m | m
    · exact H.got q m a b ha hb
    · rw [List.mem_singleton.mp m] at ha hb
      rw [H.col, H.row, ha, hb] at hn
      rcases hn with z | z <;> cases z
  · have h1' := h1
    have h2' := h2
    rw [H.col] at h1'
    rw [H.row] at h2'
    have hcol : ∀ u, fwStep k D' p u k = D' u k := fun u => by
      rw [e]
      by_cases q : u = p.1 ∧ k = p.2
      · obtain ⟨rfl, q2⟩ := q
        rw [← q2] at h2' l2 l3 ⊢
        rw [up2_same, h1]
        rw [h0] at h2'
        cases h2'
        have := l2 a h1
        rcases l3 with l3 | l3
        · congr 1
          omega
        · rw [h1] at l3
          exact l3.symm
      · exact up2_ne q
    have hrow : ∀ v, fwStep k D' p k v = D' k v := fun v => by
      rw [e]
      by_cases q : k = p.1 ∧ v = p.2
      · obtain ⟨q2, rfl⟩ := q
        rw [← q2] at h1' l2 l3 ⊢
        rw [up2_same, h2]
        rw [h0] at h1'
        cases h1'
        have := l2 b h2
        rcases l3 with l3 | l3
        · congr 1
          omega
        · rw [h2] at l3
          exact l3.symm
      · exact up2_ne q
    refine ⟨fun u => (hcol u).trans (H.col u), fun v => (hrow v).trans (H.row v), H.le.trans (step_le k D' p), fun q hq a' b' ha hb => ?_, fun u v d hd => ?_⟩
    · rcases List.mem_append.mp hq with m | m
      · obtain ⟨d, hd, l⟩ := H.got q m a' b' ha hb
        obtain ⟨d', hd', l'⟩ := step_le k D' p _ _ _ hd
        exact ⟨d', hd', by omega⟩
      · rw [List.mem_singleton.mp m] at ha hb ⊢
        rw [h1'] at ha
        rw [h2'] at hb
        cases ha
        cases hb
        exact ⟨x, by rw [e, up2_same], l1⟩
    · rw [e] at hd
      by_cases q : u = p.1 ∧ v = p.2
      · obtain ⟨rfl, rfl⟩ := q
        rw [up2_same] at hd
        cases hd
        rcases l3 with l3 | l3
        · exact .inr ⟨a, b, h1', h2', l3⟩
        · exact H.how _ _ _ l3
      · rw [up2_ne q] at hd
        exact H.how _ _ _ hd
theorem ph_all {k : α} {D : α → α → Option Int} (h0 : D k k = some 0) : ∀ (P2 P1 : List (α × α)) (D' : α → α → Option Int), Ph k D D' P1 → Ph k D (P2.foldl (fwStep k) D') (P1 ++ P2)
  | [], P1, D', H => by
    rw [List.append_nil]
    exact H
  | p :: P2, P1, D', H => by
    have := ph_all h0 P2 (P1 ++ [p]) _ (ph_step h0 H p)
    rw [List.append_assoc] at this
    exact this
theorem ph_phase {ns : List α} {k : α} {D : α → α → Option Int} (h0 : D k k = some 0) : Ph k D (fwPhase ns D k) (prs ns) :=
  ph_all h0 (prs ns) [] D ⟨fun _ => rfl, fun _ => rfl, LeD.refl D, (fun _ h => nomatch h), fun _ _ _ h => .inl h⟩
theorem mem_prs {ns : List α} {u v : α} (hu : u ∈ ns) (hv : v ∈ ns) : (u, v) ∈ prs ns := List.mem_flatMap.mpr ⟨u, hu, List.mem_map.mpr ⟨v, hv, rfl⟩⟩
def Closed (ns M : List α) (D : α → α → Option Int) : Prop := ∀ m ∈ M, ∀ u ∈ ns, ∀ v ∈ ns, ∀ a b, D u m = some a → D m v = some b → ∃ d, D u v = some d ∧ d ≤ a + b
theorem closed_phase {ns M : List α} {k : α} {D : α → α → Option Int} (hk : k ∈ ns) (hM : ∀ m ∈ M, m ∈ ns) (h0 : D k k = some 0) (C : Closed ns M D) : Closed ns (M ++ [k]) (fwPhase ns D k) := by
  have H := ph_phase (ns := ns) h0
  generalize fwPhase ns D k = D' at H
  intro m hm u hu v hv a b ha hb
  rcases List.mem_append.mp hm with hm | hm
  · rcases H.how _ _ _ ha with ha | ⟨a1, a2, ha1, ha2, ea⟩
    · rcases H.how _ _ _ hb with hb | ⟨b1, b2, hb1, hb2, eb⟩
      · obtain ⟨d, hd, l⟩ := C m hm u hu v hv a b ha hb
        obtain ⟨d', hd', l'⟩ := H.le _ _ _ hd
        exact ⟨d', hd', by omega⟩
      · obtain ⟨e, he, l⟩ := C m hm u hu k hk a b1 ha hb1
        obtain ⟨d, hd, l'⟩ := H.got (u, v) (mem_prs hu hv) e b2 he hb2
        exact ⟨d, hd, by omega⟩
    · rcases H.how _ _ _ hb with hb | ⟨b1, b2, hb1, hb2, eb⟩
      · obtain ⟨e, he, l⟩ := C m hm k hk v hv a2 b ha2 hb
        obtain ⟨d, hd, l'⟩ := H.got (u, v) (mem_prs hu hv) a1 e ha1 he
        exact ⟨d, hd, by omega⟩
      · obtain ⟨e, he, l⟩ := C m hm k hk k hk a2 b1 ha2 hb1
        rw [h0] at he
        cases he
        obtain ⟨d, hd, l'⟩ := H.got (u, v) (mem_prs hu hv) a1 b2 ha1 hb2
        exact ⟨d, hd, by omega⟩
  · rw [List.mem_singleton.mp hm] at ha hb
    rw [H.col] at ha
    rw [H.row] at hb
    exact H.got (u, v) (mem_prs hu hv) a b ha hb
def Diag (D : α → α → Option Int) : Prop := ∀ n, ∃ d, D n n = some d ∧ d ≤ 0
theorem Diag.le {D D' : α → α → Option Int} (h : Diag D) (l : LeD D' D) : Diag D' := fun n => by
  obtain ⟨d, h1, h2⟩ := h n
  obtain ⟨d', h3, h4⟩ := l _ _ _ h1
  exact ⟨d', h3, by omega⟩
def Neg (ns : List α) (D : α → α → Option Int) : Prop := ∃ n ∈ ns, ∃ d, D n n = some d ∧ d < 0
theorem Neg.le {ns : List α} {D D' : α → α → Option Int} (h : Neg ns D) (l : LeD D' D) : Neg ns D' := by
  obtain ⟨n, hn, d, h1, h2⟩ := h
  obtain ⟨d', h3, h4⟩ := l _ _ _ h1
  exact ⟨n, hn, d', h3, by omega⟩
theorem fw_le {ns : List α} : ∀ (M : List α) (D : α → α → Option Int), LeD (M.foldl (fwPhase ns) D) D
  | [], D => LeD.refl D
  | k :: M, D => LeD.trans (steps_le k (prs ns) D) (fw_le M _)
theorem fw_closed {ns : List α} : ∀ (M2 M1 : List α) (D : α → α → Option Int), (∀ m ∈ M1 ++ M2, m ∈ ns) → Diag D → Neg ns D ∨ Closed ns M1 D → Neg ns (M2.foldl (fwPhase ns) D) ∨ Closed ns (M1 ++ M2) (M2.foldl (fwPhase ns) D)
  | [], M1, D, _, _, h => by
    rw [List.append_nil]
    exact h
  | k :: M2, M1, D, hM, hd, h => by
    have e : M1 ++ k :: M2 = (M1 ++ [k]) ++ M2 := by simp
    rw [e] at hM ⊢
    have hk : k ∈ ns := hM k (by simp)
    refine fw_closed M2 (M1 ++ [k]) (fwPhase ns D k) hM (hd.le (steps_le k (prs ns) D)) ?_
    rcases h with h | h
    · exact .inl (h.le (steps_le k (prs ns) D))
    · obtain ⟨d, h1, h2⟩ := hd k
      by_cases q : d = 0
      · rw [q] at h1
        exact .inr (closed_phase hk (fun m hm => hM m (by simp [hm])) h1 h)
      · exact .inl (Neg.le ⟨k, hk, d, h1, by omega⟩ (steps_le k (prs ns) D))

/-- what the closed table tells -/
structure Tab (z : α) (ns : List α) (bs : List (Bd α)) (D : α → α → Option Int) : Prop where
  snd : ∀ s, Sol z bs s → Snd s D
  clo : Closed ns ns D
  dia : ∀ n ∈ ns, D n n = some 0
  zer : ∀ n, ∃ d, D z n = some d ∧ d ≤ 0
  has : ∀ b ∈ bs, ∃ d, D b.u b.v = some d ∧ d ≤ b.c

theorem list_bound {β : Type} (f : β → Int) : ∀ l : List β, ∃ B, 0 ≤ B ∧ ∀ x ∈ l, f x ≤ B
  | [] => ⟨0, Int.le_refl _, fun _ h => nomatch h⟩
  | a :: l => by
    obtain ⟨B, h0, h⟩ := list_bound f l
    by_cases q : f a ≤ B
    · refine ⟨B, h0, fun x hx => ?_⟩
      rcases List.mem_cons.mp hx with e | e
      · rw [e]
        exact q
      · exact h x e
    · refine ⟨f a, by omega, fun x hx => ?_⟩
      rcases List.mem_cons.mp hx with e | e
      · rw [e]
        exact Int.le_refl _
      · have := h x e
        omega

section
variable {z : α} {ns : List α} {bs : List (Bd α)} {D : α → α → Option Int}
theorem tab_feas (T : Tab z ns bs D) (hz : z ∈ ns) (hk : ∀ b ∈ bs, b.u ∈ ns ∧ b.v ∈ ns) : ∃ s, Sol z bs s ∧ ∀ n ∈ ns, ∀ d, D z n = some d → s n = - d := by
  refine ⟨fun n => if n ∈ ns then - (D z n).getD 0 else 0, ⟨?_, fun n => ?_, fun b hb => ?_⟩, fun n hn d hd => ?_⟩
  · show (if z ∈ ns then - (D z z).getD 0 else 0) = 0
    rw [if_pos hz, T.dia z hz]
    rfl
  · show 0 ≤ if n ∈ ns then - (D z n).getD 0 else 0
    split
    · obtain ⟨d, h1, h2⟩ := T.zer n
      rw [h1]
      show 0 ≤ - d
      omega
    · exact Int.le_refl _
  · obtain ⟨hu, hv⟩ := hk b hb
    show (if b.u ∈ ns then - (D z b.u).getD 0 else 0) ≤ (if b.v ∈ ns then - (D z b.v).getD 0 else 0) + b.c
    rw [if_pos hu, if_pos hv]
    obtain ⟨d, h1, h2⟩ := T.has b hb
    obtain ⟨e, h3, h4⟩ := T.zer b.u
    obtain ⟨x, h5, h6⟩ := T.clo b.u hu z hz b.v hv e d h3 h1
    rw [h3, h5]
    show - e ≤ - x + b.c
    omega
  · show (if n ∈ ns then - (D z n).getD 0 else 0) = - d
    rw [if_pos hn, hd]
    rfl
/-- a solution that stretches the way to v as far as it goes -/
theorem tab_tight (T : Tab z ns bs D) (hz : z ∈ ns) (hk : ∀ b ∈ bs, b.u ∈ ns ∧ b.v ∈ ns) {v : α} (hv : v ∈ ns) (B0 : Int) : ∃ s, Sol z bs s ∧ (∀ n ∈ ns, ∀ d, D n v = some d → s n = s v + d) ∧ ∀ n ∈ ns, D n v = none → s v + B0 ≤ s n := by
  obtain ⟨g, hg, _⟩ := tab_feas T hz hk
  obtain ⟨e0, h0, h0'⟩ := T.zer v
  obtain ⟨B, hB0, hB⟩ := list_bound (fun b : Bd α => (D b.u v).getD 0 - e0 - b.c) bs
  obtain ⟨B1, hB1, hB1'⟩ := list_bound (fun _ : Unit => B0 - e0) [()]
  have hB1' : B0 - e0 ≤ B1 := hB1' () (by simp)
  have fin : ∀ n, n ∈ ns → ∀ d, D n v = some d → 0 ≤ d - e0 := fun n hn d hd => by
    obtain ⟨x, h1, h2⟩ := T.zer n
    obtain ⟨y, h3, h4⟩ := T.clo n hn z hz v hv x d h1 hd
    rw [h0] at h3
    cases h3
    omega
  refine ⟨fun n => if n ∈ ns then (match D n v with | some d => d - e0 | none => g n + B + B1) else 0, ⟨?_, fun n => ?_, fun b hb => ?_⟩, fun n hn d hd => ?_, fun n hn hd => ?_⟩
  · show (if z ∈ ns then (match D z v with | some d => d - e0 | none => g z + B + B1) else 0) = 0
    rw [if_pos hz, h0]
    show e0 - e0 = 0
    omega
  · show 0 ≤ if n ∈ ns then (match D n v with | some d => d - e0 | none => g n + B + B1) else 0
    split
    · rename_i hn
      cases hd : D n v with
      | some d => exact fin n hn d hd
      | none =>
        show 0 ≤ g n + B + B1
        have := hg.2.1 n
        omega
    · exact Int.le_refl _
  · obtain ⟨hu, hw⟩ := hk b hb
    show (if b.u ∈ ns then (match D b.u v with | some d => d - e0 | none => g b.u + B + B1) else 0) ≤ (if b.v ∈ ns then (match D b.v v with | some d => d - e0 | none => g b.v + B + B1) else 0) + b.c
    rw [if_pos hu, if_pos hw]
    obtain ⟨d, h1, h2⟩ := T.has b hb
    cases hd : D b.v v with
    | some y =>
      obtain ⟨x, h3, h4⟩ := T.clo b.v hw b.u hu v hv d y h1 hd
      rw [h3]
      show x - e0 ≤ y - e0 + b.c
      omega
    | none =>
      cases hx : D b.u v with
      | some x =>
        show x - e0 ≤ g b.v + B + B1 + b.c
        have h5 := hB b hb
        rw [hx] at h5
        have h5 : x - e0 - b.c ≤ B := h5
        have := hg.2.1 b.v
        omega
      | none =>
        show g b.u + B + B1 ≤ g b.v + B + B1 + b.c
        have := hg.2.2 b hb
        omega
  · show (if n ∈ ns then (match D n v with | some d => d - e0 | none => g n + B + B1) else 0) = (if v ∈ ns then (match D v v with | some d => d - e0 | none => g v + B + B1) else 0) + d
    rw [if_pos hn, if_pos hv, hd, T.dia v hv]
    show d - e0 = 0 - e0 + d
    omega
  · show (if v ∈ ns then (match D v v with | some d => d - e0 | none => g v + B + B1) else 0) + B0 ≤ (if n ∈ ns then (match D n v with | some d => d - e0 | none => g n + B + B1) else 0)
    rw [if_pos hn, if_pos hv, hd, T.dia v hv]
    show 0 - e0 + B0 ≤ g n + B + B1
    have := hg.2.1 n
    omega
theorem tab_fol (T : Tab z ns bs D) (hz : z ∈ ns) (hk : ∀ b ∈ bs, b.u ∈ ns ∧ b.v ∈ ns) {u v : α} (hu : u ∈ ns) (hv : v ∈ ns) (c : Int) : Fol z bs ⟨u, v, c⟩ ↔ ∃ d, D u v = some d ∧ d ≤ c := by
  constructor
  · intro h
    obtain ⟨s, hs, h1, h2⟩ := tab_tight T hz hk hv (c + 1)
    have h3 : s u ≤ s v + c := h s hs
    cases hd : D u v with
    | some d =>
      have := h1 u hu d hd
      exact ⟨d, rfl, by omega⟩
    | none =>
      have := h2 u hu hd
      omega
  · rintro ⟨d, hd, l⟩ s hs
    have := T.snd s hs u v d hd
    show s u ≤ s v + c
    omega
theorem roads_le (z : α) (ns : List α) (bs : List (Bd α)) : LeD (roads z ns bs) (road0 z) := (addBs_le bs (road0 z)).trans (fw_le ns _)
theorem roads_diag (z : α) (ns : List α) (bs : List (Bd α)) : Diag (roads z ns bs) := by
  refine Diag.le (D := road0 z) (fun n => ⟨0, ?_, Int.le_refl _⟩) (roads_le z ns bs)
  unfold road0
  rw [if_pos (.inl rfl)]
theorem roads_snd {s : α → Int} (h : Sol z bs s) : Snd s (roads z ns bs) := fw_snd ns (addBs_snd bs (road0_snd h.1 h.2.1) h.2.2)
/-- all names at 0 to themselves: the table tells all that follows -/
theorem roads_tab (h : ∀ n ∈ ns, roads z ns bs n n = some 0) : Tab z ns bs (roads z ns bs) where
  snd := fun s hs => roads_snd hs
  clo := by
    have hd : Diag (bs.foldl addB (road0 z)) := Diag.le (D := road0 z) (fun n => ⟨0, by unfold road0; rw [if_pos (.inl rfl)], Int.le_refl _⟩) (addBs_le bs (road0 z))
    rcases fw_closed (ns := ns) ns [] (bs.foldl addB (road0 z)) (fun m hm => hm) hd (.inr fun m hm => nomatch hm) with q | q
    · obtain ⟨n, hn, d, h1, h2⟩ := q
      have := h n hn
      have h1 : roads z ns bs n n = some d := h1
      rw [this] at h1
      cases h1
      omega
    · exact q
  dia := h
  zer := fun n => by
    have h0 : road0 z z n = some 0 := by
      unfold road0
      rw [if_pos (.inr rfl)]
    exact roads_le z ns bs z n 0 h0
  has := fun b hb => by
    obtain ⟨d, h1, h2⟩ := addBs_has bs (road0 z) b hb
    obtain ⟨d', h3, h4⟩ := fw_le (ns := ns) ns _ _ _ _ h1
    exact ⟨d', h3, by omega⟩
theorem roads_none (h : ¬ ∀ n ∈ ns, roads z ns bs n n = some 0) : ¬ Feas z bs := by
  rintro ⟨s, hs⟩
  refine h fun n hn => ?_
  obtain ⟨d, h1, h2⟩ := roads_diag z ns bs n
  have := roads_snd (ns := ns) hs n n d h1
  rw [h1]
  congr 1
  omega
end
end
end K31
namespace K31
section
variable {α : Type} [DecidableEq α]
/-! ### the names of a system, in the order in which they are met -/
def addn (z : α) (cs : List α) (n : α) : List α := if n = z ∨ n ∈ cs then cs else cs ++ [n]
def addns (z : α) (cs : List α) (b : Bd α) : List α := addn z (addn z cs b.u) b.v
def collect (z : α) (bs : List (Bd α)) : List α := bs.foldl (addns z) []
theorem mem_addn {z : α} {cs : List α} {n m : α} : m ∈ addn z cs n ↔ m ∈ cs ∨ (m = n ∧ n ≠ z) := by
  unfold addn
  by_cases h : n = z ∨ n ∈ cs
  · rw [if_pos h]
    constructor
    · exact .inl
    · rintro (q | ⟨rfl, q⟩)
      · exact q
      · exact h.resolve_left q
  · rw [if_neg h, List.mem_append, List.mem_singleton]
    constructor
    · rintro (q | q)
      · exact .inl q
      · exact .inr ⟨q, fun e => h (.inl e)⟩
    · rintro (q | q)
      · exact .inl q
      · exact .inr q.1
theorem nodup_addn {z : α} {cs : List α} {n : α} (h : cs.Nodup) : (addn z cs n).Nodup := by
  unfold addn
  split
  · exact h
  · rename_i q
    refine List.nodup_append.mpr ⟨h, by simp, fun a ha c hc e => q (.inr ?_)⟩
    rw [← List.mem_singleton.mp hc, ← e]
    exact ha
theorem len_addn {z : α} {cs : List α} {n : α} : (addn z cs n).length ≤ cs.length + 1 := by
  unfold addn
  split
  · omega
  · simp
theorem fold_addns {z : α} : ∀ (bs : List (Bd α)) (cs : List α), cs.Nodup → (bs.foldl (addns z) cs).Nodup ∧ (bs.foldl (addns z) cs).length ≤ cs.length + 2 * bs.length ∧
    ∀ m, m ∈ bs.foldl (addns z) cs ↔ m ∈ cs ∨ (m ≠ z ∧ ∃ b ∈ bs, m = b.u ∨ m = b.v)
  | [], cs, h => ⟨h, by simp, fun m => by simp⟩
  | b :: bs, cs, h => by
    obtain ⟨h1, h2, h3⟩ := fold_addns (z := z) bs (addns z cs b) (nodup_addn (nodup_addn h))
    refine ⟨h1, ?_, fun m => ?_⟩
    · have a1 := len_addn (z := z) (cs := cs) (n := b.u)
      have a2 := len_addn (z := z) (cs := addn z cs b.u) (n := b.v)
      have a3 : (addns z cs b).length = (addn z (addn z cs b.u) b.v).length := rfl
      rw [List.foldl_cons, List.length_cons]
      omega
    · rw [List.foldl_cons, h3]
      unfold addns
      rw [mem_addn, mem_addn]
      constructor
      · rintro (((q | ⟨q1, q2⟩) | ⟨q1, q2⟩) | ⟨q1, c, hc, q2⟩)
        · exact .inl q
        · exact .inr ⟨q1 ▸ q2, b, List.mem_cons_self, .inl q1⟩
        · exact .inr ⟨q1 ▸ q2, b, List.mem_cons_self, .inr q1⟩
        · exact .inr ⟨q1, c, List.mem_cons_of_mem _ hc, q2⟩
      · rintro (q | ⟨q1, c, hc, q2⟩)
        · exact .inl (.inl (.inl q))
        · rcases List.mem_cons.mp hc with e | e
          · rw [e] at q2
            rcases q2 with q2 | q2
            · exact .inl (.inl (.inr ⟨q2, q2 ▸ q1⟩))
            · exact .inl (.inr ⟨q2, q2 ▸ q1⟩)
          · exact .inr ⟨q1, c, e, q2⟩
theorem collect_nodup (z : α) (bs : List (Bd α)) : (collect z bs).Nodup := (fold_addns bs [] List.nodup_nil).1
theorem collect_len (z : α) (bs : List (Bd α)) : (collect z bs).length ≤ 2 * bs.length := by
  have h := (fold_addns (z := z) bs [] List.nodup_nil).2.1
  rw [List.length_nil, Nat.zero_add] at h
  exact h
theorem mem_collect {z : α} {bs : List (Bd α)} {m : α} : m ∈ collect z bs ↔ m ≠ z ∧ ∃ b ∈ bs, m = b.u ∨ m = b.v := by
  have h := (fold_addns (z := z) bs [] List.nodup_nil).2.2 m
  exact h.trans ⟨fun q => q.resolve_left (fun z => nomatch z), .inr⟩
theorem collect_has {z : α} {bs : List (Bd α)} {b : Bd α} (hb : b ∈ bs) : b.u ∈ z :: collect z bs ∧ b.v ∈ z :: collect z bs := by
  constructor
  · by_cases e : b.u = z
    · rw [e]
      exact List.mem_cons_self
    · exact List.mem_cons_of_mem _ (mem_collect.mpr ⟨e, b, hb, .inl rfl⟩)
  · by_cases e : b.v = z
    · rw [e]
      exact List.mem_cons_self
    · exact List.mem_cons_of_mem _ (mem_collect.mpr ⟨e, b, hb, .inr rfl⟩)
theorem collect_zero {z : α} {bs : List (Bd α)} : z ∉ collect z bs := fun h => (mem_collect.mp h).1 rfl
theorem all_bds {z : α} {bs : List (Bd α)} (hne : ∀ b ∈ bs, b.u ≠ b.v) : ∀ b ∈ lows z (collect z bs) ++ bs, b.u ∈ z :: collect z bs ∧ b.v ∈ z :: collect z bs ∧ b.u ≠ b.v := fun b hb => by
  rcases List.mem_append.mp hb with q | q
  · obtain ⟨n, hn, rfl⟩ := List.mem_map.mp q
    refine ⟨List.mem_cons_self, List.mem_cons_of_mem _ hn, fun e => collect_zero (z := z) (bs := bs) ?_⟩
    have e : z = n := e
    rw [← e] at hn
    exact hn
  · exact ⟨(collect_has q).1, (collect_has q).2, hne b q⟩
/-! ### what the rounds keep of the causes' names -/
theorem cs_relax {r : Nat} {S : BF α} {b : Bd α} {ks : List α} (h : S.cs.Nodup ∧ ∀ n ∈ S.cs, n ∈ ks) (hb : b.v ∈ ks) : (relax r S b).cs.Nodup ∧ ∀ n ∈ (relax r S b).cs, n ∈ ks := by
  unfold relax
  split
  · show (if b.v ∈ S.cs then S.cs else S.cs ++ [b.v]).Nodup ∧ ∀ n ∈ (if b.v ∈ S.cs then S.cs else S.cs ++ [b.v]), n ∈ ks
    split
    · exact h
    · rename_i q
      refine ⟨List.nodup_append.mpr ⟨h.1, by simp, fun a ha c hc e => q ?_⟩, fun n hn => ?_⟩
      · rw [← List.mem_singleton.mp hc, ← e]
        exact ha
      · rcases List.mem_append.mp hn with m | m
        · exact h.2 n m
        · rw [List.mem_singleton.mp m]
          exact hb
  · exact h
theorem cs_fold {r : Nat} {ks : List α} : ∀ (L : List (Bd α)) {S : BF α}, (S.cs.Nodup ∧ ∀ n ∈ S.cs, n ∈ ks) → (∀ b ∈ L, b.v ∈ ks) → (L.foldl (relax r) S).cs.Nodup ∧ ∀ n ∈ (L.foldl (relax r) S).cs, n ∈ ks
  | [], _, h, _ => h
  | b :: L, _, h, hb => cs_fold L (cs_relax h (hb b List.mem_cons_self)) fun a ha => hb a (List.mem_cons_of_mem _ ha)
theorem cs_runs {ks : List α} {L : List (Bd α)} {S : BF α} (h : S.cs.Nodup ∧ ∀ n ∈ S.cs, n ∈ ks) (hb : ∀ b ∈ L, b.v ∈ ks) : ∀ r, (runs L S r).cs.Nodup ∧ ∀ n ∈ (runs L S r).cs, n ∈ ks
  | 0 => h
  | r + 1 => cs_fold (r := r + 1) L (S := { runs L S r with last := none }) (cs_runs h hb r) hb
end
end K31

namespace K31
open PySem L2
/-! the text by places -/
def top (i : Nat) : Stmt := PySem.Challenge.pw_rowsinplace_k31_whole_bounds_that_follow.main.body.getD i (.Pass ⟨0, 0, 0, 0⟩)
abbrev sIsInt : Stmt := top 4
abbrev sIsName : Stmt := top 5
abbrev sIsBound : Stmt := top 7
abbrev sOpp : Stmt := top 8
abbrev sRing : Stmt := top 9
abbrev sSolve : Stmt := top 10
abbrev sHold : Stmt := top 11
abbrev sInit : Stmt := inClass (top 12) 0
abbrev sLeast : Stmt := inClass (top 12) 1
abbrev sLen : Stmt := inClass (top 12) 3
abbrev sAdd : Stmt := inClass (top 12) 4
abbrev sIn : Stmt := inClass (top 12) 5
abbrev sBag : Stmt := top 14
abbrev sDraw : Stmt := top 15
abbrev sOf : Stmt := top 16
abbrev sName : Stmt := top 17
abbrev sNames : Stmt := top 18
abbrev sNumbers : Stmt := top 19
abbrev sSystem : Stmt := top 20
abbrev sRoads : Stmt := top 21
abbrev sPairs : Stmt := top 22
abbrev sLaw : Stmt := top 23

/-- the built-in names that the module leaves alone -/
structure Blt (mg : Str → Option Value) : Prop where
  isi : mg "isinstance" = none
  int : mg "int" = none
  bool : mg "bool" = none
  str : mg "str" = none
  tuple : mg "tuple" = none
  len : mg "len" = none
  all : mg "all" = none
  any : mg "any" = none
  range : mg "range" = none
  list : mg "list" = none
  sorted : mg "sorted" = none
  max : mg "max" = none
  min : mg "min" = none
  enumerate : mg "enumerate" = none
  abs : mg "abs" = none
  dict : mg "dict" = none

/-- a def of the module: its body, its name, how it binds -/
structure Df (K : PySem.W.Frag) (mg : Str → Option Value) (x : Str) (st : Stmt) (ps : List Str) (f : Addr) (fd : FuncData) : Prop where
  F : Fun K x x st f fd
  m : mg x = some (.ref f)
  b : Binds K fd ps []

/-- a text of one to eight letters -/
def NameOk (x : Str) : Prop := 1 ≤ x.length ∧ x.length ≤ 8 ∧ ∀ c ∈ x.cps.toList, 97 ≤ c ∧ c ≤ 122
section
variable {P : Program} {w : World} {K : PySem.W.Frag} {mg : Str → Option Value} {base : Heap}

/-! ### is_integer -/
/-- x is an int, a bool, or of a type that is neither -/
def spIsInt (K : PySem.W.Frag) : Sp := fun vs H Q _ => ∃ x, vs = [x] ∧ ((∃ i, x = V.int i ∧ Q (.bl true) H) ∨ (∃ b, x = V.bl b ∧ Q (.bl false) H))
theorem scIsInt : FnScope ["thing"] ["thing"] (defScope sIsInt) := ⟨rfl, rfl, rfl, by decide +kernel, rfl, by decide +kernel, by decide +kernel⟩
theorem ok_isint {f : Addr} {fd : FuncData} (F : Fun K "is_integer" "is_integer" sIsInt f fd) (T : Blt mg) : FnOk P w K mg base CX0 1 f fd ["thing"] (spIsInt K) := by
  refine F.ok scIsInt (fun vs H Q E h => ?_) (fun cdv A outer s H vs Q E hr h => ?_)
  · obtain ⟨x, rfl, _⟩ := h
    rfl
  · obtain ⟨x, rfl, h⟩ := h
    refine ⟨_, pss_one (ps_ret (pe_and (pe_callB call_isi (by rfl) T.isi (by decide +kernel) (pa_cons (pv 0) (pa_cons (pe_bltn (v := .ty "int") (by rfl) T.int (by decide +kernel) rfl) pa_nil)))
      (pe_one (pe_not (pe_callB call_isi (by rfl) T.isi (by decide +kernel) (pa_cons (pv 0) (pa_cons (pe_bltn (v := .ty "bool") (by rfl) T.bool (by decide +kernel) rfl) pa_nil))))))), ?_⟩
    rcases h with ⟨i, rfl, q⟩ | ⟨b, rfl, q⟩
    · refine ⟨_, rfl, _, _, _, _, _, rfl, .ty "int", .base (.int _), kit_ty (by decide +kernel), true, rfl, ?_⟩
      refine iteT ⟨_, rfl, _, _, _, _, _, rfl, .ty "bool", .base (.int _), kit_ty (by decide +kernel), false, rfl, q⟩
    · refine ⟨_, rfl, _, _, _, _, _, rfl, .ty "int", .base (.bl _), kit_ty (by decide +kernel), true, rfl, ?_⟩
      refine iteT ⟨_, rfl, _, _, _, _, _, rfl, .ty "bool", .base (.bl _), kit_ty (by decide +kernel), true, rfl, q⟩

theorem ite_d {c A B : Prop} [Decidable c] (hc : c) (h : A) : if decide c = true then A else B := by
  rw [decide_eq_true hc]
  exact iteT h
theorem ite_n {c A B : Prop} [Decidable c] (hc : ¬ c) (h : B) : if decide c = true then A else B := by
  rw [decide_eq_false hc]
  exact iteF h
theorem ite_nn {c A B : Prop} [Decidable c] (hc : ¬ c) (h : A) : if (!decide c) = true then A else B := by
  rw [decide_eq_false hc]
  exact iteT h

/-! ### is_name -/
def spIsName : Sp := fun vs H Q _ => ∃ x, vs = [.str x] ∧ NameOk x ∧ ∀ H', Same H H' → Q (.bl true) H'
theorem scIsName : FnScope ["thing", "letter"] ["thing"] (defScope sIsName) := ⟨rfl, rfl, rfl, by decide +kernel, rfl, by decide +kernel, by decide +kernel⟩
theorem same_upd {H : Hp} {p : Addr} {o : HO} (h : H p = none) : Same H (upd H p o) := fun b u e => by rw [upd_ne (ne_of_none e h)]; exact e
theorem same_upd2 {H H1 : Hp} {p : Addr} {o : HO} (s : Same H H1) (h : H p = none) : Same H (upd H1 p o) := fun b u e => by rw [upd_ne (ne_of_none e h)]; exact s b u e
theorem letter_le {c : Nat} (h1 : 97 ≤ c) (h2 : c ≤ 122) : ¬ (([c] : List Nat) < [97]) ∧ ¬ (([122] : List Nat) < [c]) := by
  constructor <;> simp [List.cons_lt_cons_iff] <;> omega
theorem ok_isname {f : Addr} {fd : FuncData} (F : Fun K "is_name" "is_name" sIsName f fd) (T : Blt mg) : FnOk P w K mg base CX0 1 f fd ["thing"] spIsName := by
  refine F.ok scIsName (fun vs H Q E h => ?_) (fun cdv A outer s H vs Q E hr h => ?_)
  · obtain ⟨x, rfl, _⟩ := h
    rfl
  · obtain ⟨x, rfl, ⟨n1, n2, n3⟩, q⟩ := h
    refine ⟨_, pss_cons (ps_if (PW.pt (pw_or (pt_not (pt_val (pe_callB call_isi (by rfl) T.isi (by decide +kernel) (pa_cons (pv 0) (pa_cons (pe_bltn (v := .ty "str") (by rfl) T.str (by decide +kernel) rfl) pa_nil)))))
        (pw_or1 (pt_not (pt_chain op_le op_le pe_int (pe_callB call_len_str (by rfl) T.len PySem.boot_len (pa_cons (pv 0) pa_nil)) pe_int))))) (pss_one (ps_ret pe_bl)) pss_nil)
      (pss_one (ps_ret (pe_callB (cr_all rfl) (by rfl) T.all (by decide +kernel) (pa_cons
        (pe_lc (own := [("letter", 1)]) (g := gName 1) (tt := tYes) rfl scIsName.nd (pi_str (pv 0)) (blkOk_by (N := ["thing", "letter"]) (sc := defScope sIsName) (by decide +kernel))
          (fun _ _ _ _ _ => pg_name (i := 1) scIsName.nd rfl (Or.inl rfl)) (fun _ _ _ _ _ => pts_nil) (fun _ _ _ _ _ => pe_chain op_le_str op_le_str pe_str (pv 1) pe_str)) pa_nil)))), ?_⟩
    refine ⟨_, rfl, _, _, _, _, _, rfl, .ty "str", .base (.str _), kit_ty (by decide +kernel), true, rfl, ?_⟩
    refine iteF ?_
    refine ⟨_, rfl, _, rfl, ?_, _, _, rfl, rfl, _, rfl, ite_d (by show (1 : Int) ≤ (x.length : Nat); omega) ⟨_, _, rfl, rfl, ?_⟩⟩
    · rw [sizeLine_eq]
      omega
    refine ⟨_, rfl, ?_⟩
    refine iteNS (by show ((x.length : Nat) : Int) ≤ 8; omega) ?_
    refine ⟨_, rfl, x, rfl, fun D hD => lc_it walk_str (fun i H1 => Same H H1 ∧ H1 D = some (.lst ((List.replicate i true).map V.bl))) ⟨same_upd hD, upd_same⟩ (fun _ _ _ _ => True.intro) ?_ ?_⟩
    · rintro i y H1 H2 hi ⟨s1, d1⟩ ⟨rfl, c, hc, rfl⟩
      have hm : c ∈ x.cps.toList := by
        rw [← Array.getElem?_toList] at hc
        exact List.mem_of_getElem? hc
      obtain ⟨c1, c2⟩ := n3 c hm
      obtain ⟨l1, l2⟩ := letter_le c1 c2
      refine ⟨rfl, ?_⟩
      refine ⟨_, rfl, _, _, rfl, rfl, _, rfl, ite_nn (show ¬ ([c] : List Nat) < [97] from l1) ⟨_, _, rfl, rfl, _, d1, ?_, ?_, ?_⟩⟩
      · rw [List.length_map, List.length_replicate, sizeLine_eq]
        have : i < x.length := hi
        omega
      · exact same_upd2 s1 hD
      · rw [upd_same, show decide ((({ cps := #[c] } : Str)).cps.toList > (Str.ofString "z").cps.toList) = false from decide_eq_false l2, List.replicate_succ']
        simp
    · rintro H1 ⟨s1, d1⟩
      refine ⟨D, _, rfl, SqL.of d1, ?_⟩
      have e : (List.replicate x.cps.size true).all id = true := by simp
      rw [e]
      exact q H1 s1

/-! ### is_bound -/
/-- the object is no bound: not a tuple, or not of three, or its third a truth value, or one name twice -/
def NoBound (K : PySem.W.Frag) (H : Hp) (x : V) : Prop := (∃ t, TyX K H x (.type t) ∧ kitB t "tuple" = some false) ∨
  ∃ p xs, x = .ref p ∧ H p = some (.tup xs) ∧ (xs.length ≤ 1000 ∧ xs.length ≠ 3 ∨ (∃ y z b, xs = [y, z, .bl b]) ∨ ∃ n i, xs = [.str n, .str n, .int i] ∧ NameOk n)
/-- a bound as a tuple at p -/
def BdAt (H : Hp) (p : Addr) (b : Bd Str) : Prop := H p = some (.tup [.str b.u, .str b.v, .int b.c])
def BdOk (b : Bd Str) : Prop := NameOk b.u ∧ NameOk b.v ∧ b.u ≠ b.v
def spIsBound (K : PySem.W.Frag) : Sp := fun vs H Q _ => ∃ x, vs = [x] ∧ ((∃ p b, x = .ref p ∧ BdAt H p b ∧ BdOk b ∧ ∀ H', Same H H' → Q (.bl true) H') ∨ (NoBound K H x ∧ ∀ H', Same H H' → Q (.bl false) H'))
theorem scIsBound : FnScope ["thing"] ["thing"] (defScope sIsBound) := ⟨rfl, rfl, rfl, by decide +kernel, rfl, by decide +kernel, by decide +kernel⟩
theorem ok_isbound {f f1 f2 : Addr} {fd fd1 fd2 : FuncData} (F : Fun K "is_bound" "is_bound" sIsBound f fd) (T : Blt mg) (D1 : Df K mg "is_integer" sIsInt ["thing"] f1 fd1) (D2 : Df K mg "is_name" sIsName ["thing"] f2 fd2) :
    FnOk P w K mg base CX0 2 f fd ["thing"] (spIsBound K) := by
  have G1 : FnOk P w K mg base CX0 1 f1 fd1 ["thing"] (spIsInt K) := ok_isint D1.F T
  have G2 : FnOk P w K mg base CX0 1 f2 fd2 ["thing"] spIsName := ok_isname D2.F T
  refine F.ok scIsBound (fun vs H Q E h => ?_) (fun cdv A outer s H vs Q E hr h => ?_)
  · obtain ⟨x, rfl, _⟩ := h
    rfl
  · obtain ⟨x, rfl, h⟩ := h
    refine ⟨_, pss_cons (ps_if (PW.pt (pw_or (pt_not (pt_val (pe_callB call_isi (by rfl) T.isi (by decide +kernel) (pa_cons (pv 0) (pa_cons (pe_bltn (v := .ty "tuple") (by rfl) T.tuple (by decide +kernel) rfl) pa_nil)))))
        (pw_or (pt_cmpR op_ne (pe_callB call_len (by rfl) T.len PySem.boot_len (pa_cons (pv 0) pa_nil)) pe_int (nomark _))
        (pw_or1 (pt_not (pt_val (pe_call G1 hr rfl D1.m D1.F.kp D1.b .nil pass0 (pa_cons (pe_ix ix_tup (pv 0) pe_int (fun _ _ => rfl)) pa_nil)))))))) (pss_one (ps_ret pe_bl)) pss_nil)
      (pss_one (ps_ret (pe_and (pe_call G2 hr rfl D2.m D2.F.kp D2.b .nil pass0 (pa_cons (pe_ix ix_tup (pv 0) pe_int (fun _ _ => rfl)) pa_nil))
        (pe_and (pe_call G2 hr rfl D2.m D2.F.kp D2.b .nil pass0 (pa_cons (pe_ix ix_tup (pv 0) pe_int (fun _ _ => rfl)) pa_nil))
        (pe_one (pe_cmpR op_ne (pe_ix ix_tup (pv 0) pe_int (fun _ _ => rfl)) (pe_ix ix_tup (pv 0) pe_int (fun _ _ => rfl)) (nomark _))))))), ?_⟩
    have l3 : ∀ {H : Hp} {p : Addr} {a b c : V}, H p = some (.tup [a, b, c]) → LenV K (.ref p) H 3 := fun h => .inr ⟨_, SqT.of h, rfl⟩
    rcases h with ⟨p, b, rfl, hp, ⟨o1, o2, o3⟩, q⟩ | ⟨⟨t, ht, kt⟩ | ⟨p, xs, rfl, hp, h⟩, q⟩
    · refine ⟨_, rfl, _, _, _, _, _, rfl, .ty "tuple", .base (.tup hp), kit_ty (by decide +kernel), true, rfl, iteF ?_⟩
      refine ⟨_, rfl, _, 3, rfl, l3 hp, rfl, _, rfl, iteNS rfl ?_⟩
      refine ⟨_, rfl, p, _, _, _, rfl, rfl, SqT.of hp, rfl, _, rfl, .inl ⟨_, rfl, _, rfl, ?_⟩⟩
      refine iteF ?_
      refine ⟨_, rfl, p, _, _, _, rfl, rfl, SqT.of hp, rfl, _, rfl, o1, fun H1 s1 => ⟨_, rfl, iteT ?_⟩⟩
      refine ⟨_, rfl, p, _, _, _, rfl, rfl, SqT.of (s1 _ _ hp), rfl, _, rfl, o2, fun H2 s2 => ⟨_, rfl, iteT ?_⟩⟩
      have s12 := s1.trans s2
      refine ⟨_, rfl, p, _, _, _, rfl, rfl, SqT.of (s12 _ _ hp), rfl, _, rfl, p, _, _, _, rfl, rfl, SqT.of (s12 _ _ hp), rfl, rfl, ?_⟩
      have e : (!decide (V.str b.u = V.str b.v)) = true := by simp [o3]
      rw [e]
      exact q H2 s12
    · refine ⟨_, rfl, _, _, _, _, _, rfl, .ty "tuple", ht, kit_ty kt, false, rfl, iteT ?_⟩
      exact q H (Same.refl H)
    · refine ⟨_, rfl, _, _, _, _, _, rfl, .ty "tuple", .base (.tup hp), kit_ty (by decide +kernel), true, rfl, iteF ?_⟩
      rcases h with ⟨hl, hl3⟩ | ⟨y, z, b, rfl⟩ | ⟨n, i, rfl, on⟩
      · refine ⟨_, rfl, _, xs.length, rfl, .inr ⟨_, SqT.of hp, rfl⟩, rfl, _, rfl, ite_nn (fun e => hl3 ?_) (q H (Same.refl H))⟩
        have e := V.int.inj e
        omega
      · refine ⟨_, rfl, _, 3, rfl, l3 hp, rfl, _, rfl, iteNS rfl ?_⟩
        refine ⟨_, rfl, p, _, _, _, rfl, rfl, SqT.of hp, rfl, _, rfl, .inr ⟨_, rfl, _, rfl, ?_⟩⟩
        refine iteT ?_
        exact q H (Same.refl H)
      · refine ⟨_, rfl, _, 3, rfl, l3 hp, rfl, _, rfl, iteNS rfl ?_⟩
        refine ⟨_, rfl, p, _, _, _, rfl, rfl, SqT.of hp, rfl, _, rfl, .inl ⟨_, rfl, _, rfl, ?_⟩⟩
        refine iteF ?_
        refine ⟨_, rfl, p, _, _, _, rfl, rfl, SqT.of hp, rfl, _, rfl, on, fun H1 s1 => ⟨_, rfl, iteT ?_⟩⟩
        refine ⟨_, rfl, p, _, _, _, rfl, rfl, SqT.of (s1 _ _ hp), rfl, _, rfl, on, fun H2 s2 => ⟨_, rfl, iteT ?_⟩⟩
        have s12 := s1.trans s2
        refine ⟨_, rfl, p, _, _, _, rfl, rfl, SqT.of (s12 _ _ hp), rfl, _, rfl, p, _, _, _, rfl, rfl, SqT.of (s12 _ _ hp), rfl, rfl, ?_⟩
        have e : (!decide (V.str n = V.str n)) = false := by simp
        rw [e]
        exact q H2 s12
end
end K31

namespace K31
open PySem L2
/-! ### dicts told by their keys and a function -/
section
variable {ι κ : Type} [DecidableEq ι] [DecidableEq κ]
def dct (key : ι → κ) (ks : List ι) (g : ι → V) : List (κ × V) := ks.map fun n => (key n, g n)
theorem dct_len {key : ι → κ} {ks : List ι} {g : ι → V} : (dct key ks g).length = ks.length := List.length_map _
theorem dct_get {key : ι → κ} (inj : ∀ a b, key a = key b → a = b) {g : ι → V} : ∀ {ks : List ι} {n : ι}, n ∈ ks → valV (dct key ks g) (key n) = some (g n)
  | a :: ks, n, h => by
    show valV ((key a, g a) :: dct key ks g) (key n) = some (g n)
    by_cases e : a = n
    · rw [e]
      exact valV_pos (p := (key n, g n)) rfl
    · rw [valV_neg (p := (key a, g a)) fun z => e (inj _ _ z)]
      exact dct_get inj ((List.mem_cons.mp h).resolve_left fun z => e z.symm)
theorem dct_no {key : ι → κ} (inj : ∀ a b, key a = key b → a = b) {g : ι → V} : ∀ {ks : List ι} {n : ι}, n ∉ ks → valV (dct key ks g) (key n) = none
  | [], n, _ => rfl
  | a :: ks, n, h => by
    show valV ((key a, g a) :: dct key ks g) (key n) = none
    rw [valV_neg (p := (key a, g a)) fun z => h (by rw [inj _ _ z]; exact List.mem_cons_self)]
    exact dct_no inj fun z => h (List.mem_cons_of_mem _ z)
theorem dct_put {key : ι → κ} (inj : ∀ a b, key a = key b → a = b) {g : ι → V} {ks : List ι} {n : ι} {v : V} (h : n ∈ ks) : putK (dct key ks g) (key n) v = dct key ks (up g n v) := by
  unfold putK
  rw [valV_any, dct_get inj h, if_pos (show (some (g n)).isSome = true from rfl)]
  unfold dct
  rw [List.map_map]
  refine List.map_congr_left fun m hm => ?_
  show (if key m = key n then (key m, v) else (key m, g m)) = (key m, up g n v m)
  by_cases e : m = n
  · rw [e, if_pos rfl, up_same]
  · rw [if_neg (fun z => e (inj _ _ z)), up_ne e]
theorem dct_new {key : ι → κ} (inj : ∀ a b, key a = key b → a = b) {g : ι → V} {ks : List ι} {n : ι} {v : V} (h : n ∉ ks) : putK (dct key ks g) (key n) v = dct key (ks ++ [n]) (up g n v) := by
  rw [putK_new v (dct_no inj h)]
  unfold dct
  rw [List.map_append]
  congr 1
  · refine List.map_congr_left fun m hm => ?_
    rw [up_ne fun e => h (by rw [← e]; exact hm)]
  · show [(key n, v)] = [(key n, up g n v n)]
    rw [up_same]
theorem dct_drop {key : ι → κ} (inj : ∀ a b, key a = key b → a = b) {g : ι → V} {ks : List ι} {n : ι} : dropK (dct key ks g) (key n) = dct key (ks.filter fun m => decide (m ≠ n)) g := by
  unfold dropK dct
  rw [List.filter_map]
  congr 1
  refine List.filter_congr fun m hm => ?_
  show decide (key m ≠ key n) = decide (m ≠ n)
  by_cases e : m = n
  · rw [e]
    simp
  · have : ¬ key m = key n := fun z => e (inj _ _ z)
    simp [e, this]
theorem dct_congr {key : ι → κ} {g g' : ι → V} {ks : List ι} (h : ∀ n ∈ ks, g n = g' n) : dct key ks g = dct key ks g' := List.map_congr_left fun n hn => by rw [h n hn]
theorem dct_at {key : ι → κ} {g : ι → V} {ks : List ι} {i : Nat} : (dct key ks g)[i]? = ks[i]?.map fun n => (key n, g n) := List.getElem?_map ..
end
def kS (n : Str) : Key := Sum.inr n
theorem kS_inj (a b : Str) (h : kS a = kS b) : a = b := Sum.inr.inj h
def kP (p : Str × Str) : List Key := [Sum.inr p.1, Sum.inr p.2]
theorem kP_inj (a b : Str × Str) (h : kP a = kP b) : a = b := by
  obtain ⟨a1, a2⟩ := a
  obtain ⟨b1, b2⟩ := b
  have h1 := List.cons.inj h
  have h2 := List.cons.inj h1.2
  have e1 : a1 = b1 := Sum.inr.inj h1.1
  have e2 : a2 = b2 := Sum.inr.inj h2.1
  rw [e1, e2]
abbrev dS (ks : List Str) (g : Str → V) : HO := .dK (dct kS ks g)
abbrev dP (ks : List (Str × Str)) (g : Str × Str → V) : HO := .dT (dct kP ks g)
theorem dS_get {H : Hp} {a : Addr} {ks : List Str} {g : Str → V} {n : Str} (h : H a = some (dS ks g)) (hn : n ∈ ks) : DGet H a (.str n) (some (g n)) := by
  have q := DGet.k (k := kS n) h
  rw [dct_get kS_inj hn] at q
  exact q
theorem dS_no {H : Hp} {a : Addr} {ks : List Str} {g : Str → V} {n : Str} (h : H a = some (dS ks g)) (hn : n ∉ ks) : DGet H a (.str n) none := by
  have q := DGet.k (k := kS n) h
  rw [dct_no kS_inj hn] at q
  exact q
theorem dS_put {H : Hp} {a : Addr} {ks : List Str} {g : Str → V} {n : Str} {v : V} (h : H a = some (dS ks g)) (hn : n ∈ ks) (hl : ks.length < sizeLine) : DPut H a (.str n) v (upd H a (dS ks (up g n v))) := by
  have q := DPut.k (k := kS n) (v := v) h (by rw [dct_len]; exact hl)
  rw [dct_put kS_inj hn] at q
  exact q
theorem dS_new {H : Hp} {a : Addr} {ks : List Str} {g : Str → V} {n : Str} {v : V} (h : H a = some (dS ks g)) (hn : n ∉ ks) (hl : ks.length < sizeLine) : DPut H a (.str n) v (upd H a (dS (ks ++ [n]) (up g n v))) := by
  have q := DPut.k (k := kS n) (v := v) h (by rw [dct_len]; exact hl)
  rw [dct_new kS_inj hn] at q
  exact q
theorem dP_get {H : Hp} {a t : Addr} {ks : List (Str × Str)} {g : Str × Str → V} {u v : Str} (h : H a = some (dP ks g)) (ht : H t = some (.tup [.str u, .str v])) (hn : (u, v) ∈ ks) : DGet H a (.ref t) (some (g (u, v))) := by
  have q := DGet.t (k := kP (u, v)) h ht
  rw [dct_get kP_inj hn] at q
  exact q
theorem dP_put {H : Hp} {a t : Addr} {ks : List (Str × Str)} {g : Str × Str → V} {u v : Str} {y : V} (h : H a = some (dP ks g)) (ht : H t = some (.tup [.str u, .str v])) (hn : (u, v) ∈ ks) (hl : ks.length < sizeLine) :
    DPut H a (.ref t) y (upd H a (dP ks (up g (u, v) y))) := by
  have q := DPut.t (k := kP (u, v)) (v := y) h ht (by rw [dct_len]; exact hl)
  rw [dct_put kP_inj hn] at q
  exact q
section
variable {P : Program} {w : World} {K : PySem.W.Frag} {mg : Str → Option Value} {base : Heap}

/-! ### opposite -/
def spOpp : Sp := fun vs H Q _ => ∃ p b, vs = [.ref p] ∧ BdAt H p b ∧ ∀ q, H q = none → Q (.ref q) (upd H q (.tup [.str (opp b).u, .str (opp b).v, .int (opp b).c]))
theorem scOpp : FnScope ["bound", "u", "v", "c"] ["bound"] (defScope sOpp) := ⟨rfl, rfl, rfl, by decide +kernel, rfl, by decide +kernel, by decide +kernel⟩
theorem ok_opp {f : Addr} {fd : FuncData} (F : Fun K "opposite" "opposite" sOpp f fd) : FnOk P w K mg base CX0 1 f fd ["bound"] spOpp := by
  refine F.ok scOpp (fun vs H Q E h => ?_) (fun cdv A outer s H vs Q E hr h => ?_)
  · obtain ⟨p, b, rfl, _⟩ := h
    rfl
  · obtain ⟨p, b, rfl, hp, q⟩ := h
    refine ⟨_, pss_cons (ps_asg (pv 0) (pg_tup rfl (pgs_cons (pg_name (i := 1) scOpp.nd rfl (.inl rfl)) (pgs_cons (pg_name (i := 2) scOpp.nd rfl (.inl rfl)) (pgs_cons (pg_name (i := 3) scOpp.nd rfl (.inl rfl)) pgs_nil)))))
      (pss_one (ps_ret (pe_tup (pa_cons (pv 2) (pa_cons (pv 1) (pa_cons (pe_op op_sub (pe_un un_neg (pv 3)) pe_int) pa_nil)))))), ?_⟩
    refine ⟨_, rfl, p, _, rfl, SqT.of hp, rfl, _, _, rfl, _, _, rfl, _, _, rfl, rfl, ?_⟩
    refine ⟨_, rfl, _, rfl, _, rfl, _, rfl, _, _, rfl, rfl, by show 3 ≤ sizeLine; decide, fun t ht => ?_⟩
    exact q t ht

/-! ### ring_from -/
/-- the causes: a dict of names to bounds -/
def CauAt (H : Hp) (a : Addr) (cs : List Str) (cau : Str → Bd Str) : Prop := ∃ adr : Str → Addr, H a = some (dS cs fun n => .ref (adr n)) ∧ ∀ n ∈ cs, BdAt H (adr n) (cau n)
def spRing : Sp := fun vs H Q _ => ∃ a n cs cau, vs = [.ref a, .str n] ∧ CauAt H a cs cau ∧ cs.length ≤ 1000 ∧ (∀ k, itr (fun n => (cau n).u) k n ∈ cs) ∧ ∀ q H', Same H H' → Q (.ref q) H'
theorem scRing : FnScope ["causes", "name", "turn", "found", "start"] ["causes", "name"] (defScope sRing) := ⟨rfl, rfl, rfl, by decide +kernel, rfl, by decide +kernel, by decide +kernel⟩
theorem ok_ring {f : Addr} {fd : FuncData} (F : Fun K "ring_from" "ring_from" sRing f fd) (T : Blt mg) : FnOk P w K mg base CX0 1 f fd ["causes", "name"] spRing := by
  refine F.ok scRing (fun vs H Q E h => ?_) (fun cdv A outer s H vs Q E hr h => ?_)
  · obtain ⟨a, n, cs, cau, rfl, _⟩ := h
    rfl
  · obtain ⟨a, n, cs, cau, rfl, ⟨adr, ha, hb⟩, hl, hw, q⟩ := h
    have hu := hu_of hr
    refine ⟨_, pss_cons (ps_for PassesOwn.never rfl (pi_range1 rfl T.range (pa_cons (pe_callB call_lenD (by rfl) T.len PySem.boot_len (pa_cons (pv 0) pa_nil)) pa_nil)) (pg_name (i := 2) scRing.nd rfl (Or.inl rfl))
        (pss_one (ps_set (i := 1) scRing.nd rfl (Or.inl rfl) (pe_ix ix_tup (pe_dget hu (pv 0) (pv 1) (fun _ _ => rfl)) pe_int (fun _ _ => rfl)))))
      (pss_cons (ps_par (i := 3) (j := 4) rfl scRing.nd rfl rfl (by decide) rfl rfl (pa_cons (pe_lst (pa_cons (pe_dget hu (pv 0) (pv 1) (fun _ _ => rfl)) pa_nil)) (pa_cons (pv 1) pa_nil)) (by rfl))
      (pss_cons (ps_while PassesOwn.never (pt_cmpR op_ne (pe_ix ix_tup (pe_ix ix_list (pv 3) (pe_un un_neg pe_int) (fun _ _ => rfl)) pe_int (fun _ _ => rfl)) (pv 4) (nomark _))
        (pss_one (ps_expr (pe_bm PySem.F.plainAttrs_list PySem.F.slot_list_append PySem.F.type_list_append mt_append (pv 3)
          (pa_cons (pe_dget hu (pv 0) (pe_ix ix_tup (pe_ix ix_list (pv 3) (pe_un un_neg pe_int) (fun _ _ => rfl)) pe_int (fun _ _ => rfl)) (fun _ _ => rfl)) pa_nil)))))
      (pss_one (ps_ret (pe_revL (pv 3)))))), ?_⟩
    have len : (dct kS cs fun n => V.ref (adr n)).length = cs.length := dct_len
    refine ⟨_, rfl, a, _, rfl, ha, _, rfl, by rw [len]; omega, by rw [len]; omega, ?_⟩
    refine for_range (lo := 0) (n := (dct kS cs fun n => V.ref (adr n)).length) (fun i σ H1 => ∃ t, σ = [some (.ref a), some (.str (itr (fun n => (cau n).u) i n)), t, none, none] ∧ H1 = H) ⟨none, rfl, rfl⟩ ?_ ?_
    · rintro i σ H1 hi ⟨t, rfl, rfl⟩
      refine ⟨_, rfl, _, rfl, a, _, rfl, dS_get ha (hw i), _, _, _, _, rfl, rfl, SqT.of (hb _ (hw i)), rfl, ⟨some (.int (0 + (i : Nat))), ?_, rfl⟩⟩
      rw [itr_succ]
      rfl
    · rw [len]
      rintro σ H1 ⟨t0, rfl, rfl⟩
      obtain ⟨p, hp, hround⟩ := goes_round hw
      have hw2 : ∀ k, itr (fun n => (cau n).u) k (itr (fun n => (cau n).u) cs.length n) ∈ cs := fun k => by
        rw [← itr_add]
        exact hw _
      generalize itr (fun n => (cau n).u) cs.length n = st at hround hw2
      refine ⟨_, rfl, _, rfl, a, _, rfl, dS_get ha (hw2 0), by show 1 ≤ sizeLine; decide, fun L hL => ⟨_, rfl, _, _, rfl, ?_⟩⟩
      refine ⟨fun m σ H2 => ∃ (t : Nat) (xs : List V), σ = [some (.ref a), some (.str st), t0, some (.ref L), some (.str st)] ∧ t ≤ p ∧ m = p - t ∧ xs.length = t ∧ Same H1 H2 ∧ H2 L = some (.lst (xs ++ [V.ref (adr (itr (fun n => (cau n).u) t st))])), ⟨p, 0, [], rfl, Nat.zero_le _, rfl, rfl, same_upd hL, upd_same⟩, ?_⟩
      rintro m σ H2 ⟨t, xs, rfl, ht, rfl, hx, s2, h2⟩
      refine ⟨_, rfl, _, rfl, L, _, _, _, rfl, rfl, SqL.of h2, atI_last _ _, _, _, _, _, rfl, rfl, SqT.of (s2 _ _ (hb _ (hw2 t))), rfl, _, rfl, rfl, _, rfl, ?_⟩
      refine ite2 (fun hne => ?_) (fun heq => ?_)
      · have hu2 : itr (fun n => (cau n).u) (t + 1) st ≠ st := fun e => by
          rw [itr_succ] at e
          have e : (cau (itr (fun n => (cau n).u) t st)).u = st := e
          rw [e] at hne
          simp at hne
        have htp : t < p := by
          rcases Nat.lt_or_ge t p with z | z
          · exact z
          · have z : t = p := by omega
            rw [z] at hu2
            exact absurd hround hu2
        have e1 : (cau (itr (fun n => (cau n).u) t st)).u = itr (fun n => (cau n).u) (t + 1) st := (itr_succ (fun n => (cau n).u) t st).symm
        refine ⟨fun σ' H' => σ' = [some (.ref a), some (.str st), t0, some (.ref L), some (.str st)] ∧ Same H1 H' ∧ H' L = some (.lst ((xs ++ [V.ref (adr (itr (fun n => (cau n).u) t st))]) ++ [V.ref (adr (itr (fun n => (cau n).u) (t + 1) st))])),
          fun σ' H' ⟨z1, z2, z3⟩ => ⟨p - (t + 1), by omega, t + 1, _, z1, htp, rfl, by rw [List.length_append, hx]; rfl, z2, z3⟩, ?_⟩
        refine ⟨_, rfl, .inl ⟨rfl, _, SqL.of h2⟩, _, rfl, _, rfl, _, rfl, L, _, _, _, rfl, rfl, SqL.of h2, atI_last _ _, _, _, _, _, rfl, rfl, SqT.of (s2 _ _ (hb _ (hw2 t))), rfl, ?_⟩
        rw [e1]
        refine ⟨a, _, rfl, dS_get (s2 _ _ ha) (hw2 (t + 1)), L, _, _, rfl, rfl, h2, ?_, rfl, same_upd2 s2 hL, upd_same⟩
        rw [List.length_append, hx, sizeLine_eq]
        show t + 1 < 16777216
        omega
      · refine ⟨_, rfl, L, _, rfl, SqL.of h2, fun r hr => ?_⟩
        exact q r _ (same_upd2 s2 (s2.free hr))
end
end K31

namespace K31
open PySem L2
abbrev zz : Str := "zero"
/-- the tuples at ps are the bounds bs -/
structure BdsAt (H : Hp) (ps : List Addr) (bs : List (Bd Str)) : Prop where
  len : ps.length = bs.length
  at_ : ∀ (i : Nat) (p : Addr), ps[i]? = some p → ∃ b : Bd Str, bs[i]? = some b ∧ BdAt H p b
theorem BdsAt.same {H H' : Hp} {ps : List Addr} {bs : List (Bd Str)} (h : BdsAt H ps bs) (s : ∀ b xs, H b = some (.tup xs) → H' b = some (.tup xs)) : BdsAt H' ps bs :=
  ⟨h.len, fun i p e => let ⟨b, h1, h2⟩ := h.at_ i p e; ⟨b, h1, s _ _ h2⟩⟩
theorem BdsAt.nil {H : Hp} : BdsAt H [] [] := ⟨rfl, fun i p e => by simp at e⟩
theorem BdsAt.append {H : Hp} {ps qs : List Addr} {bs cs : List (Bd Str)} (h : BdsAt H ps bs) (k : BdsAt H qs cs) : BdsAt H (ps ++ qs) (bs ++ cs) := by
  refine ⟨by rw [List.length_append, List.length_append, h.len, k.len], fun i p e => ?_⟩
  rcases Nat.lt_or_ge i ps.length with z | z
  · rw [List.getElem?_append_left z] at e
    obtain ⟨b, h1, h2⟩ := h.at_ i p e
    exact ⟨b, by rw [List.getElem?_append_left (by rw [← h.len]; exact z)]; exact h1, h2⟩
  · rw [List.getElem?_append_right z] at e
    obtain ⟨b, h1, h2⟩ := k.at_ _ p e
    refine ⟨b, ?_, h2⟩
    rw [List.getElem?_append_right (by rw [← h.len]; exact z), ← h.len]
    exact h1
theorem BdsAt.one {H : Hp} {p : Addr} {b : Bd Str} (h : BdAt H p b) : BdsAt H [p] [b] := ⟨rfl, fun i q e => by
  cases i with
  | zero =>
    cases e
    exact ⟨b, rfl, h⟩
  | succ i => simp at e⟩
theorem take_fold {β γ : Type} {f : γ → β → γ} {a : γ} {l : List β} {i : Nat} {x : β} (h : l[i]? = some x) : (l.take (i + 1)).foldl f a = f ((l.take i).foldl f a) x := by
  rw [List.take_add_one, h, List.foldl_append]
  rfl
theorem map_ref {ps : List Addr} {i : Nat} {x : V} (h : (ps.map V.ref)[i]? = some x) : ∃ p, ps[i]? = some p ∧ x = .ref p := by
  rw [List.getElem?_map] at h
  cases e : ps[i]? with
  | none =>
    rw [e] at h
    cases h
  | some p =>
    rw [e] at h
    exact ⟨p, rfl, (Option.some.inj h).symm⟩
theorem tup_upd {H : Hp} {a : Addr} {o o' : HO} (h : H a = some o) (hn : ∀ xs, o ≠ .tup xs) : ∀ b xs, H b = some (.tup xs) → upd H a o' b = some (.tup xs) := fun b xs e => by
  rw [upd_ne (ne_of e h fun z => hn xs z.symm)]
  exact e
theorem up_int {f : Str → Int} {n : Str} {x : Int} : up (fun n => V.int (f n)) n (.int x) = fun m => V.int (up f n x m) := by
  funext m
  unfold up
  split <;> rfl
theorem up_ref {f : Str → Addr} {n : Str} {x : Addr} : up (fun n => V.ref (f n)) n (.ref x) = fun m => V.ref (up f n x m) := by
  funext m
  unfold up
  split <;> rfl
/-- the dict of values and the dict of causes, all else as at the start -/
structure VC (H0 H : Hp) (va ca : Addr) (cs : List Str) (f : Str → Int) (cs' : List Str) (cau : Str → Bd Str) : Prop where
  same : Same H0 H
  vals : H va = some (dS (zz :: cs) fun n => .int (f n))
  caus : CauAt H ca cs' cau
  ne : va ≠ ca
  nv : H0 va = none
  nc : H0 ca = none
section
variable {H0 H : Hp} {va ca : Addr} {cs : List Str} {f : Str → Int} {cs' : List Str} {cau : Str → Bd Str}
theorem VC.setv {ks : List Str} {g : Str → Int} (V : VC H0 H va ca cs f cs' cau) : VC H0 (upd H va (dS (zz :: ks) fun n => .int (g n))) va ca ks g cs' cau := by
  obtain ⟨adr, h1, h2⟩ := V.caus
  refine ⟨same_upd2 V.same V.nv, upd_same, ⟨adr, ?_, fun n hn => ?_⟩, V.ne, V.nv, V.nc⟩
  · rw [upd_ne V.ne.symm]
    exact h1
  · exact tup_upd V.vals (fun xs z => nomatch z) _ _ (h2 n hn)
theorem VC.fresh {T : Addr} {o : HO} (V : VC H0 H va ca cs f cs' cau) (hT : H T = none) : VC H0 (upd H T o) va ca cs f cs' cau := by
  obtain ⟨adr, h1, h2⟩ := V.caus
  refine ⟨same_upd2 V.same (V.same.free hT), by rw [upd_ne (ne_of_none V.vals hT)]; exact V.vals, ⟨adr, by rw [upd_ne (ne_of_none h1 hT)]; exact h1, fun n hn => ?_⟩, V.ne, V.nv, V.nc⟩
  unfold BdAt
  rw [upd_ne (ne_of_none (h2 n hn) hT)]
  exact h2 n hn
theorem VC.put {p : Addr} {b : Bd Str} {n : Str} (V : VC H0 H va ca cs f cs' cau) (hp : BdAt H p b) (hl : cs'.length < 10000) :
    ∃ H', DPut H ca (.str n) (.ref p) H' ∧ VC H0 H' va ca cs f (if n ∈ cs' then cs' else cs' ++ [n]) (up cau n b) ∧ ∀ b o, H b = some o → b ≠ ca → H' b = some o := by
  obtain ⟨adr, h1, h2⟩ := V.caus
  have hz : cs'.length < sizeLine := by
    rw [sizeLine_eq]
    omega
  have key : ∀ ks : List Str, (∀ m ∈ ks, m = n ∨ m ∈ cs') → VC H0 (upd H ca (dS ks (up (fun n => .ref (adr n)) n (.ref p)))) va ca cs f ks (up cau n b) := fun ks hk => by
    refine ⟨same_upd2 V.same V.nc, by rw [upd_ne V.ne]; exact V.vals, ⟨up adr n p, by rw [upd_same, up_ref], fun m hm => ?_⟩, V.ne, V.nv, V.nc⟩
    by_cases e : m = n
    · rw [e, up_same, up_same]
      exact tup_upd h1 (fun xs z => nomatch z) _ _ hp
    · rw [up_ne e, up_ne e]
      exact tup_upd h1 (fun xs z => nomatch z) _ _ (h2 m ((hk m hm).resolve_left e))
  by_cases hn : n ∈ cs'
  · rw [if_pos hn]
    exact ⟨_, dS_put h1 hn hz, key cs' fun m hm => .inr hm, fun b o e hb => by rw [upd_ne hb]; exact e⟩
  · rw [if_neg hn]
    refine ⟨_, dS_new h1 hn hz, key _ fun m hm => ?_, fun b o e hb => by rw [upd_ne hb]; exact e⟩
    rcases List.mem_append.mp hm with q | q
    · exact .inr q
    · exact .inl (List.mem_singleton.mp q)
end
def oS : Option Str → V
  | none => .non
  | some x => .str x
/-- what solve_bounds gives out: the least values and None, or None and some ring -/
def spSolve : Sp := fun vs H Q _ => ∃ t ps bs, vs = [.ref t] ∧ H t = some (.tup (ps.map V.ref)) ∧ BdsAt H ps bs ∧ (∀ b ∈ bs, b.u ≠ b.v) ∧ bs.length ≤ 400 ∧
  (∀ r d H' y m, Same H H' → H' r = some (.tup [.ref d, y]) → H' d = some (dS (collect zz bs) fun n => .int (m n)) → Least zz bs m → Q (.ref r) H') ∧
  (∀ r y H', Same H H' → H' r = some (.tup [.non, y]) → ¬ Feas zz bs → Q (.ref r) H')
section
variable {P : Program} {w : World} {K : PySem.W.Frag} {mg : Str → Option Value} {base : Heap}
theorem scSolve : FnScope ["bounds", "values", "causes", "u", "v", "c", "name", "lows", "turn", "last", "bound"] ["bounds"] (defScope sSolve) := ⟨rfl, rfl, rfl, by decide +kernel, rfl, by decide +kernel, by decide +kernel⟩
theorem ok_solve {f f1 : Addr} {fd fd1 : FuncData} (F : Fun K "solve_bounds" "solve_bounds" sSolve f fd) (T : Blt mg) (D1 : Df K mg "ring_from" sRing ["causes", "name"] f1 fd1) : FnOk P w K mg base CX0 2 f fd ["bounds"] spSolve := by
  have G1 : FnOk P w K mg base CX0 1 f1 fd1 ["causes", "name"] spRing := ok_ring D1.F T
  refine F.ok scSolve (fun vs H Q E h => ?_) (fun cdv A outer s H vs Q E hr h => ?_)
  · obtain ⟨t, ps, bs, rfl, _⟩ := h
    rfl
  · obtain ⟨t, ps, bs, rfl, ht, hb, hne, hl, qy, qn⟩ := h
    have hu := hu_of hr
    have nd := scSolve.nd
    refine ⟨_, pss_cons (ps_par (i := 1) (j := 2) rfl nd rfl rfl (by decide) rfl rfl (pa_cons (pe_disp (pps_cons pe_str pe_int pps_nil) (by rfl) (by rfl) (fun z => by cases z) (by decide)) (pa_cons pe_dnewK pa_nil)) (by rfl))
      (pss_cons (ps_for PassesOwn.never rfl (pi_tup (pv 0)) (pg_tup rfl (pgs_cons (pg_name (i := 3) nd rfl (.inl rfl)) (pgs_cons (pg_name (i := 4) nd rfl (.inl rfl)) (pgs_cons (pg_name (i := 5) nd rfl (.inl rfl)) pgs_nil))))
        (pss_one (ps_for PassesOwn.never rfl (pi_tup (pe_tup (pa_cons (pv 3) (pa_cons (pv 4) pa_nil)))) (pg_name (i := 6) nd rfl (.inl rfl))
          (pss_one (ps_if (pt_cmp (pc_dnotin hu (pv 6) (pv 1)))
            (pss_cons (ps_dput hu (pv 1) (pv 6) pe_int rfl) (pss_one (ps_dput hu (pv 2) (pv 6) (pe_tup (pa_cons pe_str (pa_cons (pv 6) (pa_cons pe_int pa_nil)))) rfl))) pss_nil)))))
      (pss_cons (ps_lock (ps_setLc (i := 7) (own := [("name", 6)]) (g := gName 6) (tt := tYes) rfl nd rfl rfl (sw_true rfl rfl rfl (by decide +kernel)) (pi_keys (pv 2)) (blkOk_by (N := ["bounds", "values", "causes", "u", "v", "c", "name", "lows", "turn", "last", "bound"]) (sc := defScope sSolve) (by decide +kernel))
        (fun _ _ _ _ _ => pg_name (i := 6) nd rfl (Or.inl rfl)) (fun _ _ _ _ _ => pts_nil) (fun _ _ _ _ _ => pe_tup (pa_cons pe_str (pa_cons (pv 6) (pa_cons pe_int pa_nil))))))
      (pss_cons (ps_for PassesOwn.never rfl (pi_range1 rfl T.range (pa_cons (pe_callB call_lenD (by rfl) T.len PySem.boot_len (pa_cons (pv 1) pa_nil)) pa_nil)) (pg_name (i := 8) nd rfl (.inl rfl))
        (pss_cons (ps_set (i := 9) nd rfl (Or.inl rfl) pe_non)
        (pss_cons (ps_for PassesOwn.never rfl (pi_list (pe_op op_cat (pv 7) (pe_callTy call_list_of (by rfl) T.list (by decide +kernel) (pa_cons (pv 0) pa_nil)))) (pg_name (i := 10) nd rfl (.inl rfl))
          (pss_cons (ps_asg (pv 10) (pg_tup rfl (pgs_cons (pg_name (i := 3) nd rfl (.inl rfl)) (pgs_cons (pg_name (i := 4) nd rfl (.inl rfl)) (pgs_cons (pg_name (i := 5) nd rfl (.inl rfl)) pgs_nil)))))
          (pss_one (ps_if (pt_cmpR op_gt (pe_op op_sub (pe_dget hu (pv 1) (pv 3) (fun _ _ => rfl)) (pv 5)) (pe_dget hu (pv 1) (pv 4) (fun _ _ => rfl)) (nomark _))
            (pss_cons (ps_dput hu (pv 1) (pv 4) (pe_op op_sub (pe_dget hu (pv 1) (pv 3) (fun _ _ => rfl)) (pv 5)) rfl)
            (pss_cons (ps_dput hu (pv 2) (pv 4) (pv 10) rfl)
            (pss_one (ps_set (i := 9) nd rfl (Or.inl rfl) (pv 4))))) pss_nil))))
        (pss_one (ps_if (pt_cmp (pc_isN (pv 9))) (pss_cons (ps_ddel (pv 1) pe_str) (pss_one (ps_ret (pe_tup (pa_cons (pv 1) (pa_cons pe_non pa_nil)))))) pss_nil)))))
      (pss_one (ps_ret (pe_tup (pa_cons pe_non (pa_cons (pe_call G1 hr rfl D1.m D1.F.kp D1.b .nil pass0 (pa_cons (pv 2) (pa_cons (pv 9) pa_nil))) pa_nil)))))))), ?_⟩
    intro va hva
    refine ⟨upd_same, [(kS zz, .int 0)], rfl, by decide, fun ca hca => ⟨_, _, rfl, ?_⟩⟩
    have n1 : va ≠ ca := fun e => by
      rw [← e, upd_same] at hca
      cases hca
    have hc0 : H ca = none := by
      rw [upd_ne n1.symm, upd_ne n1.symm] at hca
      exact hca
    have V0 : VC H (upd (upd (upd H va (.dK [])) va (.dK (mergeK [] [(kS zz, .int 0)]))) ca (.dK [])) va ca [] (fun _ => 0) [] (fun n => ⟨zz, n, 0⟩) :=
      ⟨same_upd2 (same_upd2 (same_upd hva) hva) hc0, by rw [upd_ne n1, upd_same]; rfl, ⟨fun _ => 0, upd_same, fun n hn => nomatch hn⟩, n1, hva, hc0⟩
    generalize (upd (upd (upd H va (.dK [])) va (.dK (mergeK [] [(kS zz, .int 0)]))) ca (.dK [])) = H1 at V0
    have hl2 : ∀ i, ((bs.take i).foldl (addns zz) []).length ≤ 800 := fun i => by
      have h1 := (fold_addns (z := zz) (bs.take i) [] List.nodup_nil).2.1
      rw [List.length_nil, Nat.zero_add, List.length_take] at h1
      omega
    refine ⟨_, rfl, t, rfl, ⟨_, SqT.of (V0.same _ _ ht)⟩, for_tup (K := K) (a := t) (xs := ps.map V.ref) (fun i σ H2 => ∃ u v c nm, σ = [some (.ref t), some (.ref va), some (.ref ca), u, v, c, nm, none, none, none, none] ∧ VC H H2 va ca ((bs.take i).foldl (addns zz) []) (fun _ => 0) ((bs.take i).foldl (addns zz) []) (fun n => ⟨zz, n, 0⟩))
      ⟨none, none, none, none, rfl, V0⟩ (fun i σ H2 _ ⟨_, _, _, _, _, Z⟩ => SqT.of (Z.same _ _ ht)) ?_ ?_⟩
    · rintro i x σ H2 hi ⟨u, v, c, nm, rfl, Z⟩
      obtain ⟨p, hp, rfl⟩ := map_ref hi
      obtain ⟨b, hbi, hbp⟩ := hb.at_ i p hp
      rw [take_fold hbi]
      have hcl := hl2 i
      generalize (bs.take i).foldl (addns zz) [] = cs at Z hcl
      refine ⟨p, _, rfl, SqT.of (Z.same _ _ hbp), rfl, _, _, rfl, _, _, rfl, _, _, rfl, rfl, ?_⟩
      refine ⟨_, rfl, _, rfl, by show 2 ≤ sizeLine; decide, fun T hT => ⟨T, rfl, ⟨_, SqT.of upd_same⟩, ?_⟩⟩
      have V2 := Z.fresh (o := .tup [.str b.u, .str b.v]) hT
      have T2 : upd H2 T (.tup [.str b.u, .str b.v]) T = some (.tup [.str b.u, .str b.v]) := upd_same
      generalize upd H2 T (.tup [.str b.u, .str b.v]) = H3 at V2 T2
      refine for_tup (K := K) (a := T) (xs := [.str b.u, .str b.v]) (fun j σ H4 => ∃ nm, σ = [some (.ref t), some (.ref va), some (.ref ca), some (.str b.u), some (.str b.v), some (.int b.c), nm, none, none, none, none] ∧ H4 T = some (.tup [.str b.u, .str b.v]) ∧
          VC H H4 va ca (([b.u, b.v].take j).foldl (addn zz) cs) (fun _ => 0) (([b.u, b.v].take j).foldl (addn zz) cs) (fun n => ⟨zz, n, 0⟩))
        ⟨_, rfl, T2, V2⟩ (fun j σ H4 _ ⟨_, _, h, _⟩ => SqT.of h) ?_ ?_
      · rintro j y σ H4 hj ⟨nm4, rfl, T4, V4⟩
        obtain ⟨n, hn, rfl⟩ : ∃ n, [b.u, b.v][j]? = some n ∧ y = V.str n := by
          match j, hj with
          | 0, hj => exact ⟨_, rfl, (Option.some.inj hj).symm⟩
          | 1, hj => exact ⟨_, rfl, (Option.some.inj hj).symm⟩
        rw [take_fold hn]
        have hcl2 : (([b.u, b.v].take j).foldl (addn zz) cs).length ≤ 900 := by
          have a1 := len_addn (z := zz) (cs := cs) (n := b.u)
          match j, hj with
          | 0, hj =>
            show cs.length ≤ 900
            omega
          | 1, hj =>
            show (addn zz cs b.u).length ≤ 900
            omega
        generalize ([b.u, b.v].take j).foldl (addn zz) cs = cj at V4 hcl2
        refine ⟨_, rfl, _, rfl, va, ?_⟩
        by_cases hm : n ∈ zz :: cj
        · refine ⟨_, rfl, dS_get V4.vals hm, _, rfl, iteF ⟨_, rfl, T4, ?_⟩⟩
          have e : addn zz cj n = cj := if_pos (List.mem_cons.mp hm)
          rw [e]
          exact V4
        · refine ⟨_, rfl, dS_no V4.vals hm, _, rfl, iteT ?_⟩
          have hm2 : n ≠ zz ∧ n ∉ cj := ⟨fun e => hm (by rw [e]; exact List.mem_cons_self), fun e => hm (List.mem_cons_of_mem _ e)⟩
          have e : addn zz cj n = cj ++ [n] := if_neg fun q => q.elim hm2.1 hm2.2
          rw [e]
          refine ⟨_, rfl, _, rfl, va, _, rfl, dS_new V4.vals hm (by rw [sizeLine_eq, List.length_cons]; omega), ?_⟩
          have e2 : up (fun n => V.int (0 : Int)) n (.int 0) = fun _ => V.int 0 := by
            funext m
            unfold up
            split <;> rfl
          rw [e2]
          have V5 : VC H (upd H4 va (dS (zz :: cj ++ [n]) fun _ => .int 0)) va ca (cj ++ [n]) (fun _ => 0) cj (fun n => ⟨zz, n, 0⟩) := V4.setv
          have T5 := tup_upd (o' := dS (zz :: cj ++ [n]) fun _ => .int 0) V4.vals (fun xs z => nomatch z) _ _ T4
          refine ⟨_, rfl, by show 3 ≤ sizeLine; decide, fun p2 hp2 => ?_⟩
          generalize upd H4 va (dS (zz :: cj ++ [n]) fun _ => V.int 0) = H5 at V5 T5 hp2
          have V6 := V5.fresh (o := .tup [.str zz, .str n, .int 0]) hp2
          have T6 : upd H5 p2 (.tup [.str zz, .str n, .int 0]) T = some (.tup [.str b.u, .str b.v]) := by
            rw [upd_ne (ne_of_none T5 hp2)]
            exact T5
          have P6 : BdAt (upd H5 p2 (.tup [.str zz, .str n, .int 0])) p2 ⟨zz, n, 0⟩ := upd_same
          generalize upd H5 p2 (.tup [.str zz, .str n, .int 0]) = H6 at V6 T6 P6
          obtain ⟨H7, q7, V7, k7⟩ := V6.put (n := n) P6 (by omega)
          have Tca : T ≠ ca := by
            obtain ⟨_, h1, _⟩ := V6.caus
            exact ne_of T6 h1 fun z => nomatch z
          refine ⟨_, rfl, _, rfl, ca, H7, rfl, q7, ⟨_, rfl, k7 _ _ T6 Tca, ?_⟩⟩
          rw [if_neg hm2.2] at V7
          have e7 : up (fun n => (⟨zz, n, 0⟩ : Bd Str)) n ⟨zz, n, 0⟩ = fun n => ⟨zz, n, 0⟩ := by
            funext m
            unfold up
            split
            · rename_i e
              rw [e]
            · rfl
          rw [e7] at V7
          exact V7
      · rintro σ H4 ⟨nm4, rfl, _, V4⟩
        exact ⟨_, _, _, _, rfl, V4⟩
    · have e0 : (bs.take (ps.map V.ref).length).foldl (addns zz) [] = collect zz bs := by
        rw [List.length_map, hb.len, List.take_length]
        rfl
      rw [e0]
      have hcl : (collect zz bs).length ≤ 800 := by
        have := collect_len zz bs
        omega
      rintro σ H2 ⟨u, v, c, nm, rfl, Z⟩
      clear hl2
      generalize hcs : collect zz bs = cs at Z hcl
      obtain ⟨adr, hca2, hadr⟩ := Z.caus
      refine ⟨ca, _, hca2, True.intro, fun od => ?_⟩
      have hcaf : upd H2 ca (.frz od (dS cs fun n => .ref (adr n))) ca = some (.frz od (dS cs fun n => .ref (adr n))) := upd_same
      refine ⟨_, rfl, ca, od, rfl, .inl ⟨_, hcaf, fun L hL => ?_⟩⟩
      have hcaL : ca ≠ L := ne_of_none hcaf hL
      have hL2 : H2 L = none := by
        rw [upd_ne hcaL.symm] at hL
        exact hL
      refine lc_it walk_keys (fun i H3 => ∃ lp, H3 ca = some (.frz od (dS cs fun n => .ref (adr n))) ∧ H3 L = some (.lst (lp.map V.ref)) ∧ (∀ b o, H2 b = some o → b ≠ ca → H3 b = some o) ∧ BdsAt H3 lp (lows zz (cs.take i)))
        ⟨[], ?_, upd_same, ?_, BdsAt.nil⟩ (fun i H3 _ ⟨_, h, _⟩ => h) ?_ ?_
      · rw [upd_ne (ne_of_none hcaf hL)]
        exact hcaf
      · intro b o e hb2
        have e2 : upd H2 ca (.frz od (dS cs fun n => .ref (adr n))) b = some o := by
          rw [upd_ne hb2]
          exact e
        rw [upd_ne (ne_of_none e2 hL)]
        exact e2
      · rintro i y H3 H4 hi ⟨lp, c3, l3, k3, b3⟩ ⟨rfl, k, v2, hk, rfl⟩
        rw [dct_at] at hk
        obtain ⟨n, hn, hkn⟩ := Option.map_eq_some_iff.mp hk
        cases hkn
        refine ⟨rfl, _, rfl, by show 3 ≤ sizeLine; decide, fun p hp => ⟨_, by rw [upd_ne (ne_of_none l3 hp)]; exact l3, ?_, lp ++ [p], ?_, ?_, ?_, ?_⟩⟩
        · rw [List.length_map, b3.len]
          unfold lows
          rw [List.length_map, List.length_take, sizeLine_eq]
          omega
        · rw [upd_ne hcaL, upd_ne (ne_of_none c3 hp)]
          exact c3
        · rw [upd_same, List.map_append]
          rfl
        · intro b o e hb2
          have e4 := k3 b o e hb2
          rw [upd_ne (ne_of_none e hL2), upd_ne (ne_of_none e4 hp)]
          exact e4
        · have e1 : lows zz (cs.take (i + 1)) = lows zz (cs.take i) ++ [⟨zz, n, 0⟩] := by
            unfold lows
            rw [List.take_add_one, hn, List.map_append]
            rfl
          rw [e1]
          refine BdsAt.append (b3.same fun b xs e => ?_) (BdsAt.one ?_)
          · rw [upd_ne (ne_of e l3 fun z => nomatch z), upd_ne (ne_of_none e hp)]
            exact e
          · show upd (upd H4 p _) L _ p = _
            rw [upd_ne fun z => (by rw [z, l3] at hp; cases hp)]
            exact upd_same
      · rintro H3 ⟨lp, c3, l3, k3, b3⟩
        have e3 : cs.take (dct kS cs fun n => V.ref (adr n)).length = cs := by rw [dct_len, List.take_length]
        rw [e3] at b3
        refine ⟨c3, ?_⟩
        have neL : ∀ b o, H2 b = some o → b ≠ L := fun b o e => ne_of_none e hL2
        have V3 : VC H (upd H3 ca (dS cs fun n => .ref (adr n))) va ca cs (fun _ => 0) cs (fun n => ⟨zz, n, 0⟩) := by
          refine ⟨fun b o e => ?_, ?_, ⟨adr, upd_same, fun n hn => ?_⟩, Z.ne, Z.nv, Z.nc⟩
          · have hbc : b ≠ ca := ne_of_none e Z.nc
            rw [upd_ne hbc]
            exact k3 b o (Z.same b o e) hbc
          · rw [upd_ne Z.ne]
            exact k3 _ _ Z.vals Z.ne
          · have ha := hadr n hn
            have hac : adr n ≠ ca := ne_of ha hca2 fun z => nomatch z
            unfold BdAt
            rw [upd_ne hac]
            exact k3 _ _ ha hac
        have b4 : BdsAt (upd H3 ca (dS cs fun n => .ref (adr n))) lp (lows zz cs) := b3.same (tup_upd c3 fun xs z => nomatch z)
        have l4 : upd H3 ca (dS cs fun n => .ref (adr n)) L = some (.lst (lp.map V.ref)) := by
          rw [upd_ne hcaL.symm]
          exact l3
        generalize upd H3 ca (dS cs fun n => .ref (adr n)) = H4 at V3 b4 l4
        have hk := all_bds (z := zz) hne
        have hk1 : ∀ b ∈ bs, b.u ∈ zz :: collect zz bs ∧ b.v ∈ zz :: collect zz bs := fun b hb => ⟨(hk b (List.mem_append_right _ hb)).1, (hk b (List.mem_append_right _ hb)).2.1⟩
        have hnd := collect_nodup zz bs
        rw [hcs] at hk hk1 hnd
        have hlen : (dct kS (zz :: cs) fun n => V.int ((fun _ => (0 : Int)) n)).length = cs.length + 1 := by rw [dct_len]; rfl
        refine ⟨_, rfl, va, _, rfl, V3.vals, _, rfl, by rw [hlen]; omega, by rw [hlen]; omega, ?_⟩
        refine for_range (lo := 0) (n := (dct kS (zz :: cs) fun n => V.int ((fun _ => (0 : Int)) n)).length) (fun r σ H5 => ∃ u v c nm tn ls bd, σ = [some (.ref t), some (.ref va), some (.ref ca), u, v, c, nm, some (.ref L), tn, ls, bd] ∧
          VC H H5 va ca cs (runs (lows zz cs ++ bs) (start0 zz cs) r).f (runs (lows zz cs ++ bs) (start0 zz cs) r).cs (runs (lows zz cs ++ bs) (start0 zz cs) r).cau ∧ BdsAt H5 lp (lows zz cs) ∧ H5 L = some (.lst (lp.map V.ref)) ∧
          (r ≠ 0 → ls = some (oS (runs (lows zz cs ++ bs) (start0 zz cs) r).last)) ∧ ∀ q, q < r → (runs (lows zz cs ++ bs) (start0 zz cs) (q + 1)).last ≠ none)
          ⟨_, _, _, _, _, _, _, rfl, V3, b4, l4, fun z => absurd rfl z, fun q z => absurd z (Nat.not_lt_zero _)⟩ ?_ ?_
        · rintro r σ H5 hr5 ⟨u5, v5, c5, nm5, tn5, ls5, bd5, rfl, V5, b5, l5, s5, q5⟩
          rw [hlen] at hr5
          have b5' : BdsAt H5 ps bs := hb.same fun b xs e => V5.same _ _ e
          refine ⟨_, rfl, _, rfl, t, _, rfl, .inr (SqT.of (V5.same _ _ ht)), fun M1 hM1 => ⟨L, M1, _, _, rfl, rfl, by rw [upd_ne (ne_of_none l5 hM1)]; exact l5, upd_same, ?_, fun M hM => ⟨M, rfl, ⟨_, SqL.of upd_same⟩, ?_⟩⟩⟩
          · rw [List.length_map, List.length_map, b5.len, hb.len, sizeLine_eq]
            unfold lows
            rw [List.length_map]
            omega
          have V6 := (V5.fresh (o := .lst (ps.map V.ref)) hM1).fresh (o := .lst (lp.map V.ref ++ ps.map V.ref)) hM
          have kp : ∀ b o, H5 b = some o → upd (upd H5 M1 (.lst (ps.map V.ref))) M (.lst (lp.map V.ref ++ ps.map V.ref)) b = some o := (same_upd hM1).trans (same_upd hM)
          have m6 : upd (upd H5 M1 (.lst (ps.map V.ref))) M (.lst (lp.map V.ref ++ ps.map V.ref)) M = some (.lst ((lp ++ ps).map V.ref)) := by
            rw [upd_same, List.map_append]
          have all6 : BdsAt (upd (upd H5 M1 (.lst (ps.map V.ref))) M (.lst (lp.map V.ref ++ ps.map V.ref))) (lp ++ ps) (lows zz cs ++ bs) := (b5.append b5').same fun b xs e => kp _ _ e
          have b6 : BdsAt (upd (upd H5 M1 (.lst (ps.map V.ref))) M (.lst (lp.map V.ref ++ ps.map V.ref))) lp (lows zz cs) := b5.same fun b xs e => kp _ _ e
          have l6 := kp _ _ l5
          generalize upd (upd H5 M1 (.lst (ps.map V.ref))) M (.lst (lp.map V.ref ++ ps.map V.ref)) = H6 at V6 m6 all6 b6 l6
          have ok0 : (runs (lows zz cs ++ bs) (start0 zz cs) r).cs.Nodup ∧ ∀ n ∈ (runs (lows zz cs ++ bs) (start0 zz cs) r).cs, n ∈ zz :: cs := cs_runs ⟨hnd, fun n hn => List.mem_cons_of_mem _ hn⟩ (fun b hb => (hk b hb).2.1) r
          have eR : runs (lows zz cs ++ bs) (start0 zz cs) (r + 1) = (lows zz cs ++ bs).foldl (relax (r + 1)) { runs (lows zz cs ++ bs) (start0 zz cs) r with last := none } := rfl
          rw [eR]
          generalize hS : ({ runs (lows zz cs ++ bs) (start0 zz cs) r with last := none } : BF Str) = S
          have V6 : VC H H6 va ca cs S.f S.cs S.cau := by
            rw [← hS]
            exact V6
          have ok0 : S.cs.Nodup ∧ ∀ n ∈ S.cs, n ∈ zz :: cs := by
            rw [← hS]
            exact ok0
          have sl : S.last = none := by rw [← hS]
          clear eR b5 l5
          refine for_list (K := K) (a := M) (xs := (lp ++ ps).map V.ref) (fun i σ H7 => ∃ u v c bd, σ = [some (.ref t), some (.ref va), some (.ref ca), u, v, c, nm5, some (.ref L), some (.int (0 + (r : Nat))), some (oS (((lows zz cs ++ bs).take i).foldl (relax (r + 1)) S).last), bd] ∧
            VC H H7 va ca cs (((lows zz cs ++ bs).take i).foldl (relax (r + 1)) S).f (((lows zz cs ++ bs).take i).foldl (relax (r + 1)) S).cs (((lows zz cs ++ bs).take i).foldl (relax (r + 1)) S).cau ∧
            BdsAt H7 (lp ++ ps) (lows zz cs ++ bs) ∧ BdsAt H7 lp (lows zz cs) ∧ H7 L = some (.lst (lp.map V.ref)) ∧ H7 M = some (.lst ((lp ++ ps).map V.ref)))
            ⟨_, _, _, _, by rw [show (((lows zz cs ++ bs).take 0).foldl (relax (r + 1)) S) = S from rfl, sl]; rfl, V6, all6, b6, l6, m6⟩ (fun i σ H7 _ ⟨_, _, _, _, _, _, _, _, _, h⟩ => SqL.of h) ?_ ?_
          · rintro i x σ H7 hi ⟨u7, v7, c7, bd7, rfl, V7, all7, b7, l7, m7⟩
            obtain ⟨p, hp, rfl⟩ := map_ref hi
            obtain ⟨b, hbi, hbp⟩ := all7.at_ i p hp
            obtain ⟨hbu, hbv, hbn⟩ := hk b (List.mem_of_getElem? hbi)
            have ok7 := cs_fold (r := r + 1) ((lows zz cs ++ bs).take i) ok0 fun b hb => (hk b (List.mem_of_mem_take hb)).2.1
            rw [take_fold hbi]
            generalize ((lows zz cs ++ bs).take i).foldl (relax (r + 1)) S = R at V7 ok7
            have len7 : R.cs.length < 10000 := by
              have := nodup_len R.cs (zz :: cs) ok7.1 ok7.2
              rw [List.length_cons] at this
              omega
            refine ⟨_, rfl, p, _, rfl, SqT.of hbp, rfl, _, _, rfl, _, _, rfl, _, _, rfl, rfl, ?_⟩
            refine ⟨_, rfl, _, rfl, va, _, rfl, dS_get V7.vals hbu, _, rfl, _, _, rfl, rfl, _, rfl, _, rfl, va, _, rfl, dS_get V7.vals hbv, _, _, rfl, rfl, _, rfl, ?_⟩
            by_cases hq : R.f b.v < R.f b.u - b.c
            · refine ite_d hq ?_
              have eX : relax (r + 1) R b = ⟨up R.f b.v (R.f b.u - b.c), if b.v ∈ R.cs then R.cs else R.cs ++ [b.v], up R.cau b.v b, some b.v, up R.rnd b.v (r + 1)⟩ := if_pos hq
              rw [eX]
              refine ⟨_, rfl, _, rfl, va, _, rfl, dS_get V7.vals hbu, _, rfl, _, _, rfl, rfl, _, rfl, _, rfl, va, _, rfl, dS_put V7.vals hbv (by rw [sizeLine_eq, List.length_cons]; omega), ?_⟩
              rw [up_int]
              have V8 : VC H (upd H7 va (dS (zz :: cs) fun n => .int (up R.f b.v (R.f b.u - b.c) n))) va ca cs (up R.f b.v (R.f b.u - b.c)) R.cs R.cau := V7.setv
              have k8 : ∀ b' o, H7 b' = some o → b' ≠ va → upd H7 va (dS (zz :: cs) fun n => .int (up R.f b.v (R.f b.u - b.c) n)) b' = some o := fun b' o e z => by
                rw [upd_ne z]
                exact e
              have nva : ∀ b' xs, H7 b' = some (.tup xs) → b' ≠ va := fun b' xs e => ne_of e V7.vals fun z => nomatch z
              have nvl : ∀ b' xs, H7 b' = some (.lst xs) → b' ≠ va := fun b' xs e => ne_of e V7.vals fun z => nomatch z
              generalize upd H7 va (dS (zz :: cs) fun n => .int (up R.f b.v (R.f b.u - b.c) n)) = H8 at V8 k8
              have hbp8 : BdAt H8 p b := k8 _ _ hbp (nva _ _ hbp)
              obtain ⟨H9, q9, V9, k9⟩ := V8.put (n := b.v) hbp8 len7
              obtain ⟨_, hc8, _⟩ := V8.caus
              have nct : ∀ b' xs, H8 b' = some (.tup xs) → b' ≠ ca := fun b' xs e => ne_of e hc8 fun z => nomatch z
              have ncl : ∀ b' xs, H8 b' = some (.lst xs) → b' ≠ ca := fun b' xs e => ne_of e hc8 fun z => nomatch z
              refine ⟨_, rfl, _, rfl, _, rfl, ca, H9, rfl, q9, _, rfl, ?_⟩
              have kt : ∀ b' xs, H7 b' = some (.tup xs) → H9 b' = some (.tup xs) := fun b' xs e => k9 _ _ (k8 _ _ e (nva _ _ e)) (nct _ xs (k8 _ _ e (nva _ _ e)))
              have kl : ∀ b' xs, H7 b' = some (.lst xs) → H9 b' = some (.lst xs) := fun b' xs e => k9 _ _ (k8 _ _ e (nvl _ _ e)) (ncl _ xs (k8 _ _ e (nvl _ _ e)))
              exact ⟨_, _, _, _, rfl, V9, all7.same kt, b7.same kt, kl _ _ l7, kl _ _ m7⟩
            · refine ite_n hq ?_
              have eX : relax (r + 1) R b = R := if_neg hq
              rw [eX]
              exact ⟨_, _, _, _, rfl, V7, all7, b7, l7, m7⟩
          · have eT : (lows zz cs ++ bs).take ((lp ++ ps).map V.ref).length = lows zz cs ++ bs := by
              rw [List.length_map, all6.len, List.take_length]
            rw [eT]
            rintro σ H7 ⟨u7, v7, c7, bd7, rfl, V7, all7, b7, l7, m7⟩
            have eR : (lows zz cs ++ bs).foldl (relax (r + 1)) S = runs (lows zz cs ++ bs) (start0 zz cs) (r + 1) := by
              rw [← hS]
              rfl
            rw [eR] at V7 ⊢
            refine ⟨_, rfl, _, rfl, ?_⟩
            cases hlast : (runs (lows zz cs ++ bs) (start0 zz cs) (r + 1)).last with
            | none =>
              refine iteT ?_
              refine ⟨_, rfl, va, _, kS zz, rfl, V7.vals, rfl, ?_, ?_⟩
              · rw [dct_get kS_inj List.mem_cons_self]
                rfl
              · have least := bf_still hk1 hlast
                rw [dct_drop kS_inj]
                have ef : (zz :: cs).filter (fun m => decide (m ≠ zz)) = cs := by
                  rw [List.filter_cons_of_neg (by simp), List.filter_eq_self]
                  intro m hm
                  refine decide_eq_true fun e => ?_
                  rw [e, ← hcs] at hm
                  exact collect_zero hm
                rw [ef]
                refine ⟨_, rfl, by show 2 ≤ sizeLine; decide, fun r1 hr1 => ?_⟩
                refine qy r1 va _ .non (runs (lows zz cs ++ bs) (start0 zz cs) (r + 1)).f (same_upd2 (same_upd2 V7.same V7.nv) ((same_upd2 V7.same V7.nv).free hr1)) upd_same ?_ least
                rw [upd_ne fun e => (by rw [← e, upd_same] at hr1; cases hr1), upd_same, hcs]
            | some v =>
              refine iteF ?_
              refine ⟨_, _, _, _, _, _, _, rfl, V7, b7, l7, fun _ => rfl, fun q hq => ?_⟩
              rcases Nat.lt_or_ge q r with z | z
              · exact q5 q z
              · have e : q = r := by omega
                rw [e, hlast]
                exact fun z => nomatch z
        · rw [hlen]
          rintro σ H5 ⟨u5, v5, c5, nm5, tn5, ls5, bd5, rfl, V5, b5, l5, s5, q5⟩
          have never := bf_never hk1 q5
          obtain ⟨v, hv⟩ : ∃ v, (runs (lows zz cs ++ bs) (start0 zz cs) (cs.length + 1)).last = some v := by
            cases e : (runs (lows zz cs ++ bs) (start0 zz cs) (cs.length + 1)).last with
            | none => exact absurd e (q5 cs.length (Nat.lt_succ_self _))
            | some v => exact ⟨v, rfl⟩
          have R := ri_runs hnd hk (cs.length + 1)
          have walk := cause_walk R hv
          have hlc : (runs (lows zz cs ++ bs) (start0 zz cs) (cs.length + 1)).cs.length ≤ 1000 := by
            have h1 := cs_runs (S := start0 zz cs) ⟨hnd, fun n hn => List.mem_cons_of_mem _ hn⟩ (fun b hb => (hk b hb).2.1) (cs.length + 1)
            have h2 := nodup_len _ (zz :: cs) h1.1 h1.2
            rw [List.length_cons] at h2
            omega
          have s5 := s5 (Nat.succ_ne_zero _)
          rw [hv] at s5
          subst s5
          refine ⟨_, rfl, _, rfl, ca, v, _, _, rfl, V5.caus, hlc, walk, fun q1 H6 s6 => ⟨by show 2 ≤ sizeLine; decide, fun r1 hr1 => ?_⟩⟩
          exact qn r1 (.ref q1) _ (same_upd2 (V5.same.trans s6) ((V5.same.trans s6).free hr1)) upd_same never
end
end K31

namespace K31
open PySem L2
/-- a bag: the digits left, the cell's mixed number, how many were mixed (at most k) -/
def Bag (H : Hp) (a : Addr) (k : Nat) : Prop := ∃ d m c : Int, H a = some (.lst [.int d, .int m, .int c]) ∧ 0 ≤ d ∧ 0 ≤ m ∧ m < 2 ^ 61 ∧ 0 ≤ c ∧ c ≤ (k : Int)
/-- all but the object at a stands as before -/
def Kp (a : Addr) (H H' : Hp) : Prop := ∀ b o, H b = some o → b ≠ a → H' b = some o
theorem Kp.refl (a : Addr) (H : Hp) : Kp a H H := fun _ _ e _ => e
theorem Kp.trans {a : Addr} {H H1 H2 : Hp} (x : Kp a H H1) (y : Kp a H1 H2) : Kp a H H2 := fun b o e n => y b o (x b o e n) n
theorem Kp.same {a : Addr} {H H1 H2 : Hp} (x : Kp a H H1) (y : Same H1 H2) : Kp a H H2 := fun b o e n => y b o (x b o e n)
theorem Same.kp {H H' : Hp} (a : Addr) (h : Same H H') : Kp a H H' := fun b o e _ => h b o e
theorem Kp.upd {a : Addr} {H H1 : Hp} {o : HO} (x : Kp a H H1) : Kp a H (upd H1 a o) := fun b u e n => by
  rw [upd_ne n]
  exact x b u e n
theorem Kp.new {a p : Addr} {H H1 : Hp} {o : HO} (x : Kp a H H1) (hp : H1 p = none) : Kp a H (L2.upd H1 p o) := fun b u e n => by
  rw [upd_ne (ne_of_none (x b u e n) hp)]
  exact x b u e n
theorem Kp.free {a p : Addr} {H H1 : Hp} (x : Kp a H H1) (hp : H1 p = none) (n : p ≠ a) : H p = none := by
  cases q : H p with
  | none => rfl
  | some o =>
    rw [x p o q n] at hp
    cases hp
theorem Bag.mono {H : Hp} {a : Addr} {j k : Nat} (h : Bag H a j) (l : j ≤ k) : Bag H a k := by
  obtain ⟨d, m, c, h1, h2, h3, h4, h5, h6⟩ := h
  exact ⟨d, m, c, h1, h2, h3, h4, h5, by omega⟩
theorem Bag.at {H H' : Hp} {a : Addr} {k : Nat} (h : Bag H a k) (e : ∀ o, H a = some o → H' a = some o) : Bag H' a k := by
  obtain ⟨d, m, c, h1, r⟩ := h
  exact ⟨d, m, c, e _ h1, r⟩
theorem Bag.new {H : Hp} {a p : Addr} {o : HO} {k : Nat} (h : Bag H a k) (hp : H p = none) : Bag (upd H p o) a k := h.at fun o e => by
  rw [upd_ne (ne_of_none e hp)]
  exact e
section
variable {P : Program} {w : World} {K : PySem.W.Frag} {mg : Str → Option Value} {base : Heap}

/-! ### _law_bag -/
def spBag (K : PySem.W.Frag) : Sp := fun vs H Q _ => ∃ (a : Addr) (ns : List Int) (i : Nat), vs = [.ref a, .int (i : Nat)] ∧ SqL K H a (ns.map V.int) ∧ ns.length ≤ 63 ∧ i ≤ 1 ∧ ∀ p H', Same H H' → H p = none → Bag H' p 0 → Q (.ref p) H'
theorem scBag : FnScope ["_law_script", "_law_at", "_law_cell", "_law_digits"] ["_law_script", "_law_at"] (defScope sBag) := ⟨rfl, rfl, rfl, by decide +kernel, rfl, by decide +kernel, by decide +kernel⟩
theorem ok_bag {f : Addr} {fd : FuncData} (F : Fun K "_law_bag" "_law_bag" sBag f fd) (T : Blt mg) : FnOk P w K mg base CX0 1 f fd ["_law_script", "_law_at"] (spBag K) := by
  refine F.ok scBag (fun vs H Q E h => ?_) (fun cdv A outer s H vs Q E hr h => ?_)
  · obtain ⟨a, ns, i, rfl, _⟩ := h
    rfl
  · obtain ⟨a, ns, i, rfl, ha, hl, hi, q⟩ := h
    have nd := scBag.nd
    refine ⟨_, pss_cons (ps_set (i := 2) nd rfl (Or.inl rfl) (pe_ifExp (pt_cmpR op_lt (pv 1) (pe_callB call_len (by rfl) T.len PySem.boot_len (pa_cons (pv 0) pa_nil)) (nomark _)) (pe_ix ix_list (pv 0) (pv 1) (fun _ _ => rfl)) pe_int))
      (pss_cons (ps_set (i := 3) nd rfl (Or.inl rfl) (pe_ifExp (pt_cmpR op_ge (pe_callB call_abs (by rfl) T.abs (by decide +kernel) (pa_cons (pv 2) pa_nil)) (pe_op op_pow pe_int pe_int) (nomark _)) (pe_callB call_abs (by rfl) T.abs (by decide +kernel) (pa_cons (pv 2) pa_nil)) pe_int))
      (pss_one (ps_ret (pe_lst (pa_cons (pv 3) (pa_cons (pe_op op_add (pe_op op_add (pe_op op_mod (pe_callTy call_int1 (by rfl) T.int (by decide +kernel) (pa_cons (pv 2) pa_nil)) pe_int) (pe_op op_mul pe_int (pv 1))) pe_int) (pa_cons pe_int pa_nil))))))), ?_⟩
    have fin : ∀ (d cell : Int) (p : Addr), 0 ≤ d → H p = none → Q (.ref p) (upd H p (.lst [.int d, .int (cell % 1152921504606846883 + 7001 * ((i : Nat) : Int) + 17), .int 0])) := fun d cell p hd hp => by
      refine q p _ (same_upd hp) hp ⟨d, _, 0, upd_same, hd, ?_, ?_, Int.le_refl _, Int.le_refl _⟩
      · have := Int.emod_nonneg cell (b := 1152921504606846883) (by decide)
        omega
      · have := Int.emod_lt_of_pos cell (b := 1152921504606846883) (by decide)
        omega
    have abs0 : ∀ x : Int, 0 ≤ (if x < 0 then -x else x) := fun x => by split <;> omega
    have pow18 : CPow 10 18 := ⟨by decide, by decide, by decide⟩
    refine ⟨_, rfl, _, rfl, _, ns.length, rfl, .inl ⟨_, ha, by simp⟩, _, _, rfl, rfl, _, rfl, ?_⟩
    refine ite2 (fun h => ?_) (fun h => ?_)
    · have hlt : i < ns.length := by
        have := of_decide_eq_true h
        omega
      refine ⟨_, rfl, _, rfl, a, _, _, .int ns[i], rfl, rfl, ha, atI_nat (by simp [hlt]), ?_⟩
      refine ⟨_, rfl, _, rfl, _, _, rfl, rfl, pow18, _, _, rfl, rfl, _, rfl, ?_⟩
      refine ite2 (fun _ => ?_) (fun _ => ?_)
      · exact ⟨_, rfl, _, rfl, _, rfl, _, rfl, .inl ⟨_, rfl, _, _, rfl, rfl, by show (0 : Int) < 1152921504606846883; decide, _, rfl, _, _, rfl, rfl, .inl ⟨by decide, by decide⟩, _, _, rfl, rfl, _, _, rfl, rfl, by show 3 ≤ sizeLine; decide, fun p hp => fin _ _ p (abs0 _) hp⟩⟩
      · exact ⟨_, rfl, _, rfl, .inl ⟨_, rfl, _, _, rfl, rfl, by show (0 : Int) < 1152921504606846883; decide, _, rfl, _, _, rfl, rfl, .inl ⟨by decide, by decide⟩, _, _, rfl, rfl, _, _, rfl, rfl, by show 3 ≤ sizeLine; decide, fun p hp => fin _ _ p (Int.le_refl _) hp⟩⟩
    · refine ⟨_, rfl, _, rfl, _, _, rfl, rfl, pow18, _, _, rfl, rfl, _, rfl, ?_⟩
      refine ite2 (fun _ => ?_) (fun _ => ?_)
      · exact ⟨_, rfl, _, rfl, _, rfl, _, rfl, .inl ⟨_, rfl, _, _, rfl, rfl, by show (0 : Int) < 1152921504606846883; decide, _, rfl, _, _, rfl, rfl, .inl ⟨by decide, by decide⟩, _, _, rfl, rfl, _, _, rfl, rfl, by show 3 ≤ sizeLine; decide, fun p hp => fin _ _ p (abs0 _) hp⟩⟩
      · exact ⟨_, rfl, _, rfl, .inl ⟨_, rfl, _, _, rfl, rfl, by show (0 : Int) < 1152921504606846883; decide, _, rfl, _, _, rfl, rfl, .inl ⟨by decide, by decide⟩, _, _, rfl, rfl, _, _, rfl, rfl, by show 3 ≤ sizeLine; decide, fun p hp => fin _ _ p (Int.le_refl _) hp⟩⟩

/-! ### _law_draw -/
def spDraw : Sp := fun vs H Q _ => ∃ (a : Addr) (n : Int) (k : Nat), vs = [.ref a, .int n] ∧ 0 < n ∧ n < 2 ^ 100 ∧ Bag H a k ∧ k ≤ 1000000 ∧ ∀ r H', 0 ≤ r → r < n → Bag H' a (k + 1) → Kp a H H' → Q (.int r) H'
theorem scDraw : FnScope ["_law_bag_here", "_law_many", "_law_digit", "_law_mixed"] ["_law_bag_here", "_law_many"] (defScope sDraw) := ⟨rfl, rfl, rfl, by decide +kernel, rfl, by decide +kernel, by decide +kernel⟩
theorem ok_draw {f : Addr} {fd : FuncData} (F : Fun K "_law_draw" "_law_draw" sDraw f fd) (T : Blt mg) : FnOk P w K mg base CX0 1 f fd ["_law_bag_here", "_law_many"] spDraw := by
  refine F.ok scDraw (fun vs H Q E h => ?_) (fun cdv A outer s H vs Q E hr h => ?_)
  · obtain ⟨a, n, k, rfl, _⟩ := h
    rfl
  · obtain ⟨a, n, k, rfl, n0, n1, ⟨d, m, c, ha, hd, hm0, hm1, hc0, hc1⟩, hk, q⟩ := h
    have nd := scDraw.nd
    refine ⟨_, pss_cons (ps_if (pt_cmpR op_gt (pe_ix ix_list (pv 0) pe_int (fun _ _ => rfl)) pe_int (nomark _))
        (pss_cons (ps_set (i := 2) nd rfl (Or.inl rfl) (pe_op op_mod (pe_callTy call_int1 (by rfl) T.int (by decide +kernel) (pa_cons (pe_ix ix_list (pv 0) pe_int (fun _ _ => rfl)) pa_nil)) (pv 1)))
        (pss_cons (ps_asg (pe_op op_fdivW (pe_ix ix_list (pv 0) pe_int (fun _ _ => rfl)) (pv 1)) (pg_sub (pv 0) pe_int set_list))
        (pss_one (ps_ret (pv 2))))) pss_nil)
      (pss_cons (ps_asg (pe_op op_add (pe_ix ix_list (pv 0) pe_int (fun _ _ => rfl)) pe_int) (pg_sub (pv 0) pe_int set_list))
      (pss_cons (ps_set (i := 3) nd rfl (Or.inl rfl) (pe_op op_add (pe_op op_pow (pe_op op_add (pe_ix ix_list (pv 0) pe_int (fun _ _ => rfl)) (pe_op op_mul pe_int (pe_ix ix_list (pv 0) pe_int (fun _ _ => rfl)))) pe_int) (pe_op op_mul pe_int (pe_ix ix_list (pv 0) pe_int (fun _ _ => rfl)))))
      (pss_cons (ps_set (i := 3) nd rfl (Or.inl rfl) (pe_op op_mod (pe_callTy call_int1 (by rfl) T.int (by decide +kernel) (pa_cons (pv 3) pa_nil)) pe_int))
      (pss_cons (ps_set (i := 3) nd rfl (Or.inl rfl) (pe_op op_mod (pe_callTy call_int1 (by rfl) T.int (by decide +kernel) (pa_cons (pe_op op_pow (pe_op op_add (pv 3) (pe_op op_mul pe_int (pe_ix ix_list (pv 0) pe_int (fun _ _ => rfl)))) pe_int) pa_nil)) pe_int))
      (pss_one (ps_ret (pe_op op_mod (pe_callTy call_int1 (by rfl) T.int (by decide +kernel) (pa_cons (pe_op op_fdiv (pv 3) pe_int) pa_nil)) (pv 1)))))))), ?_⟩
    refine ⟨_, rfl, a, _, _, _, rfl, rfl, SqL.of ha, rfl, _, _, rfl, rfl, _, rfl, ?_⟩
    refine ite2 (fun h => ?_) (fun h => ?_)
    · refine ⟨_, rfl, a, _, _, _, rfl, rfl, SqL.of ha, rfl, .inl ⟨_, rfl, _, rfl, _, _, rfl, rfl, n0, ?_⟩⟩
      refine ⟨_, rfl, a, _, _, _, rfl, rfl, SqL.of ha, rfl, _, rfl, _, _, rfl, rfl, wide_div (b := 100) n0 (by omega) (by decide) (by decide), _, rfl, a, _, _, 0, rfl, rfl, ha, rfl, ?_⟩
      refine ⟨_, rfl, ?_⟩
      exact q (d % n) _ (Int.emod_nonneg _ (by omega)) (Int.emod_lt_of_pos _ n0) ⟨d / n, m, c, upd_same, Int.ediv_nonneg hd (by omega), hm0, hm1, hc0, by omega⟩ (Kp.refl a H).upd
    · refine ⟨_, rfl, a, _, _, _, rfl, rfl, SqL.of ha, rfl, _, _, rfl, rfl, _, rfl, a, _, _, 2, rfl, rfl, ha, rfl, ?_⟩
      have h1 : upd H a (.lst ([V.int d, V.int m, V.int c].set 2 ((fun i j => V.int (i + j)) c 1))) a = some (.lst [.int d, .int m, .int (c + 1)]) := upd_same
      have k1 : Kp a H (upd H a (.lst ([V.int d, V.int m, V.int c].set 2 ((fun i j => V.int (i + j)) c 1)))) := (Kp.refl a H).upd
      generalize upd H a (.lst ([V.int d, V.int m, V.int c].set 2 ((fun i j => V.int (i + j)) c 1))) = H1 at h1 k1
      have g1 : CMul 611953 (c + 1) := .inl ⟨by decide, by decide⟩
      have g2 : CPow (m + 611953 * (c + 1)) 2 := ⟨by decide, by decide, by omega⟩
      have g3 : CMul 40503 m := .inl ⟨by decide, by decide⟩
      refine ⟨_, rfl, a, _, _, _, rfl, rfl, SqL.of h1, rfl, _, rfl, a, _, _, _, rfl, rfl, SqL.of h1, rfl, _, _, rfl, rfl, g1, _, _, rfl, rfl, _, _, rfl, rfl, g2, _, rfl, a, _, _, _, rfl, rfl, SqL.of h1, rfl, _, _, rfl, rfl, g3, _, _, rfl, rfl, ?_⟩
      refine ⟨_, rfl, .inl ⟨_, rfl, _, _, rfl, rfl, by show (0 : Int) < 1152921504606846869; decide, ?_⟩⟩
      have e1 := Int.emod_nonneg ((m + 611953 * (c + 1)) ^ (2 : Int).toNat + 40503 * m) (b := 1152921504606846869) (by decide)
      have e2 := Int.emod_lt_of_pos ((m + 611953 * (c + 1)) ^ (2 : Int).toNat + 40503 * m) (b := 1152921504606846869) (by decide)
      have g4 : CMul 15485863 (c + 1) := .inl ⟨by decide, by decide⟩
      have g5 : ∀ y : Int, 0 ≤ y → y < 1152921504606846869 → CPow (y + 15485863 * (c + 1)) 3 := fun y _ _ => ⟨by decide, by decide, by omega⟩
      refine ⟨_, rfl, _, rfl, a, _, _, _, rfl, rfl, SqL.of h1, rfl, _, _, rfl, rfl, g4, _, _, rfl, rfl, _, _, rfl, rfl, g5 _ e1 e2, .inl ⟨_, rfl, _, _, rfl, rfl, by show (0 : Int) < 2305843009213693951; decide, ?_⟩⟩
      refine ⟨_, rfl, _, _, rfl, rfl, ⟨by decide, by decide⟩, .inl ⟨_, rfl, _, rfl, _, _, rfl, rfl, n0, ?_⟩⟩
      exact q _ _ (Int.emod_nonneg _ (by omega)) (Int.emod_lt_of_pos _ n0) ⟨d, m, c + 1, h1, hd, hm0, hm1, by omega, by omega⟩ k1

/-! ### _law_of -/
def spOf : Sp := fun vs H Q _ => ∃ (a p : Addr) (xs : List V) (k : Nat), vs = [.ref a, .ref p] ∧ H p = some (.lst xs) ∧ p ≠ a ∧ xs ≠ [] ∧ xs.length ≤ 1000 ∧ Bag H a k ∧ k ≤ 1000000 ∧ ∀ (i : Nat) v H', xs[i]? = some v → Bag H' a (k + 1) → Kp a H H' → Q v H'
theorem scOf : FnScope ["_law_bag_here", "_law_some"] ["_law_bag_here", "_law_some"] (defScope sOf) := ⟨rfl, rfl, rfl, by decide +kernel, rfl, by decide +kernel, by decide +kernel⟩
theorem ok_of {f f1 : Addr} {fd fd1 : FuncData} (F : Fun K "_law_of" "_law_of" sOf f fd) (T : Blt mg) (D1 : Df K mg "_law_draw" sDraw ["_law_bag_here", "_law_many"] f1 fd1) : FnOk P w K mg base CX0 2 f fd ["_law_bag_here", "_law_some"] spOf := by
  have G1 : FnOk P w K mg base CX0 1 f1 fd1 ["_law_bag_here", "_law_many"] spDraw := ok_draw D1.F T
  refine F.ok scOf (fun vs H Q E h => ?_) (fun cdv A outer s H vs Q E hr h => ?_)
  · obtain ⟨a, p, xs, k, rfl, _⟩ := h
    rfl
  · obtain ⟨a, p, xs, k, rfl, hp, hpa, hx, hl, hb, hk, q⟩ := h
    refine ⟨_, pss_one (ps_ret (pe_ix ix_list (pv 1) (pe_call G1 hr rfl D1.m D1.F.kp D1.b .nil pass0 (pa_cons (pv 0) (pa_cons (pe_callB call_len (by rfl) T.len PySem.boot_len (pa_cons (pv 1) pa_nil)) pa_nil))) (fun _ _ => rfl))), ?_⟩
    have h0 : 0 < xs.length := List.length_pos_iff.mpr hx
    refine ⟨_, rfl, _, rfl, _, rfl, _, xs.length, rfl, .inl ⟨_, SqL.of hp, rfl⟩, a, _, k, rfl, by omega, by omega, hb, hk, fun r H' r0 r1 hb' kp => ?_⟩
    obtain ⟨j, rfl⟩ : ∃ j : Nat, r = (j : Int) := ⟨r.toNat, by omega⟩
    have hj : j < xs.length := by omega
    have hxr : xs[j]? = some xs[j] := List.getElem?_eq_getElem hj
    exact ⟨p, _, _, xs[j], rfl, rfl, SqL.of (kp _ _ hp hpa), atI_nat hxr, q j _ _ hxr hb' kp⟩

/-! ### _law_name -/
theorem joinL_ok {R : Nat → Prop} : ∀ l : List (List Nat), (∀ p ∈ l, p.length = 1 ∧ ∀ c ∈ p, R c) → (TL.joinL [] l).length = l.length ∧ ∀ c ∈ TL.joinL [] l, R c
  | [], _ => ⟨rfl, fun _ h => nomatch h⟩
  | [p], h => by
    obtain ⟨h1, h2⟩ := h p List.mem_cons_self
    exact ⟨h1, h2⟩
  | p :: q :: r, h => by
    obtain ⟨h1, h2⟩ := h p List.mem_cons_self
    obtain ⟨h3, h4⟩ := joinL_ok (q :: r) fun x hx => h x (List.mem_cons_of_mem _ hx)
    show (p ++ ([] ++ TL.joinL [] (q :: r))).length = _ ∧ ∀ c ∈ p ++ ([] ++ TL.joinL [] (q :: r)), R c
    rw [List.nil_append]
    refine ⟨by rw [List.length_append, h1, h3, List.length_cons (as := q :: r)]; omega, fun c hc => ?_⟩
    rcases List.mem_append.mp hc with z | z
    · exact h2 c z
    · exact h4 c z
theorem name_join {l : List Str} (h : ∀ p ∈ l, ∃ c, p = ⟨#[c]⟩ ∧ 97 ≤ c ∧ c ≤ 122) (h1 : 1 ≤ l.length) (h8 : l.length ≤ 8) : NameOk (Txt.join "" l) := by
  have e : (Txt.join "" l).cps.toList = TL.joinL [] (l.map fun x => x.cps.toList) := by
    rw [TL.join_eq]
    exact TL.tl_join "" l
  obtain ⟨a, b⟩ := joinL_ok (R := fun c => 97 ≤ c ∧ c ≤ 122) (l.map fun x => x.cps.toList) fun p hp => by
    obtain ⟨x, hx, rfl⟩ := List.mem_map.mp hp
    obtain ⟨c, rfl, hc⟩ := h x hx
    refine ⟨rfl, fun d hd => ?_⟩
    rw [List.mem_singleton.mp hd]
    exact hc
  rw [List.length_map] at a
  have len : (Txt.join "" l).length = l.length := by
    rw [← a, ← e]
    exact Array.length_toList.symm
  refine ⟨by rw [len]; exact h1, by rw [len]; exact h8, fun c hc => ?_⟩
  rw [e] at hc
  exact b c hc
def spName : Sp := fun vs H Q _ => ∃ (a : Addr) (k : Nat), vs = [.ref a] ∧ Bag H a k ∧ k ≤ 100000 ∧ ∀ x H', NameOk x → Bag H' a (k + 9) → Kp a H H' → Q (.str x) H'
theorem scName : FnScope ["_law_bag_here", "_law_letters", "_law_turn"] ["_law_bag_here"] (defScope sName) := ⟨rfl, rfl, rfl, by decide +kernel, rfl, by decide +kernel, by decide +kernel⟩
theorem letters_at : ∀ i : Nat, i < 26 → ∃ c, ("abcdefghijklmnopqrstuvwxyz" : Str).cps.toList[i]? = some c ∧ 97 ≤ c ∧ c ≤ 122 := by
  have h : ∀ i : Fin 26, ("abcdefghijklmnopqrstuvwxyz" : Str).cps.toList[i.val]? = some (97 + i.val) := by decide +kernel
  exact fun i hi => ⟨97 + i, h ⟨i, hi⟩, by omega, by omega⟩
theorem ok_name {f f1 : Addr} {fd fd1 : FuncData} (F : Fun K "_law_name" "_law_name" sName f fd) (T : Blt mg) (D1 : Df K mg "_law_draw" sDraw ["_law_bag_here", "_law_many"] f1 fd1) : FnOk P w K mg base CX0 2 f fd ["_law_bag_here"] spName := by
  have G1 : FnOk P w K mg base CX0 1 f1 fd1 ["_law_bag_here", "_law_many"] spDraw := ok_draw D1.F T
  refine F.ok scName (fun vs H Q E h => ?_) (fun cdv A outer s H vs Q E hr h => ?_)
  · obtain ⟨a, k, rfl, _⟩ := h
    rfl
  · obtain ⟨a, k, rfl, hb, hk, q⟩ := h
    have nd := scName.nd
    refine ⟨_, pss_cons (ps_set (i := 1) nd rfl (Or.inr rfl) pe_str)
      (pss_one (ps_ret (pe_join pe_str (pe_lc (own := [("_law_turn", 2)]) (g := gName 2) (tt := tYes) rfl nd (pi_range1 rfl T.range (pa_cons (pe_op op_add pe_int (pe_call G1 hr rfl D1.m D1.F.kp D1.b .nil pass0 (pa_cons (pv 0) (pa_cons pe_int pa_nil)))) pa_nil))
        (blkOk_by (N := ["_law_bag_here", "_law_letters", "_law_turn"]) (sc := defScope sName) (by decide +kernel)) (fun _ _ _ _ _ => pg_name (i := 2) nd rfl (Or.inl rfl)) (fun _ _ _ _ _ => pts_nil)
        (fun _ _ _ _ _ => pe_ix ix_str (pv 1) (pe_call G1 hr rfl D1.m D1.F.kp D1.b .nil pass0 (pa_cons (pv 0) (pa_cons pe_int pa_nil))) (fun _ _ => rfl)))))), ?_⟩
    refine ⟨⟨_, rfl⟩, _, rfl, a, 8, k, rfl, by decide, by decide, hb, by omega, fun r H1 r0 r1 b1 k1 => ⟨_, _, rfl, rfl, _, rfl, by omega, by omega, fun D hD => ?_⟩⟩
    have nDa : D ≠ a := fun e => by
      obtain ⟨_, _, _, h, _⟩ := b1
      rw [e, h] at hD
      cases hD
    refine lc_range (lo := 0) (n := (1 + r).toNat) (fun i H2 => ∃ l : List Str, H2 D = some (.lst (l.map V.str)) ∧ l.length = i ∧ (∀ p ∈ l, ∃ c, p = ⟨#[c]⟩ ∧ 97 ≤ c ∧ c ≤ 122) ∧ Bag H2 a (k + 1 + i) ∧ Kp a H H2) ⟨[], upd_same, rfl, (fun p hp => nomatch hp), b1.new hD, k1.new hD⟩ ?_ ?_
    · rintro i H2 hi ⟨l, l1, l2, l3, b2, k2⟩
      refine ⟨rfl, _, rfl, _, rfl, a, 26, k + 1 + i, rfl, by decide, by decide, b2, by omega, fun y H3 y0 y1 b3 k3 => ?_⟩
      obtain ⟨j, rfl⟩ : ∃ j : Nat, y = (j : Int) := ⟨y.toNat, by omega⟩
      obtain ⟨c, hc, c1, c2⟩ := letters_at j (by omega)
      refine ⟨_, _, c, rfl, rfl, by show 26 ≤ sizeLine; decide, atI_nat hc, _, k3 _ _ l1 nDa, ?_, l ++ [⟨#[c]⟩], ?_, ?_, ?_, ?_, ?_⟩
      · rw [List.length_map, l2, sizeLine_eq]
        omega
      · rw [upd_same, List.map_append]
        rfl
      · rw [List.length_append, l2]
        rfl
      · intro p hp
        rcases List.mem_append.mp hp with z | z
        · exact l3 p z
        · exact ⟨c, List.mem_singleton.mp z, c1, c2⟩
      · exact b3.at fun o e => by
          rw [upd_ne nDa.symm]
          exact e
      · exact fun b o e n => by
          have nb : b ≠ D := ne_of_none (k1 b o e n) hD
          rw [upd_ne nb]
          exact k3 b o (k2 b o e n) n
    · rintro H2 ⟨l, l1, l2, l3, b2, k2⟩
      refine ⟨_, D, l, rfl, rfl, .inl (SqL.of l1), ?_, ?_⟩
      · have hs : (l.map (·.length)).sum = l.length := by
          clear l1 l2
          induction l with
          | nil => rfl
          | cons x l ih =>
            obtain ⟨c, e, _⟩ := l3 x List.mem_cons_self
            rw [List.map_cons, List.sum_cons, ih fun p hp => l3 p (List.mem_cons_of_mem _ hp), List.length_cons, e]
            show 1 + l.length = l.length + 1
            omega
        rw [hs]
        show l.length + l.length * 0 ≤ 16777216
        omega
      · exact q _ _ (name_join l3 (by omega) (by omega)) (b2.mono (by omega)) k2
end
end K31

namespace K31
open PySem L2
theorem inV_str (n : Str) : ∀ l : List Str, inV (.str n) (l.map V.str) = decide (n ∈ l)
  | [] => rfl
  | x :: l => by
    have ih := inV_str n l
    unfold inV at ih ⊢
    rw [List.map_cons, List.any_cons, ih]
    by_cases e : x = n
    · subst e
      have h : eqV (V.str x) (V.str x) = true := beq_self_eq_true x
      rw [h, Bool.true_or]
      exact (decide_eq_true List.mem_cons_self).symm
    · have h : eqV (V.str x) (V.str n) = false := beq_eq_false_iff_ne.mpr e
      rw [h, Bool.false_or]
      by_cases m : n ∈ l
      · rw [decide_eq_true m, decide_eq_true (List.mem_cons_of_mem _ m)]
      · rw [decide_eq_false m, decide_eq_false fun z => (List.mem_cons.mp z).elim (fun z => e z.symm) m]
theorem flat_str (l : List Str) : (l.map V.str).all flatV = true := by
  rw [List.all_eq_true]
  intro x hx
  obtain ⟨y, _, rfl⟩ := List.mem_map.mp hx
  rfl
theorem map_str {l : List Str} {i : Nat} {x : V} (h : (l.map V.str)[i]? = some x) : ∃ n, l[i]? = some n ∧ x = .str n := by
  rw [List.getElem?_map] at h
  cases e : l[i]? with
  | none =>
    rw [e] at h
    cases h
  | some p =>
    rw [e] at h
    exact ⟨p, rfl, (Option.some.inj h).symm⟩
theorem cut_head (z : Str) (i : Nat) : (cutS z none (some (i : Int))).cps.toList = z.cps.toList.take (min i z.length) := by
  show (z.cps.toList.drop (HT.sIx z.length 0 none)).take (HT.sIx z.length z.length (some (i : Int)) - HT.sIx z.length 0 none) = _
  rw [HT.sIx_none, HT.sIx_nat]
  rfl
theorem cut_tail (z : Str) (i : Nat) : (cutS z (some (i : Int)) none).cps.toList = z.cps.toList.drop (min i z.length) := by
  show (z.cps.toList.drop (HT.sIx z.length 0 (some (i : Int)))).take (HT.sIx z.length z.length none - HT.sIx z.length 0 (some (i : Int))) = _
  rw [HT.sIx_none, HT.sIx_nat]
  refine List.take_of_length_le ?_
  rw [List.length_drop, Array.length_toList]
  exact Nat.le_refl _
theorem app_cps (x y : Str) : (x ++ y).cps.toList = x.cps.toList ++ y.cps.toList := by
  show (x.cps ++ y.cps).toList = _
  exact Array.toList_append
theorem len_cps (x : Str) : x.length = x.cps.toList.length := Array.length_toList.symm
theorem name_mix {x y : Str} {i : Nat} {c : Nat} (hx : NameOk x) (hy : NameOk y) (hi : i < x.length) (hc : y.cps.toList[0]? = some c) : NameOk (cutS x none (some (i : Int)) ++ ⟨#[c]⟩ ++ cutS x (some ((i : Int) + 1)) none) := by
  have e : (cutS x none (some (i : Int)) ++ ⟨#[c]⟩ ++ cutS x (some ((i : Int) + 1)) none).cps.toList = x.cps.toList.take i ++ [c] ++ x.cps.toList.drop (i + 1) := by
    have e1 : ((i : Int) + 1) = ((i + 1 : Nat) : Int) := by omega
    rw [app_cps, app_cps, cut_head, e1, cut_tail, Nat.min_eq_left (by omega), Nat.min_eq_left (by omega)]
  have hl := len_cps x
  have l : (cutS x none (some (i : Int)) ++ ⟨#[c]⟩ ++ cutS x (some ((i : Int) + 1)) none).length = x.length := by
    rw [len_cps, e, List.length_append, List.length_append, List.length_take, List.length_drop, List.length_singleton]
    omega
  refine ⟨by rw [l]; exact hx.1, by rw [l]; exact hx.2.1, fun d hd => ?_⟩
  rw [e] at hd
  rcases List.mem_append.mp hd with z | z
  · rcases List.mem_append.mp z with z | z
    · exact hx.2.2 d (List.mem_of_mem_take z)
    · rw [List.mem_singleton.mp z]
      exact hy.2.2 c (List.mem_of_getElem? hc)
  · exact hx.2.2 d (List.mem_of_mem_drop z)
section
variable {P : Program} {w : World} {K : PySem.W.Frag} {mg : Str → Option Value} {base : Heap}
/-! ### _law_names -/
def spNames : Sp := fun vs H Q _ => ∃ (a : Addr) (k : Nat), vs = [.ref a, .int 6] ∧ Bag H a k ∧ k ≤ 10000 ∧ ∀ p H' (l : List Str), H p = none → H' p = some (.lst (l.map V.str)) → l.Nodup → (∀ x ∈ l, NameOk x) → 1 ≤ l.length → l.length ≤ 6 → Bag H' a (k + 100) → Kp a H H' → Q (.ref p) H'
theorem scNames : FnScope ["_law_bag_here", "_law_many", "_law_found", "_law_turn", "_law_name_here", "_law_one", "_law_at"] ["_law_bag_here", "_law_many"] (defScope sNames) := ⟨rfl, rfl, rfl, by decide +kernel, rfl, by decide +kernel, by decide +kernel⟩
theorem ok_names {f f1 f2 f3 : Addr} {fd fd1 fd2 fd3 : FuncData} (F : Fun K "_law_names" "_law_names" sNames f fd) (T : Blt mg) (D1 : Df K mg "_law_draw" sDraw ["_law_bag_here", "_law_many"] f1 fd1) (D2 : Df K mg "_law_of" sOf ["_law_bag_here", "_law_some"] f2 fd2) (D3 : Df K mg "_law_name" sName ["_law_bag_here"] f3 fd3) :
    FnOk P w K mg base CX0 3 f fd ["_law_bag_here", "_law_many"] spNames := by
  have G1 : FnOk P w K mg base CX0 1 f1 fd1 ["_law_bag_here", "_law_many"] spDraw := ok_draw D1.F T
  have G2 : FnOk P w K mg base CX0 2 f2 fd2 ["_law_bag_here", "_law_some"] spOf := ok_of D2.F T D1
  have G3 : FnOk P w K mg base CX0 2 f3 fd3 ["_law_bag_here"] spName := ok_name D3.F T D1
  refine F.ok scNames (fun vs H Q E h => ?_) (fun cdv A outer s H vs Q E hr h => ?_)
  · obtain ⟨a, k, rfl, _⟩ := h
    rfl
  · obtain ⟨a, k, rfl, hb, hk, q⟩ := h
    have nd := scNames.nd
    have hr1 : Room 1 _ := hr.mono (by decide)
    refine ⟨_, pss_cons (ps_set (i := 2) nd rfl (Or.inl rfl) (pe_lst (pa_cons (pe_call G3 hr rfl D3.m D3.F.kp D3.b .nil pass0 (pa_cons (pv 0) pa_nil)) pa_nil)))
      (pss_cons (ps_for PassesOwn.never rfl (pi_range1 rfl T.range (pa_cons (pe_op op_sub (pv 1) pe_int) pa_nil)) (pg_name (i := 3) nd rfl (.inl rfl))
        (pss_cons (ps_set (i := 4) nd rfl (Or.inl rfl) (pe_call G3 hr rfl D3.m D3.F.kp D3.b .nil pass0 (pa_cons (pv 0) pa_nil)))
        (pss_cons (ps_if (pt_cmpR op_eq (pe_call G1 hr1 rfl D1.m D1.F.kp D1.b .nil pass0 (pa_cons (pv 0) (pa_cons pe_int pa_nil))) pe_int (nomark _))
          (pss_cons (ps_set (i := 5) nd rfl (Or.inl rfl) (pe_call G2 hr rfl D2.m D2.F.kp D2.b .nil pass0 (pa_cons (pv 0) (pa_cons (pv 2) pa_nil))))
          (pss_cons (ps_set (i := 6) nd rfl (Or.inl rfl) (pe_call G1 hr1 rfl D1.m D1.F.kp D1.b .nil pass0 (pa_cons (pv 0) (pa_cons (pe_callB call_len_str (by rfl) T.len PySem.boot_len (pa_cons (pv 5) pa_nil)) pa_nil))))
          (pss_one (ps_set (i := 4) nd rfl (Or.inl rfl) (pe_op op_add_str (pe_op op_add_str (pe_slice sl_str (pv 5) po_none (po_some (pv 6))) (pe_ix ix_str (pv 4) pe_int (fun _ _ => rfl))) (pe_slice sl_str (pv 5) (po_some (pe_op op_add (pv 6) pe_int)) po_none)))))) pss_nil)
        (pss_one (ps_if (pt_cmpR op_notIn_seq (pv 4) (pv 2) (by rfl)) (pss_one (ps_expr (pe_bm PySem.F.plainAttrs_list PySem.F.slot_list_append PySem.F.type_list_append mt_append (pv 2) (pa_cons (pv 4) pa_nil)))) pss_nil)))))
      (pss_one (ps_ret (pv 2)))), ?_⟩
    refine ⟨_, rfl, a, k, rfl, hb, by omega, fun x0 H1 ox0 b1 k1 => ⟨by show 1 ≤ sizeLine; decide, fun D hD => ?_⟩⟩
    have nDa : D ≠ a := fun e => by
      obtain ⟨_, _, _, h, _⟩ := b1
      rw [e, h] at hD
      cases hD
    have hD0 : H D = none := k1.free hD nDa
    refine ⟨_, rfl, _, _, rfl, rfl, _, rfl, by decide, by decide, ?_⟩
    refine for_range (lo := 0) (n := 5) (fun i σ H2 => ∃ (l : List Str) (t n o c : Option V), σ = [some (.ref a), some (.int 6), some (.ref D), t, n, o, c] ∧ H2 D = some (.lst (l.map V.str)) ∧ l.Nodup ∧ (∀ x ∈ l, NameOk x) ∧ 1 ≤ l.length ∧ l.length ≤ i + 1 ∧ Bag H2 a (k + 9 + 12 * i) ∧ Kp a H H2)
      ⟨[x0], none, none, none, none, rfl, upd_same, by simp, (fun x hx => by rw [List.mem_singleton.mp hx]; exact ox0), Nat.le_refl _, Nat.le_refl _, b1.new hD, k1.new hD⟩ ?_ ?_
    · rintro i σ H2 hi ⟨l, t, n, o, c, rfl, l1, l2, l3, l4, l5, b2, k2⟩
      refine ⟨_, rfl, a, _, rfl, b2, by omega, fun x H3 ox b3 k3 => ?_⟩
      refine ⟨_, rfl, a, 2, _, rfl, by decide, by decide, b3, by omega, fun r H4 r0 r1 b4 k4 => ⟨rfl, _, rfl, ?_⟩⟩
      have l14 : H4 D = some (.lst (l.map V.str)) := k4 _ _ (k3 _ _ l1 nDa) nDa
      have k34 : Kp a H H4 := (k2.trans k3).trans k4
      refine ite2 (fun h => ?_) (fun h => ?_)
      · have hne : l.map V.str ≠ [] := fun e => by
          rw [List.map_eq_nil_iff] at e
          rw [e] at l4
          exact absurd l4 (by decide)
        refine ⟨_, rfl, _, rfl, a, D, l.map V.str, _, rfl, l14, nDa, hne, by rw [List.length_map]; omega, b4, by omega, fun j v H5 hj b5 k5 => ?_⟩
        obtain ⟨one, hone, rfl⟩ := map_str hj
        have oone := l3 one (List.mem_of_getElem? hone)
        refine ⟨_, rfl, _, rfl, one, rfl, by rw [sizeLine_eq]; have := oone.2.1; omega, a, _, _, rfl, by have := oone.1; omega, by have := oone.2.1; omega, b5, by omega, fun at_ H6 at0 at1 b6 k6 => ?_⟩
        obtain ⟨m, rfl⟩ : ∃ m : Nat, at_ = (m : Int) := ⟨at_.toNat, by omega⟩
        have hm : m < one.length := by omega
        obtain ⟨c0, hc0⟩ : ∃ c0, x.cps.toList[0]? = some c0 := ⟨_, List.getElem?_eq_getElem (by rw [← len_cps]; exact ox.1)⟩
        have om := name_mix oone ox hm hc0
        have len1 : one.length ≤ sizeLine := by
          rw [sizeLine_eq]
          have := oone.2.1
          omega
        have c1 := cutS_length one none (some (m : Int))
        have c2 := cutS_length one (some ((m : Int) + 1)) none
        have lx : x.length ≤ sizeLine := by
          rw [sizeLine_eq]
          have := ox.2.1
          omega
        have la : ∀ (p q : Str), (p ++ q).length = p.length + q.length := fun p q => by rw [len_cps, app_cps, List.length_append, ← len_cps, ← len_cps]
        have l1c : (({ cps := #[c0] } : Str)).length = 1 := rfl
        have s1 : (cutS one none (some (m : Int))).length + (({ cps := #[c0] } : Str)).length ≤ sizeLine := by
          rw [l1c, sizeLine_eq]
          have := oone.2.1
          omega
        have s2 : (cutS one none (some (m : Int)) ++ ⟨#[c0]⟩).length + (cutS one (some ((m : Int) + 1)) none).length ≤ sizeLine := by
          rw [la, l1c, sizeLine_eq]
          have := oone.2.1
          omega
        refine ⟨_, rfl, _, rfl, _, rfl, one, rfl, len1, _, rfl, _, _, c0, rfl, rfl, lx, atI_nat (j := 0) hc0, _, _, rfl, rfl, s1, ?_⟩
        refine ⟨_, rfl, _, rfl, _, _, rfl, rfl, _, rfl, one, rfl, len1, _, _, rfl, rfl, s2, ?_⟩
        have l16 : H6 D = some (.lst (l.map V.str)) := k6 _ _ (k5 _ _ l14 nDa) nDa
        have k36 : Kp a H H6 := (k34.trans k5).trans k6
        have b6' : Bag H6 a (k + 9 + 12 * i + 12) := b6.mono (by omega)
        refine ⟨_, rfl, _, rfl, D, _, rfl, .inl (SqL.of l16), rfl, flat_str l, _, rfl, ?_⟩
        by_cases hin : cutS one none (some (m : Int)) ++ ⟨#[c0]⟩ ++ cutS one (some ((m : Int) + 1)) none ∈ l
        · have e : inV (.str (cutS one none (some (m : Int)) ++ ⟨#[c0]⟩ ++ cutS one (some ((m : Int) + 1)) none)) (l.map V.str) = true := by rw [inV_str]; exact decide_eq_true hin
          rw [e]
          refine iteF ?_
          exact ⟨l, _, _, _, _, rfl, l16, l2, l3, l4, by omega, b6', k36⟩
        · have e : inV (.str (cutS one none (some (m : Int)) ++ ⟨#[c0]⟩ ++ cutS one (some ((m : Int) + 1)) none)) (l.map V.str) = false := by rw [inV_str]; exact decide_eq_false hin
          rw [e]
          refine iteT ?_
          refine ⟨_, rfl, .inl ⟨rfl, _, SqL.of l16⟩, _, rfl, D, _, _, rfl, rfl, l16, by rw [List.length_map, sizeLine_eq]; omega, ?_⟩
          refine ⟨l ++ [cutS one none (some (m : Int)) ++ ⟨#[c0]⟩ ++ cutS one (some ((m : Int) + 1)) none], _, _, _, _, rfl, by rw [upd_same, List.map_append]; rfl, ?_, ?_, by simp, by simp; omega, ?_, ?_⟩
          · refine List.nodup_append.mpr ⟨l2, by simp, fun p hp q hq e => hin ?_⟩
            rw [← List.mem_singleton.mp hq, ← e]
            exact hp
          · intro p hp
            rcases List.mem_append.mp hp with z | z
            · exact l3 p z
            · rw [List.mem_singleton.mp z]
              exact om
          · exact b6'.at fun o e => by
              rw [upd_ne nDa.symm]
              exact e
          · exact fun b o e n => by
              rw [upd_ne (ne_of_none e hD0)]
              exact k36 b o e n
      · have l16 := l14
        have k36 := k34
        have b6' : Bag H4 a (k + 9 + 12 * i + 12) := b4.mono (by omega)
        refine ⟨_, rfl, _, rfl, D, _, rfl, .inl (SqL.of l16), rfl, flat_str l, _, rfl, ?_⟩
        by_cases hin : x ∈ l
        · have e : inV (.str (x)) (l.map V.str) = true := by rw [inV_str]; exact decide_eq_true hin
          rw [e]
          refine iteF ?_
          exact ⟨l, _, _, _, _, rfl, l16, l2, l3, l4, by omega, b6', k36⟩
        · have e : inV (.str (x)) (l.map V.str) = false := by rw [inV_str]; exact decide_eq_false hin
          rw [e]
          refine iteT ?_
          refine ⟨_, rfl, .inl ⟨rfl, _, SqL.of l16⟩, _, rfl, D, _, _, rfl, rfl, l16, by rw [List.length_map, sizeLine_eq]; omega, ?_⟩
          refine ⟨l ++ [x], _, _, _, _, rfl, by rw [upd_same, List.map_append]; rfl, ?_, ?_, by simp, by simp; omega, ?_, ?_⟩
          · refine List.nodup_append.mpr ⟨l2, by simp, fun p hp q hq e => hin ?_⟩
            rw [← List.mem_singleton.mp hq, ← e]
            exact hp
          · intro p hp
            rcases List.mem_append.mp hp with z | z
            · exact l3 p z
            · rw [List.mem_singleton.mp z]
              exact ox
          · exact b6'.at fun o e => by
              rw [upd_ne nDa.symm]
              exact e
          · exact fun b o e n => by
              rw [upd_ne (ne_of_none e hD0)]
              exact k36 b o e n
    · rintro σ H2 ⟨l, t, n, o, c, rfl, l1, l2, l3, l4, l5, b2, k2⟩
      exact ⟨_, rfl, q D H2 l hD0 l1 l2 l3 l4 (by omega) (b2.mono (by omega)) k2⟩

/-! ### _law_numbers -/
def spNumbers : Sp := fun vs H Q _ => ∃ (a : Addr) (k : Nat), vs = [.ref a, .int 6] ∧ Bag H a k ∧ k ≤ 10000 ∧ ∀ p H' (l : List Str), H p = none → H' p = some (.lst ((l ++ [zz]).map V.str)) → l.Nodup → (∀ x ∈ l, NameOk x ∧ x ≠ zz) → l.length ≤ 6 → Bag H' a (k + 100) → Kp a H H' → Q (.ref p) H'
theorem scNumbers : FnScope ["_law_bag_here", "_law_many", "_law_name_here"] ["_law_bag_here", "_law_many"] (defScope sNumbers) := ⟨rfl, rfl, rfl, by decide +kernel, rfl, by decide +kernel, by decide +kernel⟩
theorem ok_numbers {f f1 : Addr} {fd fd1 : FuncData} (F : Fun K "_law_numbers" "_law_numbers" sNumbers f fd) (T : Blt mg) (D1 : Df K mg "_law_names" sNames ["_law_bag_here", "_law_many"] f1 fd1) (G1 : FnOk P w K mg base CX0 3 f1 fd1 ["_law_bag_here", "_law_many"] spNames) :
    FnOk P w K mg base CX0 4 f fd ["_law_bag_here", "_law_many"] spNumbers := by
  refine F.ok scNumbers (fun vs H Q E h => ?_) (fun cdv A outer s H vs Q E hr h => ?_)
  · obtain ⟨a, k, rfl, _⟩ := h
    rfl
  · obtain ⟨a, k, rfl, hb, hk, q⟩ := h
    have nd := scNumbers.nd
    refine ⟨_, pss_one (ps_ret (pe_op op_cat (pe_lc (own := [("_law_name_here", 2)]) (g := gName 2) rfl nd (pi_list (pe_call G1 hr rfl D1.m D1.F.kp D1.b .nil pass0 (pa_cons (pv 0) (pa_cons (pv 1) pa_nil))))
        (blkOk_by (N := ["_law_bag_here", "_law_many", "_law_name_here"]) (sc := defScope sNumbers) (by decide +kernel)) (fun _ _ _ _ _ => pg_name (i := 2) nd rfl (Or.inl rfl)) (fun _ _ _ _ _ => pts_one (pt_cmpR op_ne (pv 2) pe_str (nomark _)))
        (fun _ _ _ _ _ => pv 2)) (pe_lst (pa_cons pe_str pa_nil)))), ?_⟩
    refine ⟨_, rfl, _, rfl, a, k, rfl, hb, hk, fun p H1 l hp hl l1 l2 l3 l4 b1 k1 => ⟨p, rfl, ⟨_, SqL.of hl⟩, fun D hD => ?_⟩⟩
    have nDp : p ≠ D := ne_of_none hl hD
    have nDa : D ≠ a := fun e => by
      obtain ⟨_, _, _, h, _⟩ := b1
      rw [e, h] at hD
      cases hD
    refine lc_list (K := K) (a := p) (xs := l.map V.str) (fun i H2 => H2 D = some (.lst (((l.take i).filter fun x => decide (x ≠ zz)).map V.str)) ∧ ∀ b o, H1 b = some o → H2 b = some o)
      ⟨upd_same, same_upd hD⟩ (fun i H2 _ ⟨_, h⟩ => SqL.of (h _ _ hl)) ?_ ?_
    · rintro i x H2 hi ⟨d2, k2⟩
      obtain ⟨n, hn, rfl⟩ := map_str hi
      refine ⟨rfl, _, rfl, rfl, _, rfl, ?_⟩
      have et : l.take (i + 1) = l.take i ++ [n] := by rw [List.take_add_one, hn]; rfl
      by_cases e : n = zz
      · have h : (!decide (V.str n = V.str (Str.ofString "zero"))) = false := by
          rw [e]
          simp
        rw [h]
        refine iteF ?_
        refine ⟨?_, k2⟩
        rw [et, List.filter_append, d2]
        simp [e]
      · have h : (!decide (V.str n = V.str (Str.ofString "zero"))) = true := by
          have : ¬ V.str n = V.str (Str.ofString "zero") := fun z => e (V.str.inj z)
          simp [this]
        rw [h]
        refine iteT ⟨_, rfl, _, d2, ?_, ?_, fun b o e2 => ?_⟩
        · rw [List.length_map, sizeLine_eq]
          have h1 := List.length_filter_le (fun x => decide (x ≠ zz)) (l.take i)
          rw [List.length_take] at h1
          omega
        · rw [upd_same, et, List.filter_append, List.map_append]
          congr 2
          simp [e]
        · rw [upd_ne (ne_of_none e2 hD)]
          exact k2 b o e2
    · rintro H2 ⟨d2, k2⟩
      rw [List.length_map, List.take_length] at d2
      refine ⟨by show 1 ≤ sizeLine; decide, fun p2 hp2 => ⟨D, p2, _, _, rfl, rfl, by rw [upd_ne (ne_of_none d2 hp2)]; exact d2, upd_same, ?_, fun p3 hp3 => ?_⟩⟩
      · have h1 := List.length_filter_le (fun x => decide (x ≠ zz)) l
        rw [List.length_map, sizeLine_eq]
        show (l.filter fun x => decide (x ≠ zz)).length + 1 ≤ 16777216
        omega
      · have k3 : ∀ b o, H1 b = some o → upd (upd H2 p2 (.lst [.str zz])) p3 (.lst (((l.filter fun x => decide (x ≠ zz)).map V.str) ++ [.str zz])) b = some o := (Same.trans k2 (same_upd hp2)).trans (same_upd hp3)
        have h3 : H p3 = none := by
          have h1 : H1 p3 = none := Same.free ((Same.trans k2 (same_upd hp2))) hp3
          refine k1.free h1 fun e => ?_
          obtain ⟨_, _, _, h, _⟩ := b1
          rw [e, h] at h1
          cases h1
        refine q p3 _ (l.filter fun x => decide (x ≠ zz)) h3 (by rw [upd_same, List.map_append]; rfl) (l1.filter _) (fun x hx => ?_) (Nat.le_trans (List.length_filter_le _ _) l4) (b1.at fun o e => k3 _ _ e) (fun b o e n => k3 _ _ (k1 b o e n))
        obtain ⟨h1, h2⟩ := List.mem_filter.mp hx
        exact ⟨l2 x h1, of_decide_eq_true h2⟩

/-! ### _law_pairs -/
/-- the tuples at ts are the pairs ps -/
structure PrAt (H : Hp) (ts : List Addr) (ps : List (Str × Str)) : Prop where
  len : ts.length = ps.length
  at_ : ∀ (i : Nat) (t : Addr), ts[i]? = some t → ∃ u v : Str, ps[i]? = some (u, v) ∧ H t = some (.tup [.str u, .str v])
theorem PrAt.same {H H' : Hp} {ts : List Addr} {ps : List (Str × Str)} (h : PrAt H ts ps) (s : ∀ b xs, H b = some (.tup xs) → H' b = some (.tup xs)) : PrAt H' ts ps :=
  ⟨h.len, fun i p e => let ⟨u, v, h1, h2⟩ := h.at_ i p e; ⟨u, v, h1, s _ _ h2⟩⟩
theorem PrAt.nil {H : Hp} : PrAt H [] [] := ⟨rfl, fun i p e => by simp at e⟩
theorem PrAt.append {H : Hp} {ts us : List Addr} {ps qs : List (Str × Str)} (h : PrAt H ts ps) (k : PrAt H us qs) : PrAt H (ts ++ us) (ps ++ qs) := by
  refine ⟨by rw [List.length_append, List.length_append, h.len, k.len], fun i p e => ?_⟩
  rcases Nat.lt_or_ge i ts.length with z | z
  · rw [List.getElem?_append_left z] at e
    obtain ⟨u, v, h1, h2⟩ := h.at_ i p e
    exact ⟨u, v, by rw [List.getElem?_append_left (by rw [← h.len]; exact z)]; exact h1, h2⟩
  · rw [List.getElem?_append_right z] at e
    obtain ⟨u, v, h1, h2⟩ := k.at_ _ p e
    refine ⟨u, v, ?_, h2⟩
    rw [List.getElem?_append_right (by rw [← h.len]; exact z), ← h.len]
    exact h1
theorem PrAt.one {H : Hp} {t : Addr} {u v : Str} (h : H t = some (.tup [.str u, .str v])) : PrAt H [t] [(u, v)] := ⟨rfl, fun i q e => by
  cases i with
  | zero =>
    cases e
    exact ⟨u, v, rfl, h⟩
  | succ i => simp at e⟩
def spPairs : Sp := fun vs H Q _ => ∃ (p : Addr) (ns : List Str), vs = [.ref p] ∧ H p = some (.lst (ns.map V.str)) ∧ ns.length ≤ 20 ∧ ∀ q H' (ts : List Addr), H q = none → Same H H' → H' q = some (.lst (ts.map V.ref)) → PrAt H' ts (prs ns) → Q (.ref q) H'
theorem scPairs : FnScope ["_law_names_here", "_law_found", "_law_u", "_law_v"] ["_law_names_here"] (defScope sPairs) := ⟨rfl, rfl, rfl, by decide +kernel, rfl, by decide +kernel, by decide +kernel⟩
theorem prs_len (ns l : List Str) : (l.flatMap fun u => ns.map fun v => (u, v)).length = l.length * ns.length := by
  induction l with
  | nil => simp
  | cons a l ih => rw [List.flatMap_cons, List.length_append, ih, List.length_map, List.length_cons, Nat.succ_mul]; omega
theorem ok_pairs {f : Addr} {fd : FuncData} (F : Fun K "_law_pairs" "_law_pairs" sPairs f fd) : FnOk P w K mg base CX0 1 f fd ["_law_names_here"] spPairs := by
  refine F.ok scPairs (fun vs H Q E h => ?_) (fun cdv A outer s H vs Q E hr h => ?_)
  · obtain ⟨p, ns, rfl, _⟩ := h
    rfl
  · obtain ⟨p, ns, rfl, hp, hl, q⟩ := h
    have nd := scPairs.nd
    refine ⟨_, pss_cons (ps_set (i := 1) nd rfl (Or.inl rfl) (pe_lst pa_nil))
      (pss_cons (ps_for PassesOwn.never rfl (pi_list (pv 0)) (pg_name (i := 2) nd rfl (Or.inr rfl))
        (pss_one (ps_set (i := 1) nd rfl (Or.inl rfl) (pe_op op_cat (pv 1) (pe_lc (own := [("_law_v", 3)]) (g := gName 3) (tt := tYes) rfl nd (pi_list (pv 0))
          (blkOk_by (N := ["_law_names_here", "_law_found", "_law_u", "_law_v"]) (sc := defScope sPairs) (by decide +kernel)) (fun _ _ _ _ _ => pg_name (i := 3) nd rfl (Or.inl rfl)) (fun _ _ _ _ _ => pts_nil)
          (fun _ _ _ _ _ => pe_tup (pa_cons (pv 2) (pa_cons (pv 3) pa_nil))))))))
      (pss_one (ps_ret (pv 1)))), ?_⟩
    refine ⟨by show 0 ≤ sizeLine; decide, fun D hD => ⟨_, rfl, p, rfl, ⟨_, SqL.of (same_upd hD _ _ hp)⟩, ?_⟩⟩
    refine for_list (K := K) (a := p) (xs := ns.map V.str) (fun i σ H2 => ∃ (F : Addr) (u v : Option V) (ts : List Addr), σ = [some (.ref p), some (.ref F), u, v] ∧ H F = none ∧ Same H H2 ∧ H2 F = some (.lst (ts.map V.ref)) ∧ PrAt H2 ts ((ns.take i).flatMap fun u => ns.map fun v => (u, v)))
      ⟨D, none, none, [], rfl, hD, same_upd hD, upd_same, PrAt.nil⟩ (fun i σ H2 _ ⟨_, _, _, _, _, _, h, _⟩ => SqL.of (h _ _ hp)) ?_ ?_
    · rintro i x σ H2 hi ⟨F, u, v, ts, rfl, hF, s2, f2, p2⟩
      obtain ⟨n, hn, rfl⟩ := map_str hi
      refine ⟨_, rfl, _, rfl, p, rfl, ⟨_, SqL.of (s2 _ _ hp)⟩, fun L hL => ?_⟩
      refine lc_list (K := K) (a := p) (xs := ns.map V.str) (fun j H3 => ∃ us : List Addr, H3 L = some (.lst (us.map V.ref)) ∧ Same H2 H3 ∧ PrAt H3 us ((ns.take j).map fun v => (n, v)))
        ⟨[], upd_same, same_upd hL, PrAt.nil⟩ (fun j H3 _ ⟨_, _, h, _⟩ => SqL.of (h _ _ (s2 _ _ hp))) ?_ ?_
      · rintro j y H3 hj ⟨us, l3, s3, p3⟩
        obtain ⟨m, hm, rfl⟩ := map_str hj
        refine ⟨rfl, _, rfl, _, rfl, by show 2 ≤ sizeLine; decide, fun t ht => ⟨_, by rw [upd_ne (ne_of_none l3 ht)]; exact l3, ?_, us ++ [t], ?_, ?_, ?_⟩⟩
        · rw [List.length_map, p3.len, List.length_map, List.length_take, sizeLine_eq]
          omega
        · rw [upd_same, List.map_append]
          rfl
        · exact fun b o e => by
            rw [upd_ne (ne_of_none e hL), upd_ne (ne_of_none (s3 b o e) ht)]
            exact s3 b o e
        · have et : (ns.take (j + 1)).map (fun v => (n, v)) = (ns.take j).map (fun v => (n, v)) ++ [(n, m)] := by
            rw [List.take_add_one, hm, List.map_append]
            rfl
          rw [et]
          refine PrAt.append (p3.same fun b xs e => ?_) (PrAt.one ?_)
          · rw [upd_ne (ne_of e l3 fun z => nomatch z), upd_ne (ne_of_none e ht)]
            exact e
          · rw [upd_ne fun z => (by rw [z, l3] at ht; cases ht)]
            exact upd_same
      · rintro H3 ⟨us, l3, s3, p3⟩
        rw [List.length_map, List.take_length] at p3
        refine ⟨F, L, _, _, rfl, rfl, s3 _ _ f2, l3, ?_, fun G hG => ⟨G, _, _, ts ++ us, rfl, ?_, ?_, ?_, ?_⟩⟩
        · rw [List.length_map, List.length_map, p2.len, p3.len, prs_len, List.length_map, List.length_take, sizeLine_eq]
          have : min i ns.length * ns.length ≤ 20 * 20 := Nat.mul_le_mul (by omega) hl
          omega
        · exact (s2.trans s3).free hG
        · exact (s2.trans s3).trans (same_upd hG)
        · rw [upd_same, List.map_append]
        · have et : (ns.take (i + 1)).flatMap (fun u => ns.map fun v => (u, v)) = (ns.take i).flatMap (fun u => ns.map fun v => (u, v)) ++ ns.map fun v => (n, v) := by
            rw [List.take_add_one, hn, List.flatMap_append]
            simp
          rw [et]
          exact ((p2.same fun b xs e => s3 _ _ e).append p3).same fun b xs e => same_upd hG _ _ e
    · rintro σ H2 ⟨F, u, v, ts, rfl, hF, s2, f2, p2⟩
      rw [List.length_map, List.take_length] at p2
      exact ⟨_, rfl, q F H2 ts hF s2 f2 p2⟩
end
end K31

namespace K31
open PySem L2
theorem up_self {ι β : Type} [DecidableEq ι] (g : ι → β) (n : ι) : up g n (g n) = g := by
  funext m
  unfold up
  split
  · rename_i e
    rw [e]
  · rfl
theorem merge_dct (g : Str → V) : ∀ (ks js : List Str), (js ++ ks).Nodup → mergeK (dct kS js g) (dct kS ks g) = dct kS (js ++ ks) g
  | [], js, _ => by rw [List.append_nil]; rfl
  | n :: ks, js, h => by
    have e : js ++ n :: ks = (js ++ [n]) ++ ks := by simp
    rw [e] at h ⊢
    have hn : n ∉ js := fun m => by
      have h2 := (List.nodup_append.mp (List.nodup_append.mp h).1).2.2
      exact h2 n m n (by simp) rfl
    have ih := merge_dct g ks (js ++ [n]) h
    show mergeK (putK (dct kS js g) (kS n) (g n)) (dct kS ks g) = _
    rw [dct_new kS_inj hn, up_self]
    exact ih
/-- the tuples at ts are the pairs of a name of ns and its number -/
structure NmAt (H : Hp) (ts : List Addr) (ns : List Str) (g : Str → Int) : Prop where
  len : ts.length = ns.length
  at_ : ∀ (i : Nat) (t : Addr), ts[i]? = some t → ∃ n : Str, ns[i]? = some n ∧ H t = some (.tup [.str n, .int (g n)])
theorem NmAt.same {H H' : Hp} {ts : List Addr} {ns : List Str} {g : Str → Int} (h : NmAt H ts ns g) (s : ∀ b xs, H b = some (.tup xs) → H' b = some (.tup xs)) : NmAt H' ts ns g :=
  ⟨h.len, fun i p e => let ⟨n, h1, h2⟩ := h.at_ i p e; ⟨n, h1, s _ _ h2⟩⟩
theorem NmAt.snoc {H : Hp} {ts : List Addr} {ns : List Str} {g : Str → Int} {t : Addr} {n : Str} {z : Int} (h : NmAt H ts ns g) (hn : n ∉ ns) (ht : H t = some (.tup [.str n, .int z])) : NmAt H (ts ++ [t]) (ns ++ [n]) (up g n z) := by
  refine ⟨by rw [List.length_append, List.length_append, h.len]; rfl, fun i p e => ?_⟩
  rcases Nat.lt_or_ge i ts.length with q | q
  · rw [List.getElem?_append_left q] at e
    obtain ⟨m, h1, h2⟩ := h.at_ i p e
    refine ⟨m, by rw [List.getElem?_append_left (by rw [← h.len]; exact q)]; exact h1, ?_⟩
    rw [up_ne fun e => hn (by rw [← e]; exact List.mem_of_getElem? h1)]
    exact h2
  · rw [List.getElem?_append_right q] at e
    have e0 : i - ts.length = 0 := by
      cases k : i - ts.length with
      | zero => rfl
      | succ k' =>
        rw [k] at e
        simp at e
    rw [e0] at e
    cases e
    refine ⟨n, ?_, by rw [up_same]; exact ht⟩
    rw [List.getElem?_append_right (by rw [← h.len]; exact q), ← h.len, e0]
    rfl
theorem NmAt.paired {K : PySem.W.Frag} {H : Hp} {g : Str → Int} : ∀ {ts : List Addr} {ns : List Str}, NmAt H ts ns g → Paired (fun p (kv : Key × V) => SqT K H p [kV kv.1, kv.2]) ts (dct kS ns fun n => .int (g n))
  | [], [], _ => .nil
  | [], n :: ns, h => by have := h.len; cases this
  | t :: ts, [], h => by have := h.len; cases this
  | t :: ts, n :: ns, h => by
    obtain ⟨m, h1, h2⟩ := h.at_ 0 t rfl
    cases h1
    refine .cons (SqT.of h2) (NmAt.paired ⟨by have := h.len; simpa using this, fun i p e => ?_⟩)
    exact h.at_ (i + 1) p e
section
variable {P : Program} {w : World} {K : PySem.W.Frag} {mg : Str → Option Value} {base : Heap}
/-! ### _law_system -/
def spSystem : Sp := fun vs H Q _ => ∃ (a p : Addr) (ns : List Str) (k : Nat), vs = [.ref a, .ref p] ∧ H p = some (.lst (ns.map V.str)) ∧ p ≠ a ∧ ns.Nodup ∧ (∀ n ∈ ns, NameOk n) ∧ zz ∈ ns ∧ ns.length ≤ 7 ∧ Bag H a k ∧ k ≤ 10000 ∧
  ∀ q H' (ps : List Addr) (bs : List (Bd Str)), H q = none → H' q = some (.lst (ps.map V.ref)) → BdsAt H' ps bs → (∀ b ∈ bs, BdOk b ∧ b.u ∈ ns ∧ b.v ∈ ns) → bs.length ≤ 16 → Bag H' a (k + 200) → Kp a H H' → Q (.ref q) H'
theorem scSystem : FnScope ["_law_bag_here", "_law_names_here", "_law_values", "_law_found", "_law_is_kept", "_law_turn", "_law_u", "_law_v", "_law_c", "_law_name_here"] ["_law_bag_here", "_law_names_here"] (defScope sSystem) := ⟨rfl, rfl, rfl, by decide +kernel, rfl, by decide +kernel, by decide +kernel⟩
theorem ok_system {f f1 f2 : Addr} {fd fd1 fd2 : FuncData} (F : Fun K "_law_system" "_law_system" sSystem f fd) (T : Blt mg) (D1 : Df K mg "_law_draw" sDraw ["_law_bag_here", "_law_many"] f1 fd1) (D2 : Df K mg "_law_of" sOf ["_law_bag_here", "_law_some"] f2 fd2) :
    FnOk P w K mg base CX0 3 f fd ["_law_bag_here", "_law_names_here"] spSystem := by
  have G1 : FnOk P w K mg base CX0 1 f1 fd1 ["_law_bag_here", "_law_many"] spDraw := ok_draw D1.F T
  have G2 : FnOk P w K mg base CX0 2 f2 fd2 ["_law_bag_here", "_law_some"] spOf := ok_of D2.F T D1
  refine F.ok scSystem (fun vs H Q E h => ?_) (fun cdv A outer s H vs Q E hr h => ?_)
  · obtain ⟨a, p, ns, k, rfl, _⟩ := h
    rfl
  · obtain ⟨a, p, ns, k, rfl, hp, hpa, hnd, hno, hzz, hl, hb, hk, q⟩ := h
    have nd := scSystem.nd
    have hu := hu_of hr
    have hr1 : Room 1 _ := hr.mono (by decide)
    refine ⟨_, pss_cons (ps_set (i := 2) nd rfl (Or.inl rfl) (pe_callTy (call_dictP rfl) (by rfl) T.dict (by decide +kernel) (pa_cons (pe_lc (own := [("_law_name_here", 9)]) (g := gName 9) (tt := tYes) rfl nd (pi_list (pv 1))
        (blkOk_by (N := ["_law_bag_here", "_law_names_here", "_law_values", "_law_found", "_law_is_kept", "_law_turn", "_law_u", "_law_v", "_law_c", "_law_name_here"]) (sc := defScope sSystem) (by decide +kernel)) (fun _ _ _ _ _ => pg_name (i := 9) nd rfl (Or.inl rfl)) (fun _ _ _ _ _ => pts_nil)
        (fun _ _ _ _ _ => pe_tup (pa_cons (pv 9) (pa_cons (pe_call G2 hr rfl D2.m D2.F.kp D2.b .nil pass0 (pa_cons (pv 0) (pa_cons (pe_lst (pa_cons pe_int (pa_cons pe_int (pa_cons pe_int (pa_cons (pe_call G1 hr1 rfl D1.m D1.F.kp D1.b .nil pass0 (pa_cons (pv 0) (pa_cons (pe_op op_pow pe_int pe_int) pa_nil))) pa_nil))))) pa_nil))) pa_nil)))) pa_nil)))
      (pss_cons (ps_dput hu (pv 2) pe_str pe_int rfl)
      (pss_cons (ps_par (i := 3) (j := 4) rfl nd rfl rfl (by decide) rfl rfl (pa_cons (pe_lst pa_nil) (pa_cons (pe_cmpR op_gt (pe_call G1 hr1 rfl D1.m D1.F.kp D1.b .nil pass0 (pa_cons (pv 0) (pa_cons pe_int pa_nil))) pe_int (nomark _)) pa_nil)) (by rfl))
      (pss_cons (ps_for PassesOwn.never rfl (pi_range1 rfl T.range (pa_cons (pe_call G1 hr1 rfl D1.m D1.F.kp D1.b .nil pass0 (pa_cons (pv 0) (pa_cons pe_int pa_nil))) pa_nil)) (pg_name (i := 5) nd rfl (.inl rfl))
        (pss_cons (ps_par3 (i := 6) (j := 7) (l := 8) rfl nd rfl rfl rfl (by decide) (by decide) (by decide) rfl rfl rfl (pa_cons (pe_call G2 hr rfl D2.m D2.F.kp D2.b .nil pass0 (pa_cons (pv 0) (pa_cons (pv 1) pa_nil))) (pa_cons (pe_call G2 hr rfl D2.m D2.F.kp D2.b .nil pass0 (pa_cons (pv 0) (pa_cons (pv 1) pa_nil)))
          (pa_cons (pe_call G2 hr rfl D2.m D2.F.kp D2.b .nil pass0 (pa_cons (pv 0) (pa_cons (pe_lst (pa_cons pe_int (pa_cons pe_int (pa_cons pe_int (pa_cons (pe_call G1 hr1 rfl D1.m D1.F.kp D1.b .nil pass0 (pa_cons (pv 0) (pa_cons (pe_op op_pow pe_int pe_int) pa_nil))) pa_nil))))) pa_nil))) pa_nil))) (by rfl))
        (pss_one (ps_if (pt_cmpR op_ne (pv 6) (pv 7) (nomark _)) (pss_one (ps_expr (pe_bm PySem.F.plainAttrs_list PySem.F.slot_list_append PySem.F.type_list_append mt_append (pv 3)
          (pa_cons (pe_tup (pa_cons (pv 6) (pa_cons (pv 7) (pa_cons (pe_op op_add (pv 8) (pe_ifExp (pt_val (pv 4)) (pe_op op_sub (pe_dget hu (pv 2) (pv 6) (fun _ _ => rfl)) (pe_dget hu (pv 2) (pv 7) (fun _ _ => rfl))) (pe_un un_neg pe_int))) pa_nil)))) pa_nil)))) pss_nil))))
      (pss_one (ps_ret (pv 3)))))), ?_⟩
    have big : (0 : Int) < 10 ^ (27 : Int).toNat ∧ (10 : Int) ^ (27 : Int).toNat < 2 ^ 100 := by decide
    have pw : CPow 10 27 := ⟨by decide, by decide, by decide⟩
    refine ⟨_, rfl, p, rfl, ⟨_, SqL.of hp⟩, fun D hD => ?_⟩
    have nDa : D ≠ a := fun e => by
      obtain ⟨_, _, _, h, _⟩ := hb
      rw [e, h] at hD
      cases hD
    refine lc_list (K := K) (a := p) (xs := ns.map V.str) (fun i H2 => ∃ (ts : List Addr) (g : Str → Int), H2 D = some (.lst (ts.map V.ref)) ∧ NmAt H2 ts (ns.take i) g ∧ Bag H2 a (k + 2 * i) ∧ Kp a H H2)
      ⟨[], fun _ => 0, upd_same, ⟨rfl, fun i p e => by simp at e⟩, hb.new hD, (Kp.refl a H).new hD⟩ (fun i H2 _ ⟨_, _, _, _, _, h⟩ => SqL.of (h _ _ hp hpa)) ?_ ?_
    · rintro i x H2 hi ⟨ts, g, d2, n2, b2, k2⟩
      obtain ⟨n, hn, rfl⟩ := map_str hi
      have hil : i < ns.length := (List.getElem?_eq_some_iff.mp hn).1
      refine ⟨rfl, _, rfl, _, rfl, _, rfl, _, _, rfl, rfl, pw, a, _, _, rfl, big.1, big.2, b2, by omega, fun r H3 r0 r1 b3 k3 => ⟨by show 4 ≤ sizeLine; decide, fun L hL => ?_⟩⟩
      have nLa : L ≠ a := fun e => by
        obtain ⟨_, _, _, h, _⟩ := b3
        rw [e, h] at hL
        cases hL
      refine ⟨a, L, _, _, rfl, upd_same, nLa, (by intro z; cases z), (by show 4 ≤ 1000; decide), b3.new hL, by omega, fun j v H4 hj b4 k4 => ⟨by show 2 ≤ sizeLine; decide, fun t ht => ?_⟩⟩
      obtain ⟨z, rfl⟩ : ∃ z, v = V.int z := by
        match j, hj with
        | 0, hj => exact ⟨_, (Option.some.inj hj).symm⟩
        | 1, hj => exact ⟨_, (Option.some.inj hj).symm⟩
        | 2, hj => exact ⟨_, (Option.some.inj hj).symm⟩
        | 3, hj => exact ⟨_, (Option.some.inj hj).symm⟩
      have d3 : H3 D = some (.lst (ts.map V.ref)) := k3 _ _ d2 nDa
      have k34 : Kp a H3 H4 := ((Kp.refl a H3).new hL).trans k4
      have d4 : H4 D = some (.lst (ts.map V.ref)) := k34 _ _ d3 nDa
      have nat : ∀ b xs, H2 b = some (.tup xs) → b ≠ a := fun b xs e z => by
        obtain ⟨_, _, _, h, _⟩ := b2
        rw [z, h] at e
        cases e
      have n4 : NmAt H4 ts (ns.take i) g := n2.same fun b xs e => k34 _ _ (k3 _ _ e (nat b xs e)) (nat b xs e)
      refine ⟨_, by rw [upd_ne (ne_of_none d4 ht)]; exact d4, ?_, ts ++ [t], up g n z, ?_, ?_, ?_, ?_⟩
      · rw [List.length_map, n4.len, List.length_take, sizeLine_eq]
        omega
      · rw [upd_same, List.map_append]
        rfl
      · have et : ns.take (i + 1) = ns.take i ++ [n] := by rw [List.take_add_one, hn]; rfl
        rw [et]
        have hni : n ∉ ns.take i := fun m => by
          have h2 : (ns.take i ++ [n]).Nodup := by
            rw [← et]
            exact hnd.sublist (List.take_sublist _ _)
          exact (List.nodup_append.mp h2).2.2 n m n (by simp) rfl
        refine NmAt.snoc (n4.same fun b xs e => ?_) hni ?_
        · rw [upd_ne (ne_of e d4 fun z => nomatch z), upd_ne (ne_of_none e ht)]
          exact e
        · rw [upd_ne fun z => (by rw [z, d4] at ht; cases ht)]
          exact upd_same
      · have b5 := (b4.new (o := .tup [.str n, .int z]) ht).mono (k := k + 2 * (i + 1)) (by omega)
        exact b5.at fun o e => by
          rw [upd_ne nDa.symm]
          exact e
      · exact fun b o e na => by
          rw [upd_ne (ne_of_none e hD)]
          exact (((k2.trans k3).trans k34).new ht) b o e na
    · rintro H2 ⟨ts, g, d2, n2, b2, k2⟩
      rw [List.length_map, List.take_length] at n2
      rw [List.length_map] at b2
      refine ⟨D, ts, _, rfl, SqL.of d2, n2.paired, fun va hva => ?_⟩
      have em : mergeK [] (dct kS ns fun n => .int (g n)) = dct kS ns fun n => .int (g n) := merge_dct (fun n => .int (g n)) ns [] hnd
      rw [em]
      have v3 : upd H2 va (dS ns fun n => .int (g n)) va = some (dS ns fun n => .int (g n)) := upd_same
      have nva : va ≠ a := fun e => by
        obtain ⟨_, _, _, h, _⟩ := b2
        rw [e, h] at hva
        cases hva
      have hva0 : H va = none := k2.free hva nva
      have k3 := k2.new (o := dS ns fun n => .int (g n)) hva
      have b3 := b2.new (o := dS ns fun n => .int (g n)) hva
      refine ⟨_, rfl, va, _, rfl, dS_put v3 hzz (by rw [sizeLine_eq]; omega), ?_⟩
      rw [up_int]
      have v4 : upd (upd H2 va (dS ns fun n => .int (g n))) va (dS ns fun n => .int (up g zz 0 n)) va = some (dS ns fun n => .int (up g zz 0 n)) := upd_same
      have k4 : Kp a H (upd (upd H2 va (dS ns fun n => .int (g n))) va (dS ns fun n => .int (up g zz 0 n))) := fun b o e na => by
        rw [upd_ne (ne_of_none e hva0)]
        exact k3 b o e na
      have b4 : Bag (upd (upd H2 va (dS ns fun n => .int (g n))) va (dS ns fun n => .int (up g zz 0 n))) a (k + 2 * ns.length) := b3.at fun o e => by
        rw [upd_ne nva.symm]
        exact e
      generalize upd (upd H2 va (dS ns fun n => .int (g n))) va (dS ns fun n => .int (up g zz 0 n)) = H4 at v4 k4 b4
      generalize up g zz 0 = g2 at v4
      clear v3 k3 b3 hva n2 d2 b2 k2 em
      refine ⟨by show 0 ≤ sizeLine; decide, fun L hL => ?_⟩
      have nLa : L ≠ a := fun e => by
        obtain ⟨_, _, _, h, _⟩ := b4
        rw [e, h] at hL
        cases hL
      have hL0 : H L = none := k4.free hL nLa
      have nLv : L ≠ va := fun e => by
        rw [e, v4] at hL
        cases hL
      refine ⟨_, rfl, a, 4, _, rfl, by decide, by decide, b4.new hL, by omega, fun r H5 r0 r1 b5 k5 => ⟨_, _, rfl, rfl, _, _, rfl, ?_⟩⟩
      obtain ⟨kept, hkept⟩ : ∃ kept, kept = decide ((0 : Int) < r) := ⟨_, rfl⟩
      have k45 := (k4.new (o := .lst []) hL).trans k5
      have v5 : H5 va = some (dS ns fun n => .int (g2 n)) := k5 _ _ (by rw [upd_ne nLv.symm]; exact v4) nva
      have l5 : H5 L = some (.lst []) := k5 _ _ upd_same nLa
      refine ⟨_, rfl, a, 17, _, rfl, by decide, by decide, b5, by omega, fun m H6 m0 m1 b6 k6 => ⟨m, rfl, by omega, by omega, ?_⟩⟩
      refine for_range (lo := 0) (n := m.toNat) (fun i σ H7 => ∃ (t u v c : Option V) (ps : List Addr) (bs : List (Bd Str)), σ = [some (.ref a), some (.ref p), some (.ref va), some (.ref L), some (.bl kept), t, u, v, c, none] ∧ H7 L = some (.lst (ps.map V.ref)) ∧ BdsAt H7 ps bs ∧
        (∀ b ∈ bs, BdOk b ∧ b.u ∈ ns ∧ b.v ∈ ns) ∧ bs.length ≤ i ∧ H7 va = some (dS ns fun n => .int (g2 n)) ∧ Bag H7 a (k + 2 * ns.length + 2 + 4 * i) ∧ Kp a H H7)
        ⟨none, none, none, none, [], [], by rw [hkept]; rfl, k6 _ _ l5 nLa, BdsAt.nil, (fun b h => nomatch h), Nat.le_refl _, k6 _ _ v5 nva, b6.mono (by omega), k45.trans k6⟩ ?_ ?_
      · rintro i σ H7 hi ⟨t, u, v, c, ps, bs, rfl, l7, bd7, ok7, len7, v7, b7, k7⟩
        have hne : ns.map V.str ≠ [] := fun e => by
          rw [List.map_eq_nil_iff] at e
          rw [e] at hzz
          cases hzz
        have hln : (ns.map V.str).length ≤ 1000 := by
          rw [List.length_map]
          omega
        refine ⟨_, rfl, _, rfl, a, p, _, _, rfl, k7 _ _ hp hpa, hpa, hne, hln, b7, by omega, fun j1 x1 H8 hj1 b8 k8 => ?_⟩
        obtain ⟨u1, hu1, rfl⟩ := map_str hj1
        refine ⟨_, rfl, _, rfl, a, p, _, _, rfl, k8 _ _ (k7 _ _ hp hpa) hpa, hpa, hne, hln, b8, by omega, fun j2 x2 H9 hj2 b9 k9 => ?_⟩
        obtain ⟨u2, hu2, rfl⟩ := map_str hj2
        refine ⟨_, rfl, _, rfl, _, _, rfl, rfl, pw, a, _, _, rfl, big.1, big.2, b9, by omega, fun r1 H10 r10 r11 b10 k10 => ⟨by show 4 ≤ sizeLine; decide, fun M hM => ?_⟩⟩
        have nMa : M ≠ a := fun e => by
          obtain ⟨_, _, _, h, _⟩ := b10
          rw [e, h] at hM
          cases hM
        refine ⟨a, M, _, _, rfl, upd_same, nMa, (by intro z; cases z), (by show 4 ≤ 1000; decide), b10.new hM, by omega, fun j3 x3 H11 hj3 b11 k11 => ⟨_, _, _, rfl, ?_⟩⟩
        obtain ⟨z, rfl⟩ : ∃ z, x3 = V.int z := by
          match j3, hj3 with
          | 0, hj => exact ⟨_, (Option.some.inj hj).symm⟩
          | 1, hj => exact ⟨_, (Option.some.inj hj).symm⟩
          | 2, hj => exact ⟨_, (Option.some.inj hj).symm⟩
          | 3, hj => exact ⟨_, (Option.some.inj hj).symm⟩
        have kk : Kp a H7 H11 := ((k8.trans k9).trans (k10.new hM)).trans k11
        have mu1 : u1 ∈ ns := List.mem_of_getElem? hu1
        have mu2 : u2 ∈ ns := List.mem_of_getElem? hu2
        have l11 := kk _ _ l7 nLa
        have v11 := kk _ _ v7 nva
        have nat : ∀ b xs, H7 b = some (.tup xs) → b ≠ a := fun b xs e z => by
          obtain ⟨_, _, _, h, _⟩ := b7
          rw [z, h] at e
          cases e
        have bd11 : BdsAt H11 ps bs := bd7.same fun b xs e => kk _ _ e (nat b xs e)
        have k711 := k7.trans kk
        have b11' : Bag H11 a (k + 2 * ns.length + 2 + 4 * (i + 1)) := b11.mono (by omega)
        refine ⟨_, rfl, _, rfl, rfl, _, rfl, ?_⟩
        by_cases e12 : u1 = u2
        · have h : (!decide (V.str u1 = V.str u2)) = false := by simp [e12]
          rw [h]
          exact iteF ⟨_, _, _, _, ps, bs, rfl, l11, bd11, ok7, by omega, v11, b11', k711⟩
        · have h : (!decide (V.str u1 = V.str u2)) = true := by simp [e12]
          rw [h]
          refine iteT ?_
          refine ⟨_, rfl, .inl ⟨rfl, _, SqL.of l11⟩, _, rfl, _, rfl, _, rfl, _, rfl, _, rfl, ?_⟩
          have fin : ∀ (cc : Int) (t9 : Addr) (σ' : L2.St) (H12 : Hp), H12 = upd (upd H11 t9 (.tup [.str u1, .str u2, .int cc])) L (.lst (ps.map V.ref ++ [.ref t9])) → H11 t9 = none →
              H12 L = some (.lst ((ps ++ [t9]).map V.ref)) ∧ BdsAt H12 (ps ++ [t9]) (bs ++ [⟨u1, u2, cc⟩]) ∧ (∀ b ∈ bs ++ [(⟨u1, u2, cc⟩ : Bd Str)], BdOk b ∧ b.u ∈ ns ∧ b.v ∈ ns) ∧ (bs ++ [(⟨u1, u2, cc⟩ : Bd Str)]).length ≤ i + 1 ∧
              H12 va = some (dS ns fun n => .int (g2 n)) ∧ Bag H12 a (k + 2 * ns.length + 2 + 4 * (i + 1)) ∧ Kp a H H12 := by
            rintro cc t9 σ' H12 rfl ht9
            have nLt : L ≠ t9 := ne_of_none l11 ht9
            refine ⟨by rw [upd_same, List.map_append]; rfl, BdsAt.append (bd11.same fun b xs e => ?_) (BdsAt.one ?_), fun b hb => ?_, by simp; omega, ?_, ?_, ?_⟩
            · rw [upd_ne (ne_of e l11 fun z => nomatch z), upd_ne (ne_of_none e ht9)]
              exact e
            · show upd _ L _ t9 = _
              rw [upd_ne nLt.symm]
              exact upd_same
            · rcases List.mem_append.mp hb with z | z
              · exact ok7 b z
              · rw [List.mem_singleton.mp z]
                exact ⟨⟨hno u1 mu1, hno u2 mu2, e12⟩, mu1, mu2⟩
            · rw [upd_ne nLv.symm, upd_ne (ne_of_none v11 ht9)]
              exact v11
            · exact (b11'.new (o := .tup [.str u1, .str u2, .int cc]) ht9).at fun o e => by
                rw [upd_ne nLa.symm]
                exact e
            · exact fun b o e na => by
                rw [upd_ne (ne_of_none e hL0)]
                exact (k711.new ht9) b o e na
          have lsz : (ps.map V.ref).length < sizeLine := by
            rw [List.length_map, bd11.len, sizeLine_eq]
            omega
          cases kept with
          | true =>
            refine iteT ⟨_, rfl, _, rfl, va, _, rfl, dS_get v11 mu1, _, rfl, _, rfl, va, _, rfl, dS_get v11 mu2, _, _, rfl, rfl, _, _, rfl, rfl, by show 3 ≤ sizeLine; decide, fun t9 ht9 => ⟨L, _, _, rfl, rfl, by rw [upd_ne (ne_of_none l11 ht9)]; exact l11, lsz, ?_⟩⟩
            obtain ⟨a1, a2, a3, a4, a5, a6, a7⟩ := fin _ t9 [] _ rfl ht9
            exact ⟨_, _, _, _, _, _, rfl, a1, a2, a3, a4, a5, a6, a7⟩
          | false =>
            refine iteF ⟨_, rfl, _, _, rfl, rfl, by show 3 ≤ sizeLine; decide, fun t9 ht9 => ⟨L, _, _, rfl, rfl, by rw [upd_ne (ne_of_none l11 ht9)]; exact l11, lsz, ?_⟩⟩
            obtain ⟨a1, a2, a3, a4, a5, a6, a7⟩ := fin _ t9 [] _ rfl ht9
            exact ⟨_, _, _, _, _, _, rfl, a1, a2, a3, a4, a5, a6, a7⟩
      · rintro σ H7 ⟨t, u, v, c, ps, bs, rfl, l7, bd7, ok7, len7, v7, b7, k7⟩
        exact ⟨_, rfl, q L H7 ps bs hL0 l7 bd7 ok7 (by omega) (b7.mono (by omega)) k7⟩
end
end K31

namespace K31
open PySem L2
open PyProof.Rows (IsTup)
/-! ### dict(pairs), the keys tuples, all unlike -/
theorem atKey_mem {K : Type} [DecidableEq K] {k : K} {xs : List (K × Addr × Value)} (h : k ∉ xs.map (·.1)) : atKey xs k = none :=
  atKey_none_of_get fun j p e => h (List.mem_map.mpr ⟨_, List.mem_of_getElem? e, rfl⟩)
theorem stored_all {K : Type} [DecidableEq K] : ∀ (ps xs : List (K × Addr × Value)), ((xs ++ ps).map (·.1)).Nodup → storedAllH xs ps = xs ++ ps
  | [], xs, _ => by rw [List.append_nil]; rfl
  | (k, a, v) :: ps, xs, h => by
    have hk : k ∉ xs.map (·.1) := fun m => by
      rw [List.map_append, List.map_cons] at h
      exact (List.nodup_append.mp h).2.2 k m k (List.mem_cons_self ..) rfl
    show storedAllH (storedH xs k a v) ps = _
    rw [storedH_new (atKey_mem hk)]
    have e : xs ++ (k, a, v) :: ps = (xs ++ [(k, a, v)]) ++ ps := by simp
    rw [e] at h ⊢
    exact stored_all ps _ h
section
variable {X : Cx}
/-- one pair: a tuple of a tracked tuple and a value -/
def PT (X : Cx) (H : Hp) (p : Addr) (kv : List Key × V) : Prop := ∃ b, SqT X.K H p [V.ref b, kv.2] ∧ H b = some (.tup (kv.1.map kV))
theorem pairsT_of {pins : List (Addr × Obj)} {σ : St} {H : Hp} {s : Shared} (I : Inv X pins σ H s) : ∀ {ps : List Addr} {kvs : List (List Key × V)}, Paired (PT X H) ps kvs →
    ∃ xs : List (List Key × Addr × Value), Paired (fun (p : List Key × V) (q : List Key × Addr × Value) => p.1 = q.1 ∧ H q.2.1 = some (.tup (p.1.map kV)) ∧ RelV p.2 q.2.2) kvs xs ∧ xs.length = ps.length ∧
      ∀ (j : Nat) (q : List Key × Addr × Value), xs[j]? = some q → ∃ (b : Addr), ps[j]? = some b ∧ IsTup s.heap b #[.ref q.2.1, q.2.2] ∧ H q.2.1 = some (.tup (q.1.map kV))
  | _, _, .nil => ⟨[], .nil, rfl, fun j q e => by simp at e⟩
  | _, _, .cons (a := p) (b := kv) h t => by
    obtain ⟨xs, r, hl, hp⟩ := pairsT_of I t
    obtain ⟨b, h1, h2⟩ := h
    obtain ⟨its, rv, ht, _⟩ := I.tuple h1
    obtain ⟨u, y, ei, ru, ry⟩ := vals2 rv
    subst ei
    cases (show u = Value.ref b from ru)
    refine ⟨(kv.1, b, y) :: xs, .cons ⟨rfl, h2, ry⟩ r, by rw [List.length_cons, List.length_cons, hl], fun j q e => ?_⟩
    cases j with
    | zero =>
      have e' : (kv.1, b, y) = q := Option.some.inj e
      subst e'
      exact ⟨p, rfl, ht, h2⟩
    | succ j =>
      obtain ⟨c, e1, e2, e3⟩ := hp j q (by simpa using e)
      exact ⟨c, by simpa using e1, e2, e3⟩
theorem paired_keys {H : Hp} : ∀ {kvs : List (List Key × V)} {xs : List (List Key × Addr × Value)}, Paired (fun (p : List Key × V) (q : List Key × Addr × Value) => p.1 = q.1 ∧ H q.2.1 = some (.tup (p.1.map kV)) ∧ RelV p.2 q.2.2) kvs xs → xs.map (·.1) = kvs.map (·.1)
  | _, _, .nil => rfl
  | _, _, .cons h t => by rw [List.map_cons, List.map_cons, paired_keys t, h.1]
/-- dict(xs) of a list of pairs (key, value), the keys tuples, all unlike -/
theorem call_dictPT (hcalm : X.calm = true) (hu : X.A.units + 2 < cLine) : CallR X (.type "dict") (fun xs H Q => ∃ (a : Addr) (ps : List Addr) (kvs : List (List Key × V)), xs = [.ref a] ∧ SqL X.K H a (ps.map V.ref) ∧ Paired (PT X H) ps kvs ∧ (kvs.map (·.1)).Nodup ∧
    ∀ p, H p = none → Q (.ref p) (upd H p (.dT kvs))) := by
  intro pins s σ H xs us Q I r q
  obtain ⟨a, ps, kvs, ex, hq, hp, hn, q⟩ := q
  subst ex
  obtain ⟨u, eu, rx⟩ := vals1 r
  subst eu
  cases rx
  obtain ⟨its, rv, pl, hz⟩ := I.list hq
  have ei := refs_at rv
  subst ei
  rw [List.length_map] at hz
  obtain ⟨zs, rel, hl, hpr⟩ := pairsT_of I hp
  have hkn : (zs.map (·.1)).Nodup := by rw [paired_keys rel]; exact hn
  have hall : storedAllH [] zs = zs := stored_all zs [] (by simpa using hkn)
  have hm : (s.heap.objs.size == sysModules) = false := beq_eq_false_iff_ne.mpr (Nat.ne_of_gt I.big)
  have hlen : kvs.length ≤ sizeLine := by rw [rel.length, hl]; exact hz
  have hst : ∀ (h' : Heap), (∀ b o, s.heap.get? b = some o → h'.get? b = some o) → ∀ x ∈ zs, (tupleKind (mixKind X.prog X.w)).is h' x.1 x.2.1 := fun h' k x hx => by
    obtain ⟨j, hj⟩ := List.mem_iff_getElem?.mp hx
    obtain ⟨c, _, _, e3⟩ := hpr j x hj
    exact key_of (H := H) (I.hok.kept k) e3
  obtain ⟨o, n, ho, hc, hd, hdat⟩ := pl
  refine call_dict_pairsH (knd := tupleKind (mixKind X.prog X.w)) (ps := zs) (PairArg.list a (ps.map Value.ref).toArray (fun j => (ps[j]?).getD 0) (zs.map fun x => (Value.ref x.2.1, x.2.2))) (I.ok.hd hcalm) (show X.A.in1.in1.units < cLine from ?_) ⟨⟨o, n, ho, hc, hd, hdat⟩, ?_, ?_⟩ ⟨?_, ?_⟩ ?_ ?_ ?_
  · exact hu
  · simp [hl]
  · intro j k v e
    rw [List.getElem?_map] at e
    obtain ⟨x, hx, e2⟩ := Option.map_eq_some_iff.mp e
    cases e2
    obtain ⟨b, e1, e2, _⟩ := hpr j x hx
    refine ⟨by simp [e1], .inl ?_⟩
    obtain ⟨o3, f1, f2, f3⟩ := e2
    show s.heap.IsTuple ((ps[j]?).getD 0) _
    rw [e1]
    exact ⟨o3, f1, f2, f3⟩
  · rw [List.length_map]
  · intro i key v e
    have e : (zs.map fun x => (Value.ref x.2.1, x.2.2))[i]? = some (key, v) := e
    rw [List.getElem?_map] at e
    obtain ⟨x, hx, e2⟩ := Option.map_eq_some_iff.mp e
    cases e2
    exact ⟨x.1, x.2.1, hx, rfl⟩
  · intro h' hk x hx
    exact hst h' (fun b o e => hk b o (Nat.ne_of_lt (Heap.lt_size e)) (fun z => nomatch z) e) x hx
  · rw [List.length_map, hl]
    exact hz
  · intro h' tk hd' k
    rw [hall] at hd'
    obtain ⟨o2, es, ep, h1, h2, h3, h4, h5, h6⟩ := hd'
    have hnone : H s.heap.objs.size = none := I.hok.fresh (Nat.le_refl _)
    refine ⟨.ref s.heap.objs.size, upd H s.heap.objs.size (.dT kvs), I.laid (t' := tk) (fun b o e => k b o (fun z => nomatch z) e) (Nat.le_refl _) ?_, rfl, q _ hnone⟩
    refine ⟨hlen, hm, zs, Paired.mapP rel fun p z r => ⟨r.1, ?_, r.2.2⟩, o2, es, ep, h1, h2, h3, h4, h6⟩
    rw [upd_ne (ne_of_none r.2.1 hnone)]
    exact r.2.1
end
end K31

namespace K31
open PySem L2
/-! ### == of two dicts of the same texts, ints within -/
theorem hits_int {A : Around} {s : Shared} {g k : Str → Int} {js : List Str} {vb : List (Key × Value)} (rb : KV (dct kS js fun n => .int (k n)) vb) :
    ∀ {ks : List Str} {va : List (Key × Value)}, (∀ n ∈ ks, n ∈ js) → KV (dct kS ks fun n => .int (g n)) va → PySem.W.KeqHits A s vb va (ks.all fun n => g n == k n)
  | [], _, _, .nil => .nil
  | n :: ks, _, hm, .cons (b := q) h t => by
    obtain ⟨h1, h2⟩ := h
    obtain ⟨kq, vq⟩ := q
    obtain ⟨tk, e2⟩ := (show ∃ t, vq = Value.int (g n) t from h2)
    have h1' : kS n = kq := h1
    subst e2
    have rr : RelO (some (V.int (k n))) (valueAt vb kq) := by
      rw [← h1', ← dct_get kS_inj (g := fun n => V.int (k n)) (hm n (List.mem_cons_self ..))]
      exact rb.val (kS n)
    obtain ⟨y, hy, ry⟩ := rr.some_of
    obtain ⟨tk2, e3⟩ := (show ∃ t, y = Value.int (k n) t from ry)
    subst e3
    rw [List.all_cons]
    exact .hit hy ((MeetsSeq.EqGives.int (g n) (k n) tk tk2).at A s) (hits_int rb (fun m hx => hm m (List.mem_cons_of_mem _ hx)) t)
section
variable {X : Cx}
def rEqDI : R2 := fun x y H Q => ∃ (a b : Addr) (ks : List Str) (g k : Str → Int), x = .ref a ∧ y = .ref b ∧ H a = some (dS ks fun n => .int (g n)) ∧ H b = some (dS ks fun n => .int (k n)) ∧ Q (.bl (ks.all fun n => g n == k n)) H
theorem op_eq_dictI (hu : X.A.units < cLine) : OpR X (compareOp .Eq) rEqDI := by
  intro pins s σ H x y v u Q I rx ry h
  obtain ⟨a, b, ks, g, k, rfl, rfl, ea, eb, q⟩ := h
  obtain rfl : v = Value.ref a := rx
  obtain rfl : u = Value.ref b := ry
  obtain ⟨_, ya, va, ra, da⟩ := (show ObjOk X.prog X.w H s.heap a (.dK (dct kS ks fun n => .int (g n))) from I.hok a _ ea)
  obtain ⟨_, yb, vb, rb, db⟩ := (show ObjOk X.prog X.w H s.heap b (.dK (dct kS ks fun n => .int (k n))) from I.hok b _ eb)
  have hl : va.length = vb.length := by rw [← ra.length, ← rb.length, dct_len, dct_len]
  exact PySem.W.keq_eq (knd := mixKind X.prog X.w) (r := ks.all fun n => g n == k n) ya yb da db hu (fun _ => hits_int rb (fun _ h => h) ra) (fin_bl I q (by simp [hl]))
end
end K31

namespace K31
open PySem L2
open PySem.Froz (SD sObj TxOk addTx tailTx)
/-! ### a set of texts that can be walked -/
/-- the payload D holds just the texts of l, and its table is in order -/
structure SOk (P : Program) (w : World) (D : SD) (l : List Str) : Prop where
  ok : TxOk P w D l
  ris : Ris D.2.2.place.toList
  led : w.params.followText "set-order" = true ∨ D.2.2.led = true
def SetS (P : Program) (w : World) (h : Heap) (a : Addr) (l : List Str) : Prop := ∃ D : SD, h.get? a = some (sObj "set" D) ∧ SOk P w D l
section
variable {P : Program} {w : World} {A : Around} {E : Value → Shared → Prop} {s : Shared} {a : Addr} {l : List Str}
theorem tail_ris {ep : Nat} {es : Array (Int × Value)} {t : SetTable} {d : Bool} (r : Ris t.place.toList) : Ris (tailTx ep es t d).2.2.place.toList := by
  unfold tailTx
  split
  · exact relayAll_ris t es _
  · exact r
theorem tail_led {ep : Nat} {es : Array (Int × Value)} {t : SetTable} {d : Bool} : (tailTx ep es t d).2.2.led = t.led := by
  unfold tailTx
  split
  · exact relayAll_led t es _
  · rfl
theorem SOk.add {D : SD} {k : Str} (u : Tok) (F : SOk P w D l) : SOk P w (addTx (hashStr w k) (.str k u) D) (k :: l) := by
  have r1 := layNew_ris D.2.2 D.1 (hashStr w k) (.str k u) F.ris
  have l1 := layNew_led D.2.2 D.1 (hashStr w k) (.str k u)
  refine ⟨PySem.Froz.add_ok u F.ok, ?_, ?_⟩
  · unfold addTx
    refine tail_ris ?_
    split <;> exact r1
  · refine F.led.imp id fun e => ?_
    unfold addTx
    rw [tail_led, ← e, ← l1]
    split <;> rfl
/-- the texts behind one more -/
def addS (l : List Str) (k : Str) : List Str := if k ∈ l then l else k :: l
theorem SetS.typ (R : SetS P w s.heap a l) : s.TypeIs (.ref a) "set" := let ⟨_, ho, _⟩ := R; ⟨_, ho, rfl⟩
/-- found.add(k) -/
theorem setS_add {k : Str} {u : Tok} {Q : Value → Shared → Prop} (R : SetS P w s.heap a l) (room : l.length + 1 < scanBound)
    (hQ : ∀ h', Heap.SameBut a s.heap h' → SetS P w h' a (addS l k) → Q .none { s with heap := h', toks := s.toks + 1 }) : wpAny (model P w) A (call (.builtin "set.add") [.ref a, .str k u]) Q E s := by
  refine wpAny_call_entry F.slot_set_add R.typ F.entry_set_add ?_ (F.args_set_add_2 _ _)
  have hk : (strKind P w).is k (.str k u) = true := PySem.Froz.is_str k u
  obtain ⟨D, ho, F⟩ := R
  unfold Builtin.«set.add» Builtin.Frozenset.oneOther
  simp only [List.isEmpty_nil, bind_assoc]
  unfold Builtin.Frozenset.addrOf setAdd
  refine wpAny_bind (wpAny_pure (wpAny_bind (wpAny_pure (wpAny_bind (wpAny_holding (wpAny_bind ((strKind P w).pyHash hk ?_))))) ))
  by_cases hm : k ∈ l
  · obtain ⟨es, ep, t⟩ := D
    have hd : (sObj "set" (es, ep, t)).data = .set es ep t := rfl
    have hb : es.size < scanBound := by
      have z : es.size = l.length := F.ok.sz
      omega
    have hel : ElemsOf (strKind P w) es.toList := F.ok.el
    obtain ⟨e, he, hke⟩ := (F.ok.mem k).mp hm
    unfold setAddHashed setAddHashedIn
    refine wpAny_holding (wpAny_bind (wpAny_setState_of ho hd F.ok.fit ?_))
    dsimp only
    rw [byScan_of rfl hb hel]
    simp only [↓reduceIte]
    unfold setAddByScan
    refine wpAny_bind (wpAny_bind (wpAny_rule (wpAny_bind (wpAny_setScan_of hk ho hd F.ok.fit hel ?_))))
    cases hf : List.findIdx? (fun e => (strKind P w).is k e.2) es.toList with
    | none =>
      have z := List.findIdx?_eq_none_iff.mp hf e he
      rw [hke] at z
      cases z
    | some j =>
      dsimp only
      refine wpAny_pure (wpAny_pure (wpAny_pure ⟨_, rfl, hQ s.heap (Heap.SameBut.refl a s.heap) ⟨(es, ep, t), ho, ?_⟩⟩))
      unfold addS
      rw [if_pos hm]
      exact F
  · refine PySem.Froz.add_x (s := { s with toks := s.toks + 1 }) ho F.ok hm room ?_
    show wpAny _ _ (ret Value.none) _ _ _
    refine wpAny_pure ⟨_, rfl, hQ _ (Heap.SameBut.update ..) ⟨_, PySem.Froz.get_upd _ ho rfl, ?_⟩⟩
    unfold addS
    rw [if_neg hm]
    exact F.add u
end
/-! ### as a tracked thing -/
def SetSO (P : Program) (w : World) (a : Addr) (l : List Str) : HO := .ext fun h => SetS P w h a l
theorem SetS.at {P : Program} {w : World} {h h' : Heap} {a : Addr} {l : List Str} (R : SetS P w h a l) (k : ∀ o, h.get? a = some o → h'.get? a = some o) : SetS P w h' a l := let ⟨D, ho, F⟩ := R; ⟨D, k _ ho, F⟩
theorem setSO_ok {P : Program} {w : World} {H : Hp} {h : Heap} {a : Addr} {l : List Str} (R : SetS P w h a l) : ObjOk P w H h a (SetSO P w a l) := by
  have ⟨_, ho, _⟩ := R
  exact ⟨R, ⟨_, ho⟩, fun _ _ p k => SetS.at p k⟩
theorem setS_nil {P : Program} {w : World} {h : Heap} : SetS P w (h.push { cls := .type "set", dict := none, data := .set #[] 0 (.fresh 0 0 (!w.params.followText "set-order")) }) h.objs.size [] := by
  refine ⟨(#[], 0, .fresh 0 0 (!w.params.followText "set-order")), Heap.get?_push_size _ rfl, TxOk.nil rfl, List.Pairwise.nil, ?_⟩
  show _ ∨ (!w.params.followText "set-order") = true
  cases w.params.followText "set-order"
  · exact .inr rfl
  · exact .inl rfl
section
variable {X : Cx} {pins : List (Addr × Obj)} {σ : L2.St} {H : Hp} {s : Shared} {a : Addr} {l : List Str} {E : Value → Shared → Prop}
theorem setSO_get (I : Inv X pins σ H s) (ha : H a = some (SetSO X.prog X.w a l)) : SetS X.prog X.w s.heap a l := (I.hok a _ ha).1
theorem addS_ok {k : Str} {u : Value} {Q : Value → Shared → Prop} (I : Inv X pins σ H s) (ha : H a = some (SetSO X.prog X.w a l)) (r : RelV (.str k) u) (room : l.length + 1 < scanBound)
    (h : ∀ s', Inv X pins σ (upd H a (SetSO X.prog X.w a (addS l k))) s' → Q .none s') : wpAny (model X.prog X.w) X.A (call (.builtin "set.add") [.ref a, u]) Q E s := by
  obtain ⟨t, rfl⟩ := r
  refine setS_add (setSO_get I ha) room fun h' sb R => h _ ?_
  have ⟨_, ho, _⟩ := R
  exact I.write (e := a) (by rw [ha]; trivial) (.inl rfl) (fun b v hb e => (sb.2 b hb).trans e) ⟨_, ho⟩ (setSO_ok R)
theorem perm_of {α : Type} [DecidableEq α] : ∀ {l m : List α}, l.Nodup → (∀ x ∈ l, x ∈ m) → m.length = l.length → m.Perm l
  | [], m, _, _, e => by rw [List.length_eq_zero_iff.mp e]
  | x :: l, m, hn, hs, e => by
    obtain ⟨h1, h2⟩ := List.nodup_cons.mp hn
    have hx := List.perm_cons_erase (hs x (List.mem_cons_self ..))
    refine hx.trans (List.Perm.cons x (perm_of h2 (fun y hy => ?_) ?_))
    · exact (List.mem_erase_of_ne (fun z : y = x => h1 (z ▸ hy))).mpr (hs y (List.mem_cons_of_mem _ hy))
    · have z := hx.length_eq
      rw [List.length_cons] at z e
      omega
/-- sorted(found): only that it lists the texts is told -/
def rSortSS (P : Program) (w : World) : List V → Hp → VK → Prop := fun vs H Q => ∃ (a : Addr) (l : List Str), vs = [V.ref a] ∧ H a = some (SetSO P w a l) ∧ l.length < 64 ∧ l.Nodup ∧
  ∀ (ns : List Str) (p : Addr), ns.Perm l → H p = none → Q (.ref p) (upd H p (.lst (ns.map V.str)))
theorem cr_sortSS (hc : X.calm = true) : CallR X (.builtin "sorted") (rSortSS X.prog X.w) := by
  intro pins s σ H vs us Q I r h
  obtain ⟨a, l, rfl, ha, h64, hnd, q⟩ := h
  obtain ⟨⟨es, ep, t⟩, ho, F⟩ := setSO_get I ha
  rw [Vals.ref1 r]
  have hsz : es.size = l.length := F.ok.sz
  have hb : es.size < scanBound := by
    rw [hsz]
    exact Nat.lt_trans h64 (by decide)
  refine Calls.call_function_entry PyProof.Rows.kind_sorted PyProof.Rows.plain_sorted PyProof.Rows.entry_sorted (PyProof.Rows.args_sorted1 _) ?_
  unfold Builtin.«sorted»
  refine wpAny_bind (m := checkCount "sorted" 1 1 _) (wpAny_pure (wpAny_bind (collect_set (A := X.A.in1) (I.ok.hd hc) ⟨_, ho, rfl, rfl⟩ F.ok.fit hb F.ris F.led fun s1 out k1 hz g1 o1 pm => ?_)))
  have hl : out.length = l.length := by rw [pm.length_eq, List.length_map, Array.length_toList]; exact hsz
  have all : ∀ v ∈ out, ∃ k u, v = Value.str k u := fun v hv => by
    obtain ⟨e, he, rfl⟩ := List.mem_map.mp (pm.mem_iff.mp hv)
    obtain ⟨⟨k, hk, _⟩, _⟩ := F.ok.el e he
    revert hk
    show Value.isStrOf k e.2 = true → _
    cases e.2 <;> intro z <;> first | exact ⟨_, _, rfl⟩ | cases z
  have hS := PyProof.Rows.strsAre_map out all
  have pl : (out.map PyProof.Rows.strOf).Perm l := by
    refine perm_of hnd (fun k hk => ?_) (by rw [List.length_map]; exact hl)
    obtain ⟨e, he, hke⟩ := (F.ok.mem k).mp hk
    refine List.mem_map.mpr ⟨e.2, pm.mem_iff.mpr (List.mem_map.mpr ⟨e, he, rfl⟩), ?_⟩
    revert hke
    show Value.isStrOf k e.2 = true → _
    cases e.2 <;> intro z <;> first | cases z | skip
    exact (of_decide_eq_true z)
  refine wpAny_bind (wpAny_newList ?_ (by rw [hl, sizeLine_eq]; omega))
  have hoL : (s1.heap.push (PyProof.Rows.seqObj "list" out.toArray 0)).get? s1.heap.objs.size = some (PyProof.Rows.seqObj "list" out.toArray 0) := Heap.get?_push_size _ rfl
  refine wpAny_bind (wpAny_holding (wpAny_call_entry PyProof.Rows.slot_list_sort ⟨_, hoL, rfl⟩ PyProof.Rows.entry_list_sort
    (PyProof.Rows.list_sort_treeK PyProof.Rows.strKind_oneLt hoL hS.keysOf (fun v1 v2 rest e => PyProof.Rows.keyKind_strs (by rw [← e]; exact hS)) (by rw [hl]; exact h64) fun st hp hs => ⟨_, rfl, ?_⟩) (PyProof.Rows.args_list_sort _)))
  obtain ⟨ns, n1, n2, _⟩ := PyProof.Rows.sorted_out_str hS hp hs
  obtain ⟨c, hc2⟩ := PyProof.Rows.sortedHeap_at (vs := out) (out := (PyProof.Rows.arrOf st).map (·.2)) hoL
  have n3 : ns.Perm l := n2.trans pl
  have hlen : (ns.map V.str).length ≤ sizeLine := by rw [List.length_map, n3.length_eq, sizeLine_eq]; omega
  have hn : H s1.heap.objs.size = none := I.hok.fresh hz
  refine wpAny_pure ⟨_, rfl, ?_⟩
  have k2 : ∀ b u, s.heap.get? b = some u → (PyProof.Rows.sortedHeap (s1.heap.push (PyProof.Rows.seqObj "list" out.toArray 0)) s1.heap.objs.size out ((PyProof.Rows.arrOf st).map (·.2))).get? b = some u := fun b u e => by
    have q1 := k1 b u e
    have hlt := Heap.lt_size q1
    rw [PyProof.Rows.sortedHeap_old (Nat.ne_of_lt hlt) (by rw [Heap.size_push]; exact Nat.lt_succ_of_lt hlt)]
    exact Heap.get?_push_of_some _ q1
  obtain ⟨hp1, gn, dr, tk, os⟩ := s1
  cases g1
  cases o1
  have J : Inv X pins σ (upd H hp1.objs.size (.lst (ns.map V.str))) { s with heap := PyProof.Rows.sortedHeap (hp1.push (PyProof.Rows.seqObj "list" out.toArray 0)) hp1.objs.size out ((PyProof.Rows.arrOf st).map (·.2)), gens := s.gens, drawn := dr, toks := tk } :=
    I.call (ch := []) (Un.laid k2 hz hn) (I.hok.laid k2 hz ⟨hlen, _, c, vals_of_strs n1, hc2⟩) I.bare (fun _ z => nomatch z)
  exact ⟨.ref hp1.objs.size, _, J, rfl, q ns _ n3 hn⟩
end
end K31

namespace K31
open PySem L2 PySem.Spec
/-! ### {elt for t0 in i0 for t1 in i1}, elt a text -/
abbrev sc2 (elt t0 i0 t1 i1 : Expr) (sc : Scope) (pos : Pos) : Expr := .SetComp elt [⟨t0, i0, [], 0⟩, ⟨t1, i1, [], 0⟩] sc pos
section
variable {prog : Program} {w : World} {A : Around} {R : Result → Shared → Prop} {s : Shared} {elt t0 i0 t1 i1 : Expr} {sc : Scope} {pos : Pos} {it acc : Value} {env : Env}
/-- what is raised in a turn -/
abbrev bad (prog : Program) (w : World) (A : Around) (env : Env) (R : Result → Shared → Prop) : Value → Shared → Prop := notedBy (model prog w) A env fun e s' => R (.error e) s'
theorem turn_out : compTurn (sc2 elt t0 i0 t1 i1 sc pos) 0 it acc env = (do
    standAt i0.pos
    match ← pyNext it with
    | none => pure (.done .next)
    | some v =>
      letOwnedTupleGo t0 it v
      assign t0 env v
      let x ← eval i1 env
      standAt i1.pos
      let x ← foldedSetIterable i1 env x
      let _ ← runOwn (.compStart (sc2 elt t0 i0 t1 i1 sc pos) 1 (← holding [x] (pyIter x)) acc env) env
      again (.compLoop (sc2 elt t0 i0 t1 i1 sc pos) 0 it acc env)) := by rfl
theorem turn_in : compTurn (sc2 elt t0 i0 t1 i1 sc pos) 1 it acc env = (do
    standAt i1.pos
    match ← pyNext it with
    | none => pure (.done .next)
    | some v =>
      letOwnedTupleGo t1 it v
      assign t1 env v
      (do let y ← eval elt env; standAt elt.pos; let _ ← call (.builtin "set.add") [acc, y])
      again (.compLoop (sc2 elt t0 i0 t1 i1 sc pos) 1 it acc env)) := by rfl
/-- the loop of the first clause -/
theorem loop_out (hs : ∀ x, foldedSetIterable i1 env x = pure x) (I : Nat → Shared → Prop)
    (turn : ∀ n s, I n s → wpAny (model prog w) A (pyNext it) (fun r s1 => match r with
      | none => R (.ok .next) s1
      | some v => wpAny (model prog w) A (letOwnedTupleGo t0 it v) (fun _ s2 => wpAny (model prog w) A (assign t0 env v) (fun _ s3 => wpAny (model prog w) A (eval i1 env) (fun x s4 => wpAny (model prog w) A (pyIter x) (fun j s5 =>
          codeAny (model prog w) A (.compStart (sc2 elt t0 i0 t1 i1 sc pos) 1 j acc env) (fun r s' => match r with
            | .ok _ => ∃ m, m < n ∧ I m s'
            | .error _ => False) s5)
        (bad prog w A env R) s4) (bad prog w A env R) s3) (bad prog w A env R) s2) (bad prog w A env R) s1) (bad prog w A env R) s) (n : Nat) (h : I n s) :
    codeAny (model prog w) A (.compLoop (sc2 elt t0 i0 t1 i1 sc pos) 0 it acc env) R s := by
  refine codeAny_loop rfl I (fun n s hI => ?_) n h
  show wpAny _ A ((compTurn (sc2 elt t0 i0 t1 i1 sc pos) 0 it acc env).onRaise (fun x => do noteFrame x env; theTreesLotGoes x)) _ _ s
  refine wpAny_noted ?_
  rw [turn_out]
  refine wpAny_bind (wpAny_standAt (wpAny_bind (wpAny_mono (turn n s hI) (fun r s1 h1 => ?_) fun _ _ q => q)))
  cases r with
  | none => exact wpAny_pure h1
  | some v =>
    refine wpAny_bind (wpAny_mono h1 (fun _ s2 h2 => wpAny_bind (wpAny_mono h2 (fun _ s3 h3 => wpAny_bind (wpAny_mono h3 (fun x s4 h4 => ?_) fun _ _ q => q)) fun _ _ q => q)) fun _ _ q => q)
    refine wpAny_bind (wpAny_standAt (wpAny_bind (wpAny_of_eq (hs x) (wpAny_bind (wpAny_holding (wpAny_mono h4 (fun j s5 h5 => wpAny_bind (wpAny_runOwn ?_)) fun _ _ q => q))))))
    rw [Around.mark_none]
    refine codeAny_mono h5 fun r s' hr => ?_
    cases r with
    | ok f => first | exact wpAny_pure ⟨rfl, hr⟩ | exact wpAny_bind (wpAny_pure (wpAny_pure ⟨rfl, hr⟩))
    | error e => exact hr.elim
/-- the loop of the second -/
theorem loop_in (I : Nat → Shared → Prop)
    (turn : ∀ n s, I n s → wpAny (model prog w) A (pyNext it) (fun r s1 => match r with
      | none => R (.ok .next) s1
      | some v => wpAny (model prog w) A (letOwnedTupleGo t1 it v) (fun _ s2 => wpAny (model prog w) A (assign t1 env v) (fun _ s3 => wpAny (model prog w) A (eval elt env) (fun y s4 =>
          wpAny (model prog w) A (call (.builtin "set.add") [acc, y]) (fun _ s5 => ∃ m, m < n ∧ I m s5)
        (bad prog w A env R) s4) (bad prog w A env R) s3) (bad prog w A env R) s2) (bad prog w A env R) s1) (bad prog w A env R) s) (n : Nat) (h : I n s) :
    codeAny (model prog w) A (.compLoop (sc2 elt t0 i0 t1 i1 sc pos) 1 it acc env) R s := by
  refine codeAny_loop rfl I (fun n s hI => ?_) n h
  show wpAny _ A ((compTurn (sc2 elt t0 i0 t1 i1 sc pos) 1 it acc env).onRaise (fun x => do noteFrame x env; theTreesLotGoes x)) _ _ s
  refine wpAny_noted ?_
  rw [turn_in]
  refine wpAny_bind (wpAny_standAt (wpAny_bind (wpAny_mono (turn n s hI) (fun r s1 h1 => ?_) fun _ _ q => q)))
  cases r with
  | none => exact wpAny_pure h1
  | some v =>
    refine wpAny_bind (wpAny_mono h1 (fun _ s2 h2 => wpAny_bind (wpAny_mono h2 (fun _ s3 h3 => ?_) fun _ _ q => q)) fun _ _ q => q)
    exact wpAny_bind (wpAny_bind (wpAny_mono h3 (fun y s4 h4 => wpAny_bind (wpAny_standAt (wpAny_bind (wpAny_mono h4 (fun _ s5 h5 => wpAny_pure (wpAny_pure ⟨rfl, h5⟩)) fun _ _ q => q)))) fun _ _ q => q))
/-- the second clause's start -/
theorem start_in (h0 : codeAny (model prog w) A (.compLoop (sc2 elt t0 i0 t1 i1 sc pos) 1 it acc env) R s)
    (h : wpAny (model prog w) A (pyIter it) (fun j s' => codeAny (model prog w) A (.compLoop (sc2 elt t0 i0 t1 i1 sc pos) 1 j acc env) R s') (bad prog w A env R) s) :
    codeAny (model prog w) A (.compStart (sc2 elt t0 i0 t1 i1 sc pos) 1 it acc env) R s := by
  refine codeAny_of_tree ?_
  show wpAny _ _ ((compStart (sc2 elt t0 i0 t1 i1 sc pos) 1 it acc env).onRaise (fun x => do noteFrame x env; standAt theWindowsPlace)) _ _ s
  refine wpAny_notedAt ?_
  unfold compStart
  show wpAny _ _ (ask >>= _) _ _ s
  refine wpAny_bind (wpAny_askSetting (wpAny_ite ?_))
  split
  · first | exact wpAny_bind (wpAny_pure (wpAny_pure (And.intro rfl h0))) | exact wpAny_pure (And.intro rfl h0)
  · refine wpAny_bind (wpAny_rule ?_)
    show wpAny _ _ (standAt i1.pos >>= _) _ _ s
    exact wpAny_bind (wpAny_standAt (wpAny_bind (wpAny_mono h (fun j s' q => wpAny_pure (And.intro rfl q)) fun _ _ x => x)))
end
section
variable {X : Cx}
/-- behind the first clause's store the second source's own loop, from which Nx is reached. vs: the block's names; ws: those of the second target -/
def tSc2 (X : Cx) (wi : TI) (g : TG) (wj : TI) (k : TG) (te : TE) (vs ws : List Nat) : TE := fun σ H Q => wi σ H fun J H1 => ∀ D, H1 D = none → ∃ W : Nat → Nat → Hp → Prop, (∃ m, W 0 m (upd H1 D (SetSO X.prog X.w D []))) ∧ ∀ i m H, W i m H →
  (J.stop i H ∧ Q (.ref D) H) ∨ (J.go i H ∧ ∃ Nx : Hp → Prop, (∀ H', Nx H' → ∃ n, n < m ∧ W (i + 1) n H') ∧ ∀ x H', J.yld i H x H' → g x (wipe σ vs) H' fun σ2 H2 => wipe σ2 vs = wipe σ vs ∧
    wj σ2 H2 fun J1 H3 => ∃ U : Nat → Nat → Hp → Prop, (∃ n, U 0 n H3) ∧ ∀ j n H, U j n H →
      (J1.stop j H ∧ Nx H) ∨ (J1.go j H ∧ ∃ Ny : Hp → Prop, (∀ H', Ny H' → ∃ n', n' < n ∧ U (j + 1) n' H') ∧ ∀ x H', J1.yld j H x H' → k x (wipe σ2 ws) H' fun σ3 H4 => wipe σ3 ws = wipe σ2 ws ∧
        te σ3 H4 fun y H5 => ∃ z l, y = .str z ∧ H5 D = some (SetSO X.prog X.w D l) ∧ l.length + 1 < scanBound ∧ Ny (upd H5 D (SetSO X.prog X.w D (addS l z)))))
theorem pe_sc2 {elt t0 i0 t1 i1 : Expr} {sc : Scope} {own : List (Str × Nat)} {ws : List Nat} {pos : Pos} {wi wj : TI} {g k : TG} {te : TE} (hc : X.calm = true) (hN : X.N.Nodup) (hi : PI X t0 i0 wi) (ok : BlkOk X.N X.env.scope sc own) (hv : ∀ i ∈ ws, i ∈ own.map (·.2))
    (hg : ∀ (s : Shared) (H : Hp) (C : Addr) (cl : List (Str × Addr)) (fp : List Addr), PG (X.blk s H sc (compEnvC sc cl C X.env) fp) t0 g)
    (hj : ∀ (s : Shared) (H : Hp) (C : Addr) (cl : List (Str × Addr)) (fp : List Addr), PI (X.blk s H sc (compEnvC sc cl C X.env) fp) t1 i1 wj)
    (hk : ∀ (s : Shared) (H : Hp) (C : Addr) (cl : List (Str × Addr)) (fp : List Addr), PG (X.blk s H sc (compEnvC sc cl C X.env) fp) t1 k)
    (he : ∀ (s : Shared) (H : Hp) (C : Addr) (cl : List (Str × Addr)) (fp : List Addr), PE (X.blk s H sc (compEnvC sc cl C X.env) fp) elt te)
    (hs : ∀ x, foldedSetIterable i0 X.env x = pure x := by intro _; rfl) (hs1 : ∀ env x, foldedSetIterable i1 env x = pure x := by intro _ _; rfl) :
    PE X (sc2 elt t0 i0 t1 i1 sc pos) (tSc2 X wi g wj k te (own.map (·.2)) ws) := by
  refine ⟨fun pins s σ H Q I h => ?_⟩
  rw [PpSet.eval_SetComp]
  have free : ∀ y ∈ sc.names, y.2 = .free → ∃ c, X.env.cells.lookup y.1 = some c := fun y hy e => (ok.free y hy e).elim (fun z => I.ok.has _ (.inl z)) fun z => I.ok.has _ (.inr z)
  refine wpAny_comprehension_free rfl hs (closure_ok free) ok.kind (fun y hy e => by rw [ok.uniq y hy, e]) (thn (hi.run pins s σ H _ I h) fun xv s1 hx => thn hx fun iv s2 h2 => ?_)
  obtain ⟨it, fp, tn, J, H2, rfl, I2, T, st2, f2, q⟩ := h2
  refine PpSet.newSet_ok (newEnv_comp ?_)
  generalize hD : s2.heap.objs.size = D
  obtain ⟨W, ⟨m0, w0⟩, turn⟩ := q D (I2.hok.fresh (Nat.le_of_eq hD))
  -- the new set
  generalize hs3 : ({ s2 with heap := s2.heap.push { cls := .type "set", dict := none, data := .set #[] 0 (.fresh 0 0 (!X.w.params.followText "set-order")) } } : Shared) = s3
  have h3 : s3.heap = s2.heap.push { cls := .type "set", dict := none, data := .set #[] 0 (.fresh 0 0 (!X.w.params.followText "set-order")) } := by rw [← hs3]
  generalize hH3 : upd H2 D (SetSO X.prog X.w D []) = H3 at w0
  have I3 : Inv X pins σ H3 s3 := by
    rw [← hs3, ← hH3]
    refine I2.laid (t' := s2.toks) (fun b o e => Heap.get?_push_of_some _ e) (Nat.le_of_eq hD) ?_
    rw [← hD]
    exact setSO_ok setS_nil
  have f3 : ∀ b ∈ fp, FpOk X pins H3 b ∧ b < s3.heap.objs.size := fun b hb => by
    obtain ⟨o, e, _⟩ := T.obj _ _ st2 b hb
    have lt := Heap.lt_size e
    refine ⟨⟨?_, (f2 b hb).2⟩, by rw [h3, Heap.size_push]; exact Nat.lt_succ_of_lt lt⟩
    rw [← hH3, upd_ne (by rw [← hD]; exact Nat.ne_of_lt lt)]
    exact (f2 b hb).1
  have st3 : tn 0 s3.heap := T.keep _ _ _ st2 fun b _ o e => by rw [h3]; exact Heap.get?_push_of_some _ e
  have I4 := block_start I3 ok hN f3
  have pg := hg s3 H3 s3.heap.objs.size (cellsFrom (s3.heap.objs.size + 1) sc.names (cloFrom X.env.cells sc.names [])) fp
  have pj := hj s3 H3 s3.heap.objs.size (cellsFrom (s3.heap.objs.size + 1) sc.names (cloFrom X.env.cells sc.names [])) fp
  have pk := hk s3 H3 s3.heap.objs.size (cellsFrom (s3.heap.objs.size + 1) sc.names (cloFrom X.env.cells sc.names [])) fp
  have pe := he s3 H3 s3.heap.objs.size (cellsFrom (s3.heap.objs.size + 1) sc.names (cloFrom X.env.cells sc.names [])) fp
  have nfp : ∀ b ∈ fp, H3 b = none := fun b hb => (f3 b hb).1.1
  show codeAny _ _ (.compStart (sc2 elt t0 i0 t1 i1 sc pos) 0 (.ref it) (.ref D) (compEnvC sc (cellsFrom (s3.heap.objs.size + 1) sc.names (cloFrom X.env.cells sc.names [])) s3.heap.objs.size X.env)) (compPost (model X.prog X.w) X.A X.xe _ _ (.ref D) s3.heap.objs.size) { s3 with heap := pushCells (s3.heap.push { cls := .type "dict", data := .dict #[] }) sc.names }
  generalize hce : compEnvC sc (cellsFrom (s3.heap.objs.size + 1) sc.names (cloFrom X.env.cells sc.names [])) s3.heap.objs.size X.env = ce at I4 pg pj pk pe ⊢
  have cL : ce.locals = s3.heap.objs.size := by subst hce; rfl
  generalize hs4 : ({ s3 with heap := pushCells (s3.heap.push { cls := .type "dict", data := .dict #[] }) sc.names } : Shared) = s4 at I4 ⊢
  have st4 : tn 0 s4.heap := T.keep _ _ _ st3 fun b _ o e => by rw [← hs4]; exact pushCells_keeps _ _ _ _ (Heap.get?_push_of_some _ e)
  have stat : ∀ {σ' : L2.St} {H' : Hp} {s' : Shared}, Inv (X.blk s3 H3 sc ce fp) [] σ' H' s' → (∀ b ∈ fp, H' b = none) → ∀ b ∈ fp, FpOk (X.blk s3 H3 sc ce fp) [] H' b := fun {σ' H' s'} I' hn b hb =>
    ⟨hn b hb, (I'.ok.exf b hb).1, I'.ok.exfs b hb, .inl hb, fun x c e => (I'.ok.exf b hb).2 x c e, fun p hp => absurd (show p ∈ ([] : List (Addr × Obj)) ++ [] from hp) (by simp)⟩
  refine PpSet.codeAny_compStart_set ?_ (T.self X.A 0 _ _ _ st4 ?_)
  all_goals
    refine loop_out (hs1 ce) (fun n s' => ∃ i H', Inv (X.blk s3 H3 sc ce fp) [] (wipe σ (own.map (·.2))) H' s' ∧ tn i s'.heap ∧ (∀ b ∈ fp, H' b = none) ∧ W i n H') ?_ m0 ⟨0, H3, I4, st4, nfp, w0⟩
    rintro n s5 ⟨i, H5, I5, st5, n5, w5⟩
    rcases turn i n H5 w5 with ⟨stop, qq⟩ | ⟨go, Nx, hNx, step⟩
    · refine thnF (T.done (X.blk s3 H3 sc ce fp) rfl rfl rfl hc i [] s5 _ H5 (fun _ _ => False) I5 (stat I5 n5) st5 stop) fun r s6 ⟨hr, I6⟩ => ?_
      subst hr
      have I7 : Inv X pins σ H5 s6 := I3.call' (ch := fp) I6.os I6.base I6.hok I6.bare fun b hb => ⟨(f3 b hb).1.2.2.2.1, (f3 b hb).1.2.1, (f3 b hb).1.2.2.2.2.1, (f3 b hb).1.2.2.2.2.2⟩
      have nC : H5 s3.heap.objs.size = none := cL ▸ (show H5 ce.locals = none from I6.free)
      obtain ⟨m, hn, _⟩ := I6.loc
      have hn : s6.heap.Ns s3.heap.objs.size m := cL ▸ (show s6.heap.Ns ce.locals m from hn)
      obtain ⟨g0, g1, g2, g3, g4, g5⟩ := I3.fpOk (Nat.le_refl _) nC
      exact ⟨m, hn, fun h'' sb => ⟨.ref D, H5, I7.turned (t' := s6.toks) (fun b o hb e => (sb.2 b hb).trans e) g0 g1 g3 g4 g5, rfl, qq⟩⟩
    · refine thnF (T.item (X.blk s3 H3 sc ce fp) rfl rfl rfl hc i [] s5 _ H5 (fun _ _ => False) I5 (stat I5 n5) st5 go) fun r s6 ⟨u, hr, h6⟩ => ?_
      subst hr
      refine thnF h6 fun _ s7 ⟨x, H7, I7, r7, y7, st7, n7⟩ => ?_
      refine thnF (pg.run _ s7 _ H7 x u _ (I7.pinned (stat I7 n7) (T.obj _ _ st7)) r7 (step x H7 y7)) fun _ s8 ⟨σ8, H8, I8, hw8, q8⟩ => ?_
      refine thnF (pj.run _ s8 σ8 H8 _ I8 q8) fun xv s9 hx => thnF hx fun iv s10 h10 => ?_
      obtain ⟨it1, fp1, tn1, J1, H10, rfl, I10, T1, st10, f10, U, ⟨m1, u1⟩, turn1⟩ := h10
      have hl8 : (wipe σ (own.map (·.2))).length = (wipe σ8 ws).length := by rw [← hw8, wipe_length, wipe_length]
      have hk8 : ∀ (j : Nat) v, (wipe σ (own.map (·.2)))[j]? = some (some v) → (wipe σ8 ws)[j]? = some (some v) := fun j v e => by
        rw [← hw8] at e
        obtain ⟨e1, e2⟩ := wipe_some e
        rw [wipe_out fun z => e2 (hv j z)]
        exact e1
      have stat1 : ∀ {H' : Hp}, (∀ b ∈ fp1, H' b = none) → ∀ b ∈ fp1, FpOk (X.blk s3 H3 sc ce fp) ([] ++ pinsAt fp s7.heap) H' b := fun hn b hb => ⟨hn b hb, (f10 b hb).2⟩
      -- the inner loop
      have inner : codeAny (model X.prog X.w) X.A (.compLoop (sc2 elt t0 i0 t1 i1 sc pos) 1 (.ref it1) (.ref D) ce) (fun r s' => match r with
          | .ok _ => ∃ m, m < n ∧ ∃ i H', Inv (X.blk s3 H3 sc ce fp) [] (wipe σ (own.map (·.2))) H' s' ∧ tn i s'.heap ∧ (∀ b ∈ fp, H' b = none) ∧ W i m H'
          | .error _ => False) s10 := by
        refine loop_in (fun k s' => ∃ j H', Inv (X.blk s3 H3 sc ce fp) ([] ++ pinsAt fp s7.heap) (wipe σ8 ws) H' s' ∧ tn1 j s'.heap ∧ (∀ b ∈ fp1, H' b = none) ∧ U j k H') ?_ m1 ⟨0, H10, I10.weak (wipe_length _ _) (fun j v e => (wipe_some e).1), st10, fun b hb => (f10 b hb).1, u1⟩
        rintro k s12 ⟨j, H12, I12, st12, n12, w12⟩
        rcases turn1 j k H12 w12 with ⟨stop1, nx⟩ | ⟨go1, Ny, hNy, step1⟩
        · refine thnF (T1.done (X.blk s3 H3 sc ce fp) rfl rfl rfl hc j _ s12 (wipe σ8 ws) H12 (fun _ _ => False) I12 (stat1 n12) st12 stop1) fun r s13 ⟨hr, I13⟩ => ?_
          subst hr
          obtain ⟨m', hm, w'⟩ := hNx H12 nx
          have pin' : ∀ b ∈ fp, ∀ o, s7.heap.get? b = some o → s13.heap.get? b = some o ∧ H12 b = none := fun b hb o e =>
            let z := I13.pin (b, o) (List.mem_append_right _ (List.mem_append_right _ (mem_pinsAt hb e)))
            ⟨z.1, z.2.1⟩
          refine ⟨m', hm, i + 1, H12, (I13.unpinned (pins := [])).weak hl8 hk8, T.keep _ _ _ st7 fun b hb o e => (pin' b hb o e).1, fun b hb => ?_, w'⟩
          obtain ⟨o, e, _⟩ := T.obj _ _ st7 b hb
          exact (pin' b hb o e).2
        · refine thnF (T1.item (X.blk s3 H3 sc ce fp) rfl rfl rfl hc j _ s12 (wipe σ8 ws) H12 (fun _ _ => False) I12 (stat1 n12) st12 go1) fun r s13 ⟨v1, hr, h13⟩ => ?_
          subst hr
          refine thnF h13 fun _ s14 ⟨x1, H14, I14, r14, y14, st14, n14⟩ => ?_
          refine thnF (pk.run _ s14 (wipe σ8 ws) H14 x1 v1 _ (I14.pinned (stat1 n14) (T1.obj _ _ st14)) r14 (step1 x1 H14 y14)) fun _ s15 ⟨σ15, H15, I15, hw15, q15⟩ => ?_
          refine thnF (pe.run _ s15 σ15 H15 _ I15 q15) fun y s16 ⟨yv, H16, I16, r16, z, l, ey, hD16, room, ny⟩ => ?_
          subst ey
          refine addS_ok (X := X.blk s3 H3 sc ce fp) I16 hD16 r16 room fun s17 I17 => ?_
          obtain ⟨m', hm, w'⟩ := hNy _ ny
          have pin' : ∀ b ∈ fp1, ∀ o, s14.heap.get? b = some o → s17.heap.get? b = some o ∧ (upd H16 D (SetSO X.prog X.w D (addS l z))) b = none := fun b hb o e =>
            let z := I17.pin (b, o) (List.mem_append_right _ (List.mem_append_right _ (mem_pinsAt hb e)))
            ⟨z.1, z.2.1⟩
          refine ⟨m', hm, j + 1, _, I17.unpinned.weak (by rw [← hw15, wipe_length]) (fun j v e => by rw [← hw15] at e; exact (wipe_some e).1), T1.keep _ _ _ st14 fun b hb o e => (pin' b hb o e).1, fun b hb => ?_, w'⟩
          obtain ⟨o, e, _⟩ := T1.obj _ _ st14 b hb
          exact (pin' b hb o e).2
      exact start_in inner (T1.self X.A 0 _ _ _ st10 inner)
end
end K31

namespace K31
open PySem L2 PySem.Spec
section
variable {X : Cx}
theorem sw_dc {kx vx : Expr} {gs : List Comprehension} {sc : Scope} {pos py : Pos} {y : Str} {l : Nat} {env : Env} (hk : env.scope.kind = .function) (hy : env.scope.names.lookup y = some .local) (hl : (py.line == pos.line) = true)
    (ha : (sc.names.any fun (n, k) => n == y && (k == .local || k == .cell)) = false) : swapsWith (.DictComp kx vx gs sc pos) (some (.Name y py)) l env = pure true := by
  have ky : env.kindOf y = some .local := hy
  have hb : env.blockKind = .function := by
    unfold Env.blockKind
    rw [hk]
    rfl
  unfold swapsWith
  simp only [hb, ky, ha, Expr.pos, hl]
  rfl
/-- y = {k: v for tg in iter}, y a local -/
theorem ps_setDc {i : Nat} {y : Str} {py : Pos} {kx vx tg iter : Expr} {ifs : List Expr} {sc : Scope} {own : List (Str × Nat)} {pos spos : Pos} {wi : TI} {g : TG} {tt : TT} {tk tv : TE} (hc : X.calm = true) (hN : X.N.Nodup) (hy : X.N[i]? = some y) (hyl : X.env.scope.names.lookup y = some .local)
    (hsw : swapsWith (.DictComp kx vx [⟨tg, iter, ifs, 0⟩] sc pos) (some (.Name y py)) spos.line X.env = pure true) (hi : PI X tg iter wi) (ok : BlkOk X.N X.env.scope sc own)
    (hg : ∀ (s : Shared) (H : Hp) (C : Addr) (cl : List (Str × Addr)) (fp : List Addr), PG (X.blk s H sc (compEnvC sc cl C X.env) fp) tg g) (ht : ∀ (s : Shared) (H : Hp) (C : Addr) (cl : List (Str × Addr)) (fp : List Addr), PTs (X.blk s H sc (compEnvC sc cl C X.env) fp) ifs tt)
    (hk : ∀ (s : Shared) (H : Hp) (C : Addr) (cl : List (Str × Addr)) (fp : List Addr), PE (X.blk s H sc (compEnvC sc cl C X.env) fp) kx tk)
    (he : ∀ (s : Shared) (H : Hp) (C : Addr) (cl : List (Str × Addr)) (fp : List Addr), PE (X.blk s H sc (compEnvC sc cl C X.env) fp) vx tv) (hs : ∀ x, foldedSetIterable iter X.env x = pure x := by intro _; rfl) :
    PS X (.Assign [.Name y py] (.DictComp kx vx [⟨tg, iter, ifs, 0⟩] sc pos) spos) (tAsg (tDc wi g tt tk tv (own.map (·.2))) (gName i)) := by
  refine ⟨fun pins s σ H D I h => ?_⟩
  rw [exec_Assign_Name_used _ _ _ _ hsw]
  refine wpAny_bind (wpAny_standAt (wpAny_bind ?_))
  have h : tDc wi g tt tk tv (own.map (·.2)) σ H (fun x H1 => gName i x σ H1 D.nx) := h
  show wpAny _ X.A (do let _ ← comprehension (.DictComp kx vx [⟨tg, iter, ifs, 0⟩] sc pos) sc X.env (firstIterPos [⟨tg, iter, ifs, 0⟩] pos) newDict false (eval iter X.env) (some (assign (.Name y py) X.env))) _ _ s
  refine wpAny_bind (thn (dc_core (Qf := fun _ s' => SP X pins D .next s') hc hN I hi ok hg ht hk he hs h fun L C s' m H' I' q hn f => wpAny_assign_Name (store_ok2 (v := V.ref L) I' hN hy (.inl hyl) rfl (fun s2 I2 ⟨a, sb, ha⟩ => ?_) (.inr hyl))) fun _ s' hq => wpAny_pure (wpAny_pure hq))
  obtain ⟨f0, f1, f2, f3, f4, f5⟩ := f
  have apart : C ≠ a := ha.elim (fun z => by rw [z]; exact f1) fun z e => f4 y a z e.symm
  exact ⟨m, hn.sameBut sb apart, fun h3 sb3 => ⟨_, H', I2.turned (t' := s2.toks) (fun b o hb e => (sb3.2 b hb).trans e) f0 f1 f3 f4 f5, q⟩⟩
end
/-! ### the comprehensions over a walk -/
section
variable {X : Cx} {J J1 : It} {n : Nat} {G : Hp → Prop} {Y : Nat → Hp → V → Hp → Prop}
theorem dc_it (w : Walk J n G Y) {g : TG} {tt : TT} {tk tv : TE} {vs : List Nat} {σ : L2.St} {H1 : Hp} {D : Addr} {Qd : Hp → Prop} (Pv : Nat → Hp → Prop) (h0 : Pv 0 (upd H1 D (.dK []))) (hG : ∀ i H, i ≤ n → Pv i H → G H)
    (hs : ∀ i x H H', i < n → Pv i H → Y i H x H' → g x (wipe σ vs) H' fun σ2 H2 => wipe σ2 vs = wipe σ vs ∧ tt σ2 H2 fun b H3 =>
      if b = true then tk σ2 H3 fun y H4 => tv σ2 H4 fun z H5 => ∃ kvs k, y = kV k ∧ H5 D = some (.dK kvs) ∧ kvs.length < sizeLine ∧ Pv (i + 1) (upd H5 D (.dK (putK kvs k z))) else Pv (i + 1) H3) (hd : ∀ H, Pv n H → Qd H) :
    ∃ W : Nat → Nat → Hp → Prop, (∃ m, W 0 m (upd H1 D (.dK []))) ∧ ∀ i m H, W i m H →
      (J.stop i H ∧ Qd H) ∨ (J.go i H ∧ ∃ Nx : Hp → Prop, (∀ H', Nx H' → ∃ m', m' < m ∧ W (i + 1) m' H') ∧ ∀ x H', J.yld i H x H' → g x (wipe σ vs) H' fun σ2 H2 => wipe σ2 vs = wipe σ vs ∧ tt σ2 H2 fun b H3 =>
        if b = true then tk σ2 H3 fun y H4 => tv σ2 H4 fun z H5 => ∃ kvs k, y = kV k ∧ H5 D = some (.dK kvs) ∧ kvs.length < sizeLine ∧ Nx (upd H5 D (.dK (putK kvs k z))) else Nx H3) := by
  refine ⟨fun i m H => m = n - i ∧ i ≤ n ∧ Pv i H, ⟨n, by simp, Nat.zero_le _, h0⟩, ?_⟩
  rintro i m H ⟨rfl, hi, p⟩
  rcases Nat.lt_or_ge i n with lt | ge
  · exact .inr ⟨w.goes i H lt (hG i H hi p), Pv (i + 1), fun _ p' => ⟨n - (i + 1), by omega, rfl, lt, p'⟩, fun x H' y => hs i x H H' lt p (w.yields i H x H' lt (hG i H hi p) y)⟩
  · obtain rfl : i = n := by omega
    exact .inl ⟨w.stops H (hG i H hi p), hd H p⟩
/-- the outer turns of tSc2 -/
theorem sc_it (w : Walk J n G Y) {T : Nat → V → Hp → (Hp → Prop) → Prop} {B : Hp} {Qd : Hp → Prop} (Pv : Nat → Hp → Prop) (h0 : Pv 0 B) (hG : ∀ i H, i ≤ n → Pv i H → G H)
    (hs : ∀ i x H H', i < n → Pv i H → Y i H x H' → T i x H' (Pv (i + 1))) (hd : ∀ H, Pv n H → Qd H) :
    ∃ W : Nat → Nat → Hp → Prop, (∃ m, W 0 m B) ∧ ∀ i m H, W i m H →
      (J.stop i H ∧ Qd H) ∨ (J.go i H ∧ ∃ Nx : Hp → Prop, (∀ H', Nx H' → ∃ m', m' < m ∧ W (i + 1) m' H') ∧ ∀ x H', J.yld i H x H' → T i x H' Nx) := by
  refine ⟨fun i m H => m = n - i ∧ i ≤ n ∧ Pv i H, ⟨n, by simp, Nat.zero_le _, h0⟩, ?_⟩
  rintro i m H ⟨rfl, hi, p⟩
  rcases Nat.lt_or_ge i n with lt | ge
  · exact .inr ⟨w.goes i H lt (hG i H hi p), Pv (i + 1), fun _ p' => ⟨n - (i + 1), by omega, rfl, lt, p'⟩, fun x H' y => hs i x H H' lt p (w.yields i H x H' lt (hG i H hi p) y)⟩
  · obtain rfl : i = n := by omega
    exact .inl ⟨w.stops H (hG i H hi p), hd H p⟩
end
end K31

namespace K31
open PySem L2
/-! ### can_hold -/
/-- the names of some bounds, as the set is filled -/
def gat (L : List (Bd Str)) : List Str := L.foldl (fun l b => addS (addS l b.u) b.v) []
theorem addS_mem {l : List Str} {k x : Str} : x ∈ addS l k ↔ x ∈ l ∨ x = k := by
  unfold addS
  by_cases h : k ∈ l
  · rw [if_pos h]
    exact ⟨.inl, fun z => z.elim id fun e => e ▸ h⟩
  · rw [if_neg h, List.mem_cons]
    exact Or.comm
theorem addS_nd {l : List Str} {k : Str} (h : l.Nodup) : (addS l k).Nodup := by
  unfold addS
  by_cases m : k ∈ l
  · rw [if_pos m]
    exact h
  · rw [if_neg m]
    exact List.nodup_cons.mpr ⟨m, h⟩
theorem addS_len {l : List Str} {k : Str} : (addS l k).length ≤ l.length + 1 := by
  unfold addS
  split
  · omega
  · rw [List.length_cons]
    exact Nat.le_refl _
theorem gat_fold : ∀ (L : List (Bd Str)) (l : List Str), l.Nodup → (L.foldl (fun l b => addS (addS l b.u) b.v) l).Nodup ∧ (L.foldl (fun l b => addS (addS l b.u) b.v) l).length ≤ l.length + 2 * L.length ∧
    ∀ x, x ∈ L.foldl (fun l b => addS (addS l b.u) b.v) l ↔ x ∈ l ∨ ∃ b ∈ L, x = b.u ∨ x = b.v
  | [], l, h => ⟨h, by simp, fun x => by simp⟩
  | b :: L, l, h => by
    obtain ⟨h1, h2, h3⟩ := gat_fold L (addS (addS l b.u) b.v) (addS_nd (addS_nd h))
    refine ⟨h1, ?_, fun x => ?_⟩
    · have a1 := addS_len (l := addS l b.u) (k := b.v)
      have a2 := addS_len (l := l) (k := b.u)
      rw [List.foldl_cons, List.length_cons]
      omega
    · rw [List.foldl_cons, h3, addS_mem, addS_mem]
      constructor
      · rintro (((q | q) | q) | ⟨c, hc, q⟩)
        · exact .inl q
        · exact .inr ⟨b, List.mem_cons_self, .inl q⟩
        · exact .inr ⟨b, List.mem_cons_self, .inr q⟩
        · exact .inr ⟨c, List.mem_cons_of_mem _ hc, q⟩
      · rintro (q | ⟨c, hc, q⟩)
        · exact .inl (.inl (.inl q))
        · rcases List.mem_cons.mp hc with rfl | hc
          · exact q.elim (fun q => .inl (.inl (.inr q))) fun q => .inl (.inr q)
          · exact .inr ⟨c, hc, q⟩
/-- the tuples at ts are pairs of a name and a number -/
structure LwAt (H : Hp) (ts : List Addr) (xs : List (Str × Int)) : Prop where
  len : ts.length = xs.length
  at_ : ∀ (i : Nat) (t : Addr), ts[i]? = some t → ∃ x : Str × Int, xs[i]? = some x ∧ H t = some (.tup [.str x.1, .int x.2])
theorem LwAt.same {H H' : Hp} {ts : List Addr} {xs : List (Str × Int)} (h : LwAt H ts xs) (s : ∀ b xs, H b = some (.tup xs) → H' b = some (.tup xs)) : LwAt H' ts xs :=
  ⟨h.len, fun i p e => let ⟨x, h1, h2⟩ := h.at_ i p e; ⟨x, h1, s _ _ h2⟩⟩
theorem LwAt.snoc {H : Hp} {ts : List Addr} {xs : List (Str × Int)} {t : Addr} {x : Str × Int} (h : LwAt H ts xs) (ht : H t = some (.tup [.str x.1, .int x.2])) : LwAt H (ts ++ [t]) (xs ++ [x]) := by
  refine ⟨by rw [List.length_append, List.length_append, h.len]; rfl, fun i p e => ?_⟩
  rcases Nat.lt_or_ge i ts.length with z | z
  · rw [List.getElem?_append_left z] at e
    obtain ⟨y, h1, h2⟩ := h.at_ i p e
    exact ⟨y, by rw [List.getElem?_append_left (by rw [← h.len]; exact z)]; exact h1, h2⟩
  · rw [List.getElem?_append_right z] at e
    have e0 : i - ts.length = 0 := by
      cases k : i - ts.length with
      | zero => rfl
      | succ k' =>
        rw [k] at e
        simp at e
    rw [e0] at e
    cases e
    refine ⟨x, ?_, ht⟩
    rw [List.getElem?_append_right (by rw [← h.len]; exact z), ← h.len, e0]
    rfl
/-- the numbers that stand at n -/
def atN (n : Str) (xs : List (Str × Int)) : List Int := (xs.filter fun x => decide (x.1 = n)).map (·.2)
theorem atN_low (n : Str) (bs : List (Bd Str)) (f : Str → Int) : atN n (bs.map fun b => (b.v, f b.u - b.c)) = low bs f n := by
  unfold atN low
  rw [List.filter_map, List.map_map]
  rfl
theorem atN_take {n : Str} {xs : List (Str × Int)} {i : Nat} {x : Str × Int} (h : xs[i]? = some x) : atN n (xs.take (i + 1)) = atN n (xs.take i) ++ if x.1 = n then [x.2] else [] := by
  unfold atN
  rw [List.take_add_one, h, List.filter_append, List.map_append]
  congr 1
  by_cases e : x.1 = n
  · simp [e]
  · simp [e]
theorem take_snoc {β : Type} {l : List β} {i : Nat} {x : β} (h : l[i]? = some x) : l.take (i + 1) = l.take i ++ [x] := by
  rw [List.take_add_one, h]
  rfl
theorem take_new {β : Type} {l : List β} {i : Nat} {x : β} (hn : l.Nodup) (h : l[i]? = some x) : x ∉ l.take i := fun m => by
  have h2 : (l.take i ++ [x]).Nodup := by
    rw [← take_snoc h]
    exact hn.sublist (List.take_sublist _ _)
  exact (List.nodup_append.mp h2).2.2 x m x (by simp) rfl
section
variable {P : Program} {w : World} {K : PySem.W.Frag} {mg : Str → Option Value} {base : Heap}
/-- whether the system has a solution -/
def spHold : Sp := fun vs H Q _ => ∃ t ps bs, vs = [.ref t] ∧ H t = some (.tup (ps.map V.ref)) ∧ BdsAt H ps bs ∧ bs.length ≤ 20 ∧ ∀ (r : Bool) H', Same H H' → (r = true ↔ Feas zz bs) → Q (.bl r) H'
/-- the block of the inner dict -/
abbrev scLater : Scope := { kind := .function, names := [(".0", .local), ("name", .cell), ("max", .globalImplicit), ("lows", .cell), ("values", .cell)], isGenerator := false, isCoroutine := false }
abbrev nHold : List Str := ["bounds", "names", "values", "turn", "lows", "later", "name", "bound", "u", "v", "c", "low"]
theorem scHold : FnScope nHold ["bounds"] (defScope sHold) := ⟨rfl, rfl, rfl, by decide +kernel, rfl, by decide +kernel, by decide +kernel⟩
theorem ok_hold {f : Addr} {fd : FuncData} (F : Fun K "can_hold" "can_hold" sHold f fd) (T : Blt mg) : FnOk P w K mg base CX0 1 f fd ["bounds"] spHold := by
  refine F.ok scHold (fun vs H Q E h => ?_) (fun cdv A outer s H vs Q E hr h => ?_)
  · obtain ⟨t, ps, bs, rfl, _⟩ := h
    rfl
  · obtain ⟨t, ps, bs, rfl, ht, hb, hl, q⟩ := h
    have hu := hu_of hr
    have nd := scHold.nd
    refine ⟨_, pss_cons (ps_set (i := 1) nd rfl (Or.inl rfl) (pe_callB (cr_sortSS rfl) (by rfl) T.sorted (by decide +kernel) (pa_cons
        (pe_sc2 (own := [("bound", 7), ("name", 6)]) (ws := [6]) (wj := iTup K (tSl (rSlT K) (tVar 7) tNoPart (tPart (tC (.int 2))))) rfl nd (pi_tup (pe_tup (pa_cons (pe_tup (pa_cons pe_str (pa_cons pe_str (pa_cons pe_int pa_nil)))) (StX.pa_star (pv 0) pa_nil))))
          (blkOk_by (N := nHold) (sc := defScope sHold) (by decide +kernel)) (by decide) (fun _ _ _ _ _ => pg_name (i := 7) nd rfl (Or.inl rfl))
          (fun _ _ _ _ _ => pi_tup (pe_slice sl_tup (pv 7) po_none (po_some pe_int))) (fun _ _ _ _ _ => pg_name (i := 6) nd rfl (Or.inl rfl)) (fun _ _ _ _ _ => pv 6)) pa_nil)))
      (pss_cons (ps_set (i := 2) nd rfl (Or.inr rfl) (pe_dc (own := [("name", 6)]) (g := gName 6) (tt := tYes) rfl nd (pi_list (pv 1)) (blkOk_by (N := nHold) (sc := defScope sHold) (by decide +kernel))
          (fun _ _ _ _ _ => pg_name (i := 6) nd rfl (Or.inl rfl)) (fun _ _ _ _ _ => pts_nil) (fun _ _ _ _ _ => pv 6) (fun _ _ _ _ _ => pe_int)))
      (pss_cons (ps_for PassesOwn.never rfl (pi_range1 rfl T.range (pa_cons (pe_op op_add (pe_callB call_len (by rfl) T.len PySem.boot_len (pa_cons (pv 1) pa_nil)) pe_int) pa_nil)) (pg_name (i := 3) nd rfl (.inl rfl))
        (pss_cons (ps_set (i := 4) nd rfl (Or.inr rfl) (pe_lc (own := [("u", 8), ("v", 9), ("c", 10)]) (g := gTup K 3 (gCons (gName 8) (gCons (gName 9) (gCons (gName 10) gNil)))) (tt := tYes) rfl nd (pi_tup (pv 0)) (blkOk_by (N := nHold) (sc := defScope sHold) (by decide +kernel))
            (fun _ _ _ _ _ => pg_tup rfl (pgs_cons (pg_name (i := 8) nd rfl (.inl rfl)) (pgs_cons (pg_name (i := 9) nd rfl (.inl rfl)) (pgs_cons (pg_name (i := 10) nd rfl (.inl rfl)) pgs_nil)))) (fun _ _ _ _ _ => pts_nil)
            (fun _ _ _ _ _ => pe_tup (pa_cons (pv 9) (pa_cons (pe_op op_sub (pe_dget hu (pv 2) (pv 8) (fun _ _ => rfl)) (pv 10)) pa_nil)))))
        (pss_cons (ps_setDc (i := 5) (own := [("name", 6)]) (g := gName 6) (tt := tYes)
            (tv := tCB (rMax K) (tCons (tOp rCat (tLc (iList K (tVar 4)) (gTup K 2 (gCons (gName 9) (gCons (gName 11) gNil))) (tTest (tOp rEq (tVar 9) (tVar 6))) (tVar 11) [9, 11]) (tLst (tCons (tDGet (tVar 2) (tVar 6)) tNil))) tNil)) rfl nd rfl rfl (sw_dc rfl rfl rfl (by decide +kernel)) (pi_list (pv 1)) (blkOk_by (N := nHold) (sc := defScope sHold) (by decide +kernel))
            (fun _ _ _ _ _ => pg_name (i := 6) nd rfl (Or.inr rfl)) (fun _ _ _ _ _ => pts_nil) (fun _ _ _ _ _ => pv 6)
            (fun _ _ _ _ _ => pe_callB (cr_max rfl) (by rfl) T.max (by decide +kernel) (pa_cons (pe_op op_cat
              (pe_lc (own := [("v", 9), ("low", 11)]) (g := gTup K 2 (gCons (gName 9) (gCons (gName 11) gNil))) rfl nd (pi_list (pv 4)) (blkOk_by (N := nHold) (sc := scLater) (by decide +kernel))
                (fun _ _ _ _ _ => pg_tup rfl (pgs_cons (pg_name (i := 9) nd rfl (.inl rfl)) (pgs_cons (pg_name (i := 11) nd rfl (.inl rfl)) pgs_nil)))
                (fun _ _ _ _ _ => pts_one (pt_cmpR op_eq (pv 9) (pv 6) (nomark _))) (fun _ _ _ _ _ => pv 11))
              (pe_lst (pa_cons (pe_dget hu (pv 2) (pv 6) (fun _ _ => rfl)) pa_nil))) pa_nil)))
        (pss_cons (ps_if (pt_cmpR (op_eq_dictI (Nat.lt_of_succ_lt hu)) (pv 5) (pv 2) (nomark _)) (pss_one (ps_ret (pe_cmpR op_eq (pe_dget hu (pv 2) pe_str (fun _ _ => rfl)) pe_int (nomark _)))) pss_nil)
        (pss_one (ps_set (i := 2) nd rfl (Or.inr rfl) (pv 5)))))))
      (pss_one (ps_ret pe_bl)))), ?_⟩
    -- the names
    refine ⟨by show 3 ≤ sizeLine; decide, fun z0 hz0 => ⟨_, rfl, t, _, rfl, .inl (SqT.of (by rw [upd_ne (ne_of_none ht hz0)]; exact ht)), ?_⟩⟩
    have s1 : Same H (upd H z0 (.tup [.str zz, .str zz, .int 0])) := same_upd hz0
    have b1 : BdsAt (upd H z0 (.tup [.str zz, .str zz, .int 0])) (z0 :: ps) (⟨zz, zz, 0⟩ :: bs) := BdsAt.append (ps := [z0]) (bs := [⟨zz, zz, 0⟩]) (BdsAt.one upd_same) (hb.same fun b xs e => s1 b _ e)
    generalize upd H z0 (.tup [.str zz, .str zz, .int 0]) = H1 at s1 b1
    refine ⟨by
      have := hb.len
      simp
      rw [sizeLine_eq]
      omega, fun T0 hT0 => ⟨T0, rfl, ⟨_, SqT.of upd_same⟩, fun D hD => ?_⟩⟩
    have s2 : Same H (upd H1 T0 (.tup (V.ref z0 :: (ps.map V.ref ++ [])))) := s1.trans (same_upd hT0)
    have b2 := b1.same (H' := upd H1 T0 (.tup (V.ref z0 :: (ps.map V.ref ++ [])))) fun b xs e => by rw [upd_ne (ne_of_none e hT0)]; exact e
    have T2 : upd H1 T0 (.tup (V.ref z0 :: (ps.map V.ref ++ []))) T0 = some (.tup ((z0 :: ps).map V.ref)) := by rw [upd_same, List.append_nil]; rfl
    generalize upd H1 T0 (.tup (V.ref z0 :: (ps.map V.ref ++ []))) = H2 at s2 b2 T2 hD
    have hD0 : H D = none := s2.free hD
    obtain ⟨gnd, glen, gmem⟩ := gat_fold (⟨zz, zz, 0⟩ :: bs) [] List.nodup_nil
    have glen2 : ∀ i, (gat ((⟨zz, zz, 0⟩ :: bs).take i)).length ≤ 44 := fun i => by
      obtain ⟨_, q1, _⟩ := gat_fold ((⟨zz, zz, 0⟩ :: bs).take i) [] List.nodup_nil
      have q2 : ((⟨zz, zz, 0⟩ :: bs).take i).length ≤ 21 := by
        rw [List.length_take, List.length_cons]
        omega
      refine Nat.le_trans q1 ?_
      rw [List.length_nil]
      omega
    have sb : (44 : Nat) + 4 < scanBound := by decide
    refine sc_it (walk_tup (K := K) (a := T0) (xs := (z0 :: ps).map V.ref)) (fun i H3 => Same H H3 ∧ BdsAt H3 (z0 :: ps) (⟨zz, zz, 0⟩ :: bs) ∧ H3 T0 = some (.tup ((z0 :: ps).map V.ref)) ∧ H3 D = some (SetSO P w D (gat ((⟨zz, zz, 0⟩ :: bs).take i))))
      ⟨s2.trans (same_upd hD), b2.same fun b xs e => by rw [upd_ne (ne_of_none e hD)]; exact e, by rw [upd_ne (ne_of_none T2 hD)]; exact T2, upd_same⟩ (fun i H3 _ h => SqT.of h.2.2.1) ?_ ?_
    · rintro i x H9 H3 hi ⟨s3, b3, T3, D3⟩ ⟨rfl, hx⟩
      obtain ⟨p, hp, rfl⟩ := map_ref hx
      obtain ⟨b, hbi, hbp⟩ := b3.at_ i p hp
      have eg : gat ((⟨zz, zz, 0⟩ :: bs).take (i + 1)) = addS (addS (gat ((⟨zz, zz, 0⟩ :: bs).take i)) b.u) b.v := by
        unfold gat
        rw [take_fold hbi]
      have gl := glen2 i
      rw [eg]
      generalize gat ((⟨zz, zz, 0⟩ :: bs).take i) = l at D3 gl
      refine ⟨rfl, _, rfl, _, rfl, p, _, rfl, SqT.of hbp, (fun z => absurd (show HT.sIx 3 3 (some 2) = 3 from z.2) (by decide)), fun q hq => ⟨q, rfl, ⟨_, SqT.of upd_same⟩, ?_⟩⟩
      have s4 : Same H (upd H3 q (.tup [.str b.u, .str b.v])) := s3.trans (same_upd hq)
      have b4 := b3.same (H' := upd H3 q (.tup [.str b.u, .str b.v])) fun b xs e => by rw [upd_ne (ne_of_none e hq)]; exact e
      have T4 : upd H3 q (.tup [.str b.u, .str b.v]) T0 = some (.tup ((z0 :: ps).map V.ref)) := by rw [upd_ne (ne_of_none T3 hq)]; exact T3
      have D4 : upd H3 q (.tup [.str b.u, .str b.v]) D = some (SetSO P w D l) := by rw [upd_ne (ne_of_none D3 hq)]; exact D3
      have q4 : upd H3 q (.tup [.str b.u, .str b.v]) q = some (.tup [.str b.u, .str b.v]) := upd_same
      show ∃ U : Nat → Nat → Hp → Prop, (∃ n, U 0 n (upd H3 q (.tup [.str b.u, .str b.v]))) ∧ _
      generalize upd H3 q (.tup [.str b.u, .str b.v]) = H4 at s4 b4 T4 D4 q4
      have al := addS_len (l := l) (k := b.u)
      refine sc_it (walk_tup (K := K) (a := q) (xs := [.str b.u, .str b.v])) (fun j H5 => Same H H5 ∧ BdsAt H5 (z0 :: ps) (⟨zz, zz, 0⟩ :: bs) ∧ H5 T0 = some (.tup ((z0 :: ps).map V.ref)) ∧ H5 q = some (.tup [.str b.u, .str b.v]) ∧ H5 D = some (SetSO P w D (([b.u, b.v].take j).foldl addS l)))
        ⟨s4, b4, T4, q4, D4⟩ (fun j H5 _ h => SqT.of h.2.2.2.1) ?_ ?_
      · rintro j y H9 H5 hj ⟨s5, b5, T5, q5, D5⟩ ⟨rfl, hy⟩
        obtain ⟨n, hn, rfl⟩ : ∃ n, [b.u, b.v][j]? = some n ∧ y = V.str n := by
          match j, hy with
          | 0, hy => exact ⟨_, rfl, (Option.some.inj hy).symm⟩
          | 1, hy => exact ⟨_, rfl, (Option.some.inj hy).symm⟩
        have len5 : (([b.u, b.v].take j).foldl addS l).length ≤ 46 := by
          match j, hj with
          | 0, _ =>
            show l.length ≤ 46
            omega
          | 1, _ =>
            show (addS l b.u).length ≤ 46
            omega
        refine ⟨rfl, _, rfl, n, _, rfl, D5, by omega, ?_, ?_, ?_, ?_, ?_⟩
        · exact fun c u e => by
            rw [upd_ne (ne_of_none e hD0)]
            exact s5 c u e
        · exact b5.same (tup_upd D5 fun xs z => nomatch z)
        · exact tup_upd D5 (fun xs z => nomatch z) _ _ T5
        · exact tup_upd D5 (fun xs z => nomatch z) _ _ q5
        · rw [upd_same, take_fold hn]
          rfl
      · rintro H5 ⟨s5, b5, T5, q5, D5⟩
        exact ⟨s5, b5, T5, D5⟩
    · rintro H3 ⟨s3, b3, T3, D3⟩
      have efull : (⟨zz, zz, 0⟩ :: bs).take ((z0 :: ps).map V.ref).length = ⟨zz, zz, 0⟩ :: bs := by
        rw [List.length_map, List.length_cons, hb.len, ← List.length_cons, List.take_length]
      rw [efull] at D3
      have gl := glen2 (bs.length + 1)
      rw [← List.length_cons (a := (⟨zz, zz, 0⟩ : Bd Str)), List.take_length] at gl
      refine ⟨D, _, rfl, D3, by omega, gnd, fun ns nl hns hnl => ?_⟩
      have nsnd : ns.Nodup := hns.nodup_iff.mpr gnd
      have nslen : ns.length ≤ 44 := by rw [hns.length_eq]; exact gl
      have nsm : ∀ x, x ∈ ns ↔ ∃ b ∈ (⟨zz, zz, 0⟩ :: bs), x = b.u ∨ x = b.v := fun x => by
        rw [hns.mem_iff]
        exact (gmem x).trans ⟨fun z => z.resolve_left (fun z => nomatch z), .inr⟩
      have hzz : zz ∈ ns := (nsm zz).mpr ⟨_, List.mem_cons_self, .inl rfl⟩
      have hks : ∀ b ∈ bs, b.u ∈ ns ∧ b.v ∈ ns := fun b m => ⟨(nsm _).mpr ⟨b, List.mem_cons_of_mem _ m, .inl rfl⟩, (nsm _).mpr ⟨b, List.mem_cons_of_mem _ m, .inr rfl⟩⟩
      have s4 : Same H (upd H3 nl (.lst (ns.map V.str))) := s3.trans (same_upd hnl)
      have n4 : upd H3 nl (.lst (ns.map V.str)) nl = some (.lst (ns.map V.str)) := upd_same
      show ∃ D, _
      generalize upd H3 nl (.lst (ns.map V.str)) = H4 at s4 n4
      clear b3 T3 D3 s3 hnl hns gmem gnd glen glen2 T2 b2 b1 s1 s2 hD hD0 gl efull H3 hT0 hz0
      -- the values
      refine ⟨_, rfl, nl, rfl, ⟨_, SqL.of n4⟩, fun va hva => ?_⟩
      refine dc_it (walk_list (K := K) (a := nl) (xs := ns.map V.str)) (fun i H5 => Same H4 H5 ∧ H5 va = some (dS (ns.take i) fun _ => .int 0)) ⟨same_upd hva, upd_same⟩ (fun i H5 _ h => SqL.of (h.1 _ _ n4)) ?_ ?_
      · rintro i x H9 H5 hi ⟨s5, v5⟩ ⟨rfl, hx⟩
        obtain ⟨n, hn, rfl⟩ := map_str hx
        refine ⟨rfl, _, rfl, _, kS n, rfl, v5, ?_, same_upd2 s5 hva, ?_⟩
        · rw [dct_len, List.length_take, sizeLine_eq]
          omega
        · rw [upd_same, dct_new kS_inj (take_new nsnd hn), up_self (fun _ => V.int 0), take_snoc hn]
      · rintro H5 ⟨s5, v5⟩
        rw [List.length_map, List.take_length] at v5
        refine ⟨_, rfl, _, ns.length, rfl, .inl ⟨_, SqL.of (s5 _ _ n4), (List.length_map _).symm⟩, _, _, rfl, rfl, ((ns.length : Nat) : Int) + 1, rfl, by omega, by omega, ?_⟩
        have e1 : (((ns.length : Nat) : Int) + 1).toNat = ns.length + 1 := by omega
        rw [e1]
        refine for_range (lo := 0) (n := ns.length + 1) (fun i σ H6 => ∃ (vb : Addr) (tn lw lt : Option V), σ = [some (.ref t), some (.ref nl), some (.ref vb), tn, lw, lt, none, none, none, none, none, none] ∧ Same H4 H6 ∧ H6 vb = some (dS ns fun n => .int (jacs bs i n)) ∧
            ∀ r, r < i → ¬ ∀ n ∈ ns, jacs bs (r + 1) n = jacs bs r n)
          ⟨va, none, none, none, rfl, s5, v5, fun r h => absurd h (Nat.not_lt_zero r)⟩ ?_ ?_
        · rintro i σ H6 hi ⟨vb, tn, lw, lt, rfl, s6, v6, nv⟩
          have hf : ∀ n, jacs bs (i + 1) n = lmax (jacs bs i n) (low bs (jacs bs i) n) := fun n => rfl
          generalize hjf : jacs bs i = f at v6 hf
          have t6 := (s4.trans s6) _ _ ht
          have hb6 := hb.same fun b xs e => (s4.trans s6) b _ e
          have n6 := s6 _ _ n4
          -- lows
          refine ⟨_, rfl, t, rfl, ⟨_, SqT.of t6⟩, fun L hL => ?_⟩
          refine lc_it (walk_tup (K := K) (a := t) (xs := ps.map V.ref)) (fun k H7 => Same H6 H7 ∧ ∃ ts : List Addr, H7 L = some (.lst (ts.map V.ref)) ∧ LwAt H7 ts ((bs.take k).map fun b => (b.v, f b.u - b.c)))
            ⟨same_upd hL, [], upd_same, ⟨rfl, fun i p e => by simp at e⟩⟩ (fun k H7 _ h => SqT.of (h.1 _ _ t6)) ?_ ?_
          · rintro k x H9 H7 hk ⟨s7, ts, l7, w7⟩ ⟨rfl, hx⟩
            obtain ⟨p, hp, rfl⟩ := map_ref hx
            obtain ⟨b, hbi, hbp⟩ := hb6.at_ k p hp
            have hbm := hks b (List.mem_of_getElem? hbi)
            have v7 := s7 _ _ v6
            refine ⟨p, _, rfl, SqT.of (s7 _ _ hbp), rfl, _, _, rfl, _, _, rfl, _, _, rfl, rfl, rfl, ?_⟩
            refine ⟨_, rfl, _, rfl, _, rfl, vb, _, rfl, dS_get v7 hbm.1, _, rfl, _, _, rfl, rfl, by show 2 ≤ sizeLine; decide, fun t8 ht8 => ⟨ts.map V.ref, by rw [upd_ne (ne_of_none l7 ht8)]; exact l7, ?_, ?_, ts ++ [t8], ?_, ?_⟩⟩
            · have e := w7.len
              rw [List.length_map, List.length_take] at e
              rw [List.length_map, sizeLine_eq]
              omega
            · exact fun c u e => by
                rw [upd_ne (ne_of_none e hL), upd_ne (ne_of_none (s7 _ _ e) ht8)]
                exact s7 _ _ e
            · rw [upd_same, List.map_append]
              rfl
            · rw [take_snoc hbi, List.map_append]
              refine LwAt.snoc (w7.same fun c xs e => ?_) ?_
              · rw [upd_ne (ne_of e l7 fun z => nomatch z), upd_ne (ne_of_none e ht8)]
                exact e
              · rw [upd_ne fun z => (by rw [z, l7] at ht8; cases ht8)]
                exact upd_same
          · rintro H7 ⟨s7, ts, l7, w7⟩
            have ek : bs.take (ps.map V.ref).length = bs := by rw [List.length_map, hb.len, List.take_length]
            rw [ek] at w7
            have s46 := s6.trans s7
            clear ek hL
            -- later
            refine ⟨_, rfl, nl, rfl, ⟨_, SqL.of (s46 _ _ n4)⟩, fun D2 hD2 => ?_⟩
            refine dc_it (walk_list (K := K) (a := nl) (xs := ns.map V.str)) (fun k H8 => Same H7 H8 ∧ H8 D2 = some (dS (ns.take k) fun n => .int (jacs bs (i + 1) n))) ⟨same_upd hD2, upd_same⟩ (fun k H8 _ h => SqL.of (h.1 _ _ (s46 _ _ n4))) ?_ ?_
            · rintro k x H9 H8 hk ⟨s8, d8⟩ ⟨rfl, hx⟩
              obtain ⟨n, hn, rfl⟩ := map_str hx
              have hnm := List.mem_of_getElem? hn
              have w8 := w7.same fun b xs e => s8 b _ e
              refine ⟨rfl, _, rfl, _, rfl, L, rfl, ⟨_, SqL.of (s8 _ _ l7)⟩, fun M hM => ?_⟩
              refine lc_it (walk_list (K := K) (a := L) (xs := ts.map V.ref)) (fun m H10 => Same H8 H10 ∧ H10 M = some (.lst ((atN n ((bs.map fun b => (b.v, f b.u - b.c)).take m)).map V.int))) ⟨same_upd hM, upd_same⟩ (fun m H10 _ h => SqL.of (h.1 _ _ (s8 _ _ l7))) ?_ ?_
              · rintro m x H9 H10 hm ⟨s10, m10⟩ ⟨rfl, hx⟩
                obtain ⟨p, hp, rfl⟩ := map_ref hx
                obtain ⟨⟨v, lo⟩, hxi, hxp⟩ := w8.at_ m p hp
                refine ⟨p, _, rfl, SqT.of (s10 _ _ hxp), rfl, _, _, rfl, _, _, rfl, rfl, rfl, ?_⟩
                refine ⟨_, rfl, _, rfl, rfl, _, rfl, ?_⟩
                have et := atN_take (n := n) hxi
                by_cases e : v = n
                · refine ite_d (by rw [e]) ⟨_, rfl, _, m10, ?_, same_upd2 s10 hM, ?_⟩
                  · have e1 : (atN n ((bs.map fun b => (b.v, f b.u - b.c)).take m)).length ≤ bs.length := by
                      unfold atN
                      refine Nat.le_trans (Nat.le_of_eq (List.length_map _)) (Nat.le_trans (List.length_filter_le _ _) ?_)
                      rw [List.length_take, List.length_map]
                      omega
                    rw [List.length_map, sizeLine_eq]
                    omega
                  · rw [upd_same, et, if_pos e, List.map_append]
                    rfl
                · refine ite_n (fun z => e (V.str.inj z)) ⟨s10, ?_⟩
                  rw [et, if_neg e, List.append_nil]
                  exact m10
              · rintro H10 ⟨s10, m10⟩
                have e0 : (bs.map fun b => (b.v, f b.u - b.c)).take (ts.map V.ref).length = bs.map fun b => (b.v, f b.u - b.c) := by rw [List.length_map, w7.len, List.take_length]
                rw [e0, atN_low] at m10
                have lowlen : (low bs f n).length ≤ 20 := by
                  unfold low
                  exact Nat.le_trans (Nat.le_of_eq (List.length_map _)) (Nat.le_trans (List.length_filter_le _ _) hl)
                refine ⟨_, rfl, _, rfl, vb, _, rfl, dS_get ((s7.trans s8).trans s10 _ _ v6) hnm, by show 1 ≤ sizeLine; decide, fun N hN => ⟨M, N, _, _, rfl, rfl, by rw [upd_ne (ne_of_none m10 hN)]; exact m10, upd_same, ?_, fun O hO => ?_⟩⟩
                · rw [List.length_map, sizeLine_eq]
                  show (low bs f n).length + 1 ≤ _
                  omega
                refine ⟨O, low bs f n ++ [f n], rfl, SqL.of (by rw [upd_same, List.map_append]; rfl), by rw [List.length_append]; exact Nat.lt_of_lt_of_le Nat.zero_lt_one (Nat.le_add_left _ _), fun m hm hle => ?_⟩
                have em : m = jacs bs (i + 1) n := (lmax_of hm hle).trans (hf n).symm
                rw [em]
                have s9 : Same H8 (upd (upd H10 N (.lst [.int (f n)])) O (.lst ((low bs f n).map V.int ++ [.int (f n)]))) := (s10.trans (same_upd hN)).trans (same_upd hO)
                refine ⟨_, kS n, rfl, s9 _ _ d8, ?_, same_upd2 (s8.trans s9) hD2, ?_⟩
                · rw [dct_len, List.length_take, sizeLine_eq]
                  omega
                · rw [upd_same, dct_new kS_inj (take_new nsnd hn), up_self (fun n => V.int (jacs bs (i + 1) n)), take_snoc hn]
            · rintro H8 ⟨s8, d8⟩
              rw [List.length_map, List.take_length] at d8
              have v8 := (s7.trans s8) _ _ v6
              refine ⟨_, rfl, _, rfl, D2, vb, ns, _, _, rfl, rfl, d8, v8, _, rfl, ?_⟩
              cases ha : ns.all fun n => jacs bs (i + 1) n == f n with
              | true =>
                have hst : ∀ n ∈ ns, jacs bs (i + 1) n = jacs bs i n := fun n hn => by
                  rw [hjf]
                  exact eq_of_beq (List.all_eq_true.mp ha n hn)
                have js := jac_still hzz hks hst
                rw [hjf] at js
                refine iteT ⟨_, rfl, vb, _, rfl, dS_get v8 hzz, rfl, q _ _ (s4.trans (s46.trans s8)) ?_⟩
                rw [decide_eq_true_eq, ← js]
                exact ⟨fun z => V.int.inj z, fun z => by rw [z]⟩
              | false =>
                refine iteF ⟨_, rfl, D2, _, _, _, rfl, s46.trans s8, d8, fun r hr2 => ?_⟩
                rcases Nat.lt_or_ge r i with lt | ge
                · exact nv r lt
                · obtain rfl : r = i := by omega
                  intro hst
                  have : (ns.all fun n => jacs bs (r + 1) n == f n) = true := List.all_eq_true.mpr fun n hn => by
                    rw [← hjf, hst n hn]
                    exact beq_self_eq_true _
                  rw [this] at ha
                  cases ha
        · rintro σ H6 ⟨vb, tn, lw, lt, rfl, s6, v6, nv⟩
          exact q _ _ (s4.trans s6) ⟨fun z => (nomatch z), fun z => absurd z (jac_never hzz hks fun r h => nv r (by omega))⟩
end
end K31

namespace K31
open PySem L2
/-! ### _law_roads -/
def oI : Option Int → V
  | none => .non
  | some x => .int x
abbrev tabV (D : Str → Str → Option Int) : Str × Str → V := fun p => oI (D p.1 p.2)
theorem up_tab {D : Str → Str → Option Int} {u v : Str} {x : Int} : up (tabV D) (u, v) (.int x) = tabV (up2 D u v (some x)) := by
  funext p
  obtain ⟨a, b⟩ := p
  unfold up
  show _ = oI (up2 D u v (some x) a b)
  by_cases h : a = u ∧ b = v
  · obtain ⟨rfl, rfl⟩ := h
    rw [if_pos rfl, up2_same]
    rfl
  · rw [if_neg fun e => h ⟨congrArg Prod.fst e, congrArg Prod.snd e⟩, up2_ne h]
theorem in_prs {ns : List Str} {u v : Str} (hu : u ∈ ns) (hv : v ∈ ns) : (u, v) ∈ prs ns := List.mem_flatMap.mpr ⟨u, hu, List.mem_map.mpr ⟨v, hv, rfl⟩⟩
theorem of_prs {ns : List Str} {u v : Str} (h : (u, v) ∈ prs ns) : u ∈ ns ∧ v ∈ ns := by
  obtain ⟨a, ha, h2⟩ := List.mem_flatMap.mp h
  obtain ⟨b, hb, e⟩ := List.mem_map.mp h2
  cases e
  exact ⟨ha, hb⟩
theorem prs_nd {ns : List Str} (hn : ns.Nodup) : ∀ {l : List Str}, l.Nodup → (l.flatMap fun u => ns.map fun v => (u, v)).Nodup
  | [], _ => List.nodup_nil
  | a :: l, h => by
    obtain ⟨h1, h2⟩ := List.nodup_cons.mp h
    rw [List.flatMap_cons]
    refine List.nodup_append.mpr ⟨List.pairwise_map.mpr (hn.imp fun ne e => ne (congrArg Prod.snd e)), prs_nd hn h2, fun p hp q hq e => ?_⟩
    obtain ⟨v, _, rfl⟩ := List.mem_map.mp hp
    obtain ⟨u, hu, hq2⟩ := List.mem_flatMap.mp hq
    obtain ⟨v2, _, rfl⟩ := List.mem_map.mp hq2
    have e1 : a = u := congrArg Prod.fst e
    exact h1 (e1 ▸ hu)
/-- the tuples at ts are the pairs of a pair of qs (as a tuple) and what g tells of it -/
structure RtAt (H : Hp) (ts : List Addr) (qs : List (Str × Str)) (g : Str × Str → V) : Prop where
  len : ts.length = qs.length
  at_ : ∀ (i : Nat) (t : Addr), ts[i]? = some t → ∃ q, qs[i]? = some q ∧ ∃ b : Addr, H t = some (.tup [.ref b, g q]) ∧ H b = some (.tup [.str q.1, .str q.2])
theorem RtAt.same {H H' : Hp} {ts : List Addr} {qs : List (Str × Str)} {g : Str × Str → V} (h : RtAt H ts qs g) (s : ∀ b xs, H b = some (.tup xs) → H' b = some (.tup xs)) : RtAt H' ts qs g :=
  ⟨h.len, fun i p e => let ⟨q, h1, b, h2, h3⟩ := h.at_ i p e; ⟨q, h1, b, s _ _ h2, s _ _ h3⟩⟩
theorem RtAt.snoc {H : Hp} {ts : List Addr} {qs : List (Str × Str)} {g : Str × Str → V} {t b : Addr} {q : Str × Str} (h : RtAt H ts qs g) (ht : H t = some (.tup [.ref b, g q])) (hb : H b = some (.tup [.str q.1, .str q.2])) : RtAt H (ts ++ [t]) (qs ++ [q]) g := by
  refine ⟨by rw [List.length_append, List.length_append, h.len]; rfl, fun i p e => ?_⟩
  rcases Nat.lt_or_ge i ts.length with z | z
  · rw [List.getElem?_append_left z] at e
    obtain ⟨y, h1, h2⟩ := h.at_ i p e
    exact ⟨y, by rw [List.getElem?_append_left (by rw [← h.len]; exact z)]; exact h1, h2⟩
  · rw [List.getElem?_append_right z] at e
    have e0 : i - ts.length = 0 := by
      cases k : i - ts.length with
      | zero => rfl
      | succ k' =>
        rw [k] at e
        simp at e
    rw [e0] at e
    cases e
    refine ⟨q, ?_, b, ht, hb⟩
    rw [List.getElem?_append_right (by rw [← h.len]; exact z), ← h.len, e0]
    rfl
theorem RtAt.paired {X : Cx} {H : Hp} {g : Str × Str → V} : ∀ {ts : List Addr} {qs : List (Str × Str)}, RtAt H ts qs g → Paired (PT X H) ts (dct kP qs g)
  | [], [], _ => .nil
  | [], q :: qs, h => by have := h.len; cases this
  | t :: ts, [], h => by have := h.len; cases this
  | t :: ts, q :: qs, h => by
    obtain ⟨r, h1, b, h2, h3⟩ := h.at_ 0 t rfl
    cases h1
    exact .cons ⟨b, SqT.of h2, h3⟩ (RtAt.paired ⟨by have := h.len; simpa using this, fun i p e => h.at_ (i + 1) p e⟩)
/-- the table at d, all else as at the start -/
structure RZ (H0 H : Hp) (d : Addr) (ns : List Str) (D : Str → Str → Option Int) : Prop where
  same : Same H0 H
  tab : H d = some (dP (prs ns) (tabV D))
  off : H0 d = none
section
variable {H0 H : Hp} {d t : Addr} {ns : List Str} {D : Str → Str → Option Int} {u v : Str}
theorem RZ.new {o : HO} (Z : RZ H0 H d ns D) (h : H t = none) : RZ H0 (upd H t o) d ns D := ⟨Z.same.trans (same_upd h), by rw [upd_ne (ne_of_none Z.tab h)]; exact Z.tab, Z.off⟩
theorem RZ.more {H' : Hp} (Z : RZ H0 H d ns D) (s : Same H H') : RZ H0 H' d ns D := ⟨Z.same.trans s, s _ _ Z.tab, Z.off⟩
theorem RZ.get (Z : RZ H0 H d ns D) (ht : H t = some (.tup [.str u, .str v])) (hu : u ∈ ns) (hv : v ∈ ns) {y : V} (e : oI (D u v) = y) : DGet H d (.ref t) (some y) := by
  rw [← e]
  exact dP_get Z.tab ht (in_prs hu hv)
theorem RZ.put {x : Int} (Z : RZ H0 H d ns D) : RZ H0 (upd H d (dP (prs ns) (up (tabV D) (u, v) (.int x)))) d ns (up2 D u v (some x)) :=
  ⟨same_upd2 Z.same Z.off, by rw [upd_same, up_tab], Z.off⟩
end
section
variable {P : Program} {w : World} {K : PySem.W.Frag} {mg : Str → Option Value} {base : Heap}
def spRoads : Sp := fun vs H Q _ => ∃ (a p : Addr) (ps : List Addr) (bs : List (Bd Str)) (ns : List Str), vs = [.ref a, .ref p] ∧ H a = some (.lst (ps.map V.ref)) ∧ BdsAt H ps bs ∧ (∀ b ∈ bs, b.u ∈ ns ∧ b.v ∈ ns) ∧ H p = some (.lst (ns.map V.str)) ∧ ns.Nodup ∧ ns.length ≤ 8 ∧
  (∀ d H', H d = none → Same H H' → H' d = some (dP (prs ns) (tabV (roads zz ns bs))) → (∀ n ∈ ns, roads zz ns bs n n = some 0) → Q (.ref d) H') ∧
  (∀ H', Same H H' → (¬ ∀ n ∈ ns, roads zz ns bs n n = some 0) → Q .non H')
abbrev nRoads : List Str := ["_law_bounds", "_law_names_here", "_law_best", "_law_u", "_law_v", "_law_c", "_law_middle", "_law_one", "_law_other", "_law_name_here"]
theorem scRoads : FnScope nRoads ["_law_bounds", "_law_names_here"] (defScope sRoads) := ⟨rfl, rfl, rfl, by decide +kernel, rfl, by decide +kernel, by decide +kernel⟩
theorem ok_roads {f f1 : Addr} {fd fd1 : FuncData} (F : Fun K "_law_roads" "_law_roads" sRoads f fd) (T : Blt mg) (D1 : Df K mg "_law_pairs" sPairs ["_law_names_here"] f1 fd1) : FnOk P w K mg base CX0 2 f fd ["_law_bounds", "_law_names_here"] spRoads := by
  have G1 : FnOk P w K mg base CX0 1 f1 fd1 ["_law_names_here"] spPairs := ok_pairs D1.F
  refine F.ok scRoads (fun vs H Q E h => ?_) (fun cdv A outer s H vs Q E hr h => ?_)
  · obtain ⟨a, p, ps, bs, ns, rfl, _⟩ := h
    rfl
  · obtain ⟨a, p, ps, bs, ns, rfl, ha, hb, hbn, hp, hnd, hl, qs, qn⟩ := h
    have hu := hu_of hr
    have hu2 := Nat.lt_of_le_of_lt (Nat.add_le_add_left (by decide : 2 ≤ 64) _) hr.units
    have nd := scRoads.nd
    refine ⟨_, pss_cons (ps_set (i := 2) nd rfl (Or.inr rfl) (pe_callTy (call_dictPT rfl hu2) (by rfl) T.dict (by decide +kernel) (pa_cons
        (pe_lc (own := [("_law_u", 3), ("_law_v", 4)]) (g := gTup K 2 (gCons (gName 3) (gCons (gName 4) gNil))) (tt := tYes) rfl nd (pi_list (pe_call G1 hr rfl D1.m D1.F.kp D1.b .nil pass0 (pa_cons (pv 1) pa_nil)))
          (blkOk_by (N := nRoads) (sc := defScope sRoads) (by decide +kernel)) (fun _ _ _ _ _ => pg_tup rfl (pgs_cons (pg_name (i := 3) nd rfl (.inl rfl)) (pgs_cons (pg_name (i := 4) nd rfl (.inl rfl)) pgs_nil))) (fun _ _ _ _ _ => pts_nil)
          (fun _ _ _ _ _ => pe_tup (pa_cons (pe_tup (pa_cons (pv 3) (pa_cons (pv 4) pa_nil))) (pa_cons (pe_ifExp (PW.pt (pw_or (pt_cmpR op_eq (pv 3) (pv 4) (nomark _)) (pw_or1 (pt_cmpR op_eq (pv 3) pe_str (nomark _))))) pe_int pe_non) pa_nil)))) pa_nil)))
      (pss_cons (ps_for PassesOwn.never rfl (pi_list (pv 0)) (pg_tup rfl (pgs_cons (pg_name (i := 3) nd rfl (.inl rfl)) (pgs_cons (pg_name (i := 4) nd rfl (.inl rfl)) (pgs_cons (pg_name (i := 5) nd rfl (.inl rfl)) pgs_nil))))
        (pss_one (ps_dput hu (pv 2) (pe_tup (pa_cons (pv 3) (pa_cons (pv 4) pa_nil))) (pe_ifExp (pt_cmp (pc_isN (pe_dget hu (pv 2) (pe_tup (pa_cons (pv 3) (pa_cons (pv 4) pa_nil))) (fun _ _ => rfl)))) (pv 5)
          (pe_callB (call_min2 rfl) (by rfl) T.min (by decide +kernel) (pa_cons (pv 5) (pa_cons (pe_dget hu (pv 2) (pe_tup (pa_cons (pv 3) (pa_cons (pv 4) pa_nil))) (fun _ _ => rfl)) pa_nil)))) rfl)))
      (pss_cons (ps_for PassesOwn.never rfl (pi_list (pv 1)) (pg_name (i := 6) nd rfl (.inl rfl))
        (pss_one (ps_for PassesOwn.never rfl (pi_list (pe_call G1 hr rfl D1.m D1.F.kp D1.b .nil pass0 (pa_cons (pv 1) pa_nil))) (pg_tup rfl (pgs_cons (pg_name (i := 3) nd rfl (.inl rfl)) (pgs_cons (pg_name (i := 4) nd rfl (.inl rfl)) pgs_nil)))
          (pss_cons (ps_par (i := 7) (j := 8) rfl nd rfl rfl (by decide) rfl rfl (pa_cons (pe_dget hu (pv 2) (pe_tup (pa_cons (pv 3) (pa_cons (pv 6) pa_nil))) (fun _ _ => rfl)) (pa_cons (pe_dget hu (pv 2) (pe_tup (pa_cons (pv 6) (pa_cons (pv 4) pa_nil))) (fun _ _ => rfl)) pa_nil)) (by rfl))
          (pss_one (ps_if (PW.pt (pw_and (pt_cmp (pc_notN (pv 7))) (pw_and1 (pt_cmp (pc_notN (pv 8))))))
            (pss_one (ps_dput hu (pv 2) (pe_tup (pa_cons (pv 3) (pa_cons (pv 4) pa_nil))) (pe_ifExp (pt_cmp (pc_isN (pe_dget hu (pv 2) (pe_tup (pa_cons (pv 3) (pa_cons (pv 4) pa_nil))) (fun _ _ => rfl)))) (pe_op op_add (pv 7) (pv 8))
              (pe_callB (call_min2 rfl) (by rfl) T.min (by decide +kernel) (pa_cons (pe_dget hu (pv 2) (pe_tup (pa_cons (pv 3) (pa_cons (pv 4) pa_nil))) (fun _ _ => rfl)) (pa_cons (pe_op op_add (pv 7) (pv 8)) pa_nil)))) rfl)) pss_nil))))))
      (pss_one (ps_ret (pe_ifExp (pt_val (pe_callB (cr_all rfl) (by rfl) T.all (by decide +kernel) (pa_cons
        (pe_lc (own := [("_law_name_here", 9)]) (g := gName 9) (tt := tYes) rfl nd (pi_list (pv 1)) (blkOk_by (N := nRoads) (sc := defScope sRoads) (by decide +kernel)) (fun _ _ _ _ _ => pg_name (i := 9) nd rfl (Or.inl rfl)) (fun _ _ _ _ _ => pts_nil)
          (fun _ _ _ _ _ => pe_cmpR op_eq (pe_dget hu (pv 2) (pe_tup (pa_cons (pv 9) (pa_cons (pv 9) pa_nil))) (fun _ _ => rfl)) pe_int (nomark _))) pa_nil))) (pv 2) pe_non))))), ?_⟩
    have two : 2 ≤ sizeLine := by decide
    have nsz : (prs ns).length < sizeLine := by
      have e : (prs ns).length = ns.length * ns.length := prs_len ns ns
      have := Nat.mul_le_mul hl hl
      rw [e, sizeLine_eq]
      omega
    have ndp : (prs ns).Nodup := prs_nd hnd hnd
    -- the table at the start
    refine ⟨_, rfl, p, ns, rfl, hp, by omega, fun L H1 ts hL s1 l1 p1 => ⟨L, rfl, ⟨_, SqL.of l1⟩, fun M hM => ?_⟩⟩
    have hM0 : H M = none := s1.free hM
    refine lc_it (walk_list (K := K) (a := L) (xs := ts.map V.ref)) (fun i H2 => Same H1 H2 ∧ ∃ us : List Addr, H2 M = some (.lst (us.map V.ref)) ∧ RtAt H2 us ((prs ns).take i) (tabV (road0 zz)))
      ⟨same_upd hM, [], upd_same, ⟨rfl, fun i p e => by simp at e⟩⟩ (fun i H2 _ h => SqL.of (h.1 _ _ l1)) ?_ ?_
    · rintro i x H9 H2 hi ⟨s2, us, m2, r2⟩ ⟨rfl, hx⟩
      obtain ⟨q, hq, rfl⟩ := map_ref hx
      obtain ⟨u, v, hqi, hqp⟩ := p1.at_ i q hq
      refine ⟨q, _, rfl, SqT.of (s2 _ _ hqp), rfl, _, _, rfl, _, _, rfl, rfl, rfl, ?_⟩
      refine ⟨_, rfl, _, rfl, two, fun b hb2 => ⟨_, rfl, _, rfl, rfl, _, rfl, ?_⟩⟩
      have m3 : upd H2 b (.tup [.str u, .str v]) M = some (.lst (us.map V.ref)) := by rw [upd_ne (ne_of_none m2 hb2)]; exact m2
      have fin : ∀ (y : V) (t : Addr), y = tabV (road0 zz) (u, v) → upd H2 b (.tup [.str u, .str v]) t = none → ∃ acc, upd (upd H2 b (.tup [.str u, .str v])) t (.tup [.ref b, y]) M = some (.lst acc) ∧ acc.length < sizeLine ∧
          (Same H1 (upd (upd (upd H2 b (.tup [.str u, .str v])) t (.tup [.ref b, y])) M (.lst (acc ++ [.ref t]))) ∧ ∃ us : List Addr, upd (upd (upd H2 b (.tup [.str u, .str v])) t (.tup [.ref b, y])) M (.lst (acc ++ [.ref t])) M = some (.lst (us.map V.ref)) ∧
            RtAt (upd (upd (upd H2 b (.tup [.str u, .str v])) t (.tup [.ref b, y])) M (.lst (acc ++ [.ref t]))) us ((prs ns).take (i + 1)) (tabV (road0 zz))) := by
        rintro y t rfl ht
        have m4 : upd (upd H2 b (.tup [.str u, .str v])) t (.tup [.ref b, tabV (road0 zz) (u, v)]) M = some (.lst (us.map V.ref)) := by rw [upd_ne (ne_of_none m3 ht)]; exact m3
        have s4 : Same H2 (upd (upd H2 b (.tup [.str u, .str v])) t (.tup [.ref b, tabV (road0 zz) (u, v)])) := (same_upd hb2).trans (same_upd ht)
        have b4 : upd (upd H2 b (.tup [.str u, .str v])) t (.tup [.ref b, tabV (road0 zz) (u, v)]) b = some (.tup [.str u, .str v]) := by rw [upd_ne (ne_of_none upd_same ht)]; exact upd_same
        refine ⟨us.map V.ref, m4, ?_, same_upd2 (s2.trans s4) hM, us ++ [t], by rw [upd_same, List.map_append]; rfl, ?_⟩
        · have e := r2.len
          rw [List.length_take] at e
          rw [List.length_map]
          omega
        · rw [take_snoc hqi]
          refine RtAt.snoc (b := b) (r2.same fun c xs e => tup_upd m4 (fun xs z => nomatch z) _ _ (s4 _ _ e)) ?_ (tup_upd m4 (fun xs z => nomatch z) _ _ b4)
          exact tup_upd m4 (fun xs z => nomatch z) _ _ upd_same
      by_cases e1 : u = v
      · refine ite_d (by rw [e1]) (iteT ⟨two, fun t ht => fin _ t ?_ ht⟩)
        show V.int 0 = oI (road0 zz u v)
        unfold road0
        rw [if_pos (.inl e1)]
        rfl
      · refine ite_n (fun z => e1 (V.str.inj z)) ⟨_, rfl, rfl, _, rfl, ?_⟩
        by_cases e2 : u = zz
        · refine ite_d (by rw [e2]) ⟨two, fun t ht => fin _ t ?_ ht⟩
          show V.int 0 = oI (road0 zz u v)
          unfold road0
          rw [if_pos (.inr e2)]
          rfl
        · refine ite_n (fun z => e2 (V.str.inj z)) ⟨two, fun t ht => fin _ t ?_ ht⟩
          show V.non = oI (road0 zz u v)
          unfold road0
          rw [if_neg fun z => z.elim e1 e2]
          rfl
    · rintro H2 ⟨s2, us, m2, r2⟩
      rw [List.length_map, p1.len, List.take_length] at r2
      refine ⟨M, us, _, rfl, SqL.of m2, r2.paired, ?_, fun d hd => ?_⟩
      · unfold dct
        rw [List.map_map]
        exact List.pairwise_map.mpr (ndp.imp fun ne e => ne (kP_inj _ _ e))
      have Z0 : RZ H (upd H2 d (dP (prs ns) (tabV (road0 zz)))) d ns (road0 zz) := ⟨(s1.trans s2).trans (same_upd hd), upd_same, (s1.trans s2).free hd⟩
      show ∃ b, _
      generalize upd H2 d (dP (prs ns) (tabV (road0 zz))) = H3 at Z0
      clear r2 m2 s2 us hd H2 M hM hM0 p1 l1 s1 hL ts L H1
      -- the bounds
      refine ⟨_, rfl, a, rfl, ⟨_, SqL.of (Z0.same _ _ ha)⟩, for_list (K := K) (a := a) (xs := ps.map V.ref) (fun i σ H2 => ∃ u v c : Option V, σ = [some (.ref a), some (.ref p), some (.ref d), u, v, c, none, none, none, none] ∧ RZ H H2 d ns ((bs.take i).foldl addB (road0 zz)))
        ⟨none, none, none, rfl, Z0⟩ (fun i σ H2 _ ⟨_, _, _, _, Z⟩ => SqL.of (Z.same _ _ ha)) ?_ ?_⟩
      · rintro i x σ H2 hi ⟨u, v, c, rfl, Z⟩
        obtain ⟨q, hq, rfl⟩ := map_ref hi
        obtain ⟨b, hbi, hbp⟩ := hb.at_ i q hq
        obtain ⟨hu1, hv1⟩ := hbn b (List.mem_of_getElem? hbi)
        rw [take_fold hbi]
        generalize (bs.take i).foldl addB (road0 zz) = D at Z
        refine ⟨q, _, rfl, SqT.of (Z.same _ _ hbp), rfl, _, _, rfl, _, _, rfl, _, _, rfl, rfl, ?_⟩
        refine ⟨_, rfl, _, rfl, _, rfl, two, fun t ht => ?_⟩
        have Z2 := Z.new (o := .tup [.str b.u, .str b.v]) ht
        have t2 : upd H2 t (.tup [.str b.u, .str b.v]) t = some (.tup [.str b.u, .str b.v]) := upd_same
        generalize upd H2 t (.tup [.str b.u, .str b.v]) = H3 at Z2 t2
        have fin : ∀ (x : Int) (H4 : Hp), RZ H H4 d ns D → addB D b = up2 D b.u b.v (some x) → ∀ t2 : Addr, H4 t2 = none → ∃ H5, DPut (upd H4 t2 (.tup [.str b.u, .str b.v])) d (.ref t2) (.int x) H5 ∧
            (∃ u v c : Option V, [some (V.ref a), some (.ref p), some (.ref d), some (.str b.u), some (.str b.v), some (.int b.c), none, none, none, none] = [some (V.ref a), some (.ref p), some (.ref d), u, v, c, none, none, none, none] ∧ RZ H H5 d ns (addB D b)) := by
          intro x H4 Z4 e t2 ht2
          have Z5 := Z4.new (o := .tup [.str b.u, .str b.v]) ht2
          refine ⟨_, dP_put Z5.tab upd_same (in_prs hu1 hv1) nsz, _, _, _, rfl, ?_⟩
          rw [e]
          exact Z5.put
        cases eD : D b.u b.v with
        | none =>
          refine ⟨d, _, rfl, Z2.get t2 hu1 hv1 (y := .non) (by rw [eD]; rfl), _, rfl, ?_⟩
          refine iteT ⟨_, rfl, _, rfl, _, rfl, _, rfl, two, fun t3 ht3 => ?_⟩
          have e : addB D b = up2 D b.u b.v (some b.c) := by unfold addB; rw [eD]
          obtain ⟨H5, q5, r5⟩ := fin _ _ Z2 e t3 ht3
          exact ⟨d, H5, rfl, q5, r5⟩
        | some y =>
          refine ⟨d, _, rfl, Z2.get t2 hu1 hv1 (y := .int y) (by rw [eD]; rfl), _, rfl, ?_⟩
          refine iteF ⟨_, rfl, _, rfl, _, rfl, _, rfl, two, fun t3 ht3 => ?_⟩
          have Z3 := Z2.new (o := .tup [.str b.u, .str b.v]) ht3
          refine ⟨d, _, rfl, Z3.get upd_same hu1 hv1 (y := .int y) (by rw [eD]; rfl), b.c, y, rfl, ?_⟩
          refine ⟨_, rfl, _, rfl, _, rfl, two, fun t4 ht4 => ?_⟩
          have e : addB D b = up2 D b.u b.v (some (if y < b.c then y else b.c)) := by unfold addB; rw [eD]
          obtain ⟨H5, q5, r5⟩ := fin _ _ Z3 e t4 ht4
          exact ⟨d, H5, rfl, q5, r5⟩
      rintro σ H2 ⟨u, v, c, rfl, Z1⟩
      rw [List.length_map, hb.len, List.take_length] at Z1
      generalize hD1 : bs.foldl addB (road0 zz) = D1 at Z1
      clear Z0
      -- the roads
      refine ⟨_, rfl, p, rfl, ⟨_, SqL.of (Z1.same _ _ hp)⟩, for_list (K := K) (a := p) (xs := ns.map V.str) (fun i σ H3 => ∃ u v c m o r : Option V, σ = [some (.ref a), some (.ref p), some (.ref d), u, v, c, m, o, r, none] ∧ RZ H H3 d ns ((ns.take i).foldl (fwPhase ns) D1))
        ⟨_, _, _, none, none, none, rfl, Z1⟩ (fun i σ H2 _ ⟨_, _, _, _, _, _, _, Z⟩ => SqL.of (Z.same _ _ hp)) ?_ ?_⟩
      · rintro i x σ H3 hi ⟨u, v, c, m, o, r, rfl, Z⟩
        obtain ⟨k, hk, rfl⟩ := map_str hi
        have hkm := List.mem_of_getElem? hk
        rw [take_fold hk]
        generalize (ns.take i).foldl (fwPhase ns) D1 = D2 at Z
        refine ⟨_, rfl, p, ns, rfl, Z.same _ _ hp, by omega, fun L H4 ts hL s4 l4 p4 => ⟨L, rfl, ⟨_, SqL.of l4⟩, ?_⟩⟩
        have Z4 := Z.more s4
        have hLd : H4 L = some (.lst (ts.map V.ref)) := l4
        refine for_list (K := K) (a := L) (xs := ts.map V.ref) (fun j σ H5 => ∃ u v c o r : Option V, σ = [some (.ref a), some (.ref p), some (.ref d), u, v, c, some (.str k), o, r, none] ∧ RZ H H5 d ns (((prs ns).take j).foldl (fwStep k) D2) ∧ H5 L = some (.lst (ts.map V.ref)) ∧ PrAt H5 ts (prs ns))
          ⟨_, _, _, _, _, rfl, Z4, l4, p4⟩ (fun j σ H5 _ ⟨_, _, _, _, _, _, _, h, _⟩ => SqL.of h) ?_ ?_
        · rintro j y σ H5 hj ⟨u, v, c, o, r, rfl, Z5, l5, p5⟩
          obtain ⟨q, hq, rfl⟩ := map_ref hj
          obtain ⟨u1, v1, hqi, hqp⟩ := p5.at_ j q hq
          obtain ⟨hu1, hv1⟩ := of_prs (List.mem_of_getElem? hqi)
          rw [take_fold hqi]
          generalize ((prs ns).take j).foldl (fwStep k) D2 = D at Z5
          have new : ∀ {H6 : Hp} {t : Addr} {o : HO}, (H6 L = some (.lst (ts.map V.ref)) ∧ PrAt H6 ts (prs ns)) → H6 t = none → (upd H6 t o L = some (.lst (ts.map V.ref)) ∧ PrAt (upd H6 t o) ts (prs ns)) := fun {H6 t o} z ht =>
            ⟨by rw [upd_ne (ne_of_none z.1 ht)]; exact z.1, z.2.same fun b xs e => by rw [upd_ne (ne_of_none e ht)]; exact e⟩
          have W5 : H5 L = some (.lst (ts.map V.ref)) ∧ PrAt H5 ts (prs ns) := ⟨l5, p5⟩
          clear l5 p5
          refine ⟨q, _, rfl, SqT.of hqp, rfl, _, _, rfl, _, _, rfl, rfl, ?_⟩
          clear hqp
          refine ⟨_, rfl, _, rfl, _, rfl, two, fun t1 ht1 => ?_⟩
          have Z6 := Z5.new (o := .tup [.str u1, .str k]) ht1
          have W6 := new (o := .tup [.str u1, .str k]) W5 ht1
          have t6 : upd H5 t1 (.tup [.str u1, .str k]) t1 = some (.tup [.str u1, .str k]) := upd_same
          generalize upd H5 t1 (.tup [.str u1, .str k]) = H6 at Z6 W6 t6
          refine ⟨d, _, rfl, Z6.get t6 hu1 hkm rfl, ?_⟩
          refine ⟨_, rfl, _, rfl, _, rfl, two, fun t2 ht2 => ?_⟩
          have Z7 := Z6.new (o := .tup [.str k, .str v1]) ht2
          have W7 := new (o := .tup [.str k, .str v1]) W6 ht2
          have t7 : upd H6 t2 (.tup [.str k, .str v1]) t2 = some (.tup [.str k, .str v1]) := upd_same
          generalize upd H6 t2 (.tup [.str k, .str v1]) = H7 at Z7 W7 t7
          refine ⟨d, _, rfl, Z7.get t7 hkm hv1 rfl, _, _, rfl, ?_⟩
          clear Z6 W6 t6 Z5 W5 ht1 ht2 t7
          have stay : fwStep k D (u1, v1) = D → (∃ u v c' o r : Option V, [some (V.ref a), some (.ref p), some (.ref d), some (.str u1), some (.str v1), c, some (.str k), some (oI (D u1 k)), some (oI (D k v1)), none] = [some (V.ref a), some (.ref p), some (.ref d), u, v, c', some (.str k), o, r, none] ∧
              RZ H H7 d ns (fwStep k D (u1, v1)) ∧ H7 L = some (.lst (ts.map V.ref)) ∧ PrAt H7 ts (prs ns)) := fun e => ⟨_, _, _, _, _, rfl, by rw [e]; exact Z7, W7⟩
          cases e1 : D u1 k with
          | none =>
            have es : fwStep k D (u1, v1) = D := by
              unfold fwStep
              rw [e1]
            rw [e1] at stay
            exact ⟨_, rfl, _, rfl, iteF (iteF (stay es))⟩
          | some y1 =>
            refine ⟨_, rfl, _, rfl, iteT ?_⟩
            cases e2 : D k v1 with
            | none =>
              have es : fwStep k D (u1, v1) = D := by
                unfold fwStep
                rw [e1, e2]
              rw [e1, e2] at stay
              exact ⟨_, rfl, _, rfl, iteF (stay es)⟩
            | some y2 =>
              refine ⟨_, rfl, _, rfl, iteT ?_⟩
              clear stay
              refine ⟨_, rfl, _, rfl, _, rfl, two, fun t3 ht3 => ?_⟩
              have Z8 := Z7.new (o := .tup [.str u1, .str v1]) ht3
              have W8 := new (o := .tup [.str u1, .str v1]) W7 ht3
              have t8 : upd H7 t3 (.tup [.str u1, .str v1]) t3 = some (.tup [.str u1, .str v1]) := upd_same
              generalize upd H7 t3 (.tup [.str u1, .str v1]) = H8 at Z8 W8 t8
              have fin : ∀ (x : Int) (H9 : Hp), RZ H H9 d ns D → (H9 L = some (.lst (ts.map V.ref)) ∧ PrAt H9 ts (prs ns)) → fwStep k D (u1, v1) = up2 D u1 v1 (some x) → ∀ t2 : Addr, H9 t2 = none → ∃ H5, DPut (upd H9 t2 (.tup [.str u1, .str v1])) d (.ref t2) (.int x) H5 ∧
                  (∃ u v c' o r : Option V, [some (V.ref a), some (.ref p), some (.ref d), some (.str u1), some (.str v1), c, some (.str k), some (.int y1), some (.int y2), none] = [some (V.ref a), some (.ref p), some (.ref d), u, v, c', some (.str k), o, r, none] ∧
                    RZ H H5 d ns (fwStep k D (u1, v1)) ∧ H5 L = some (.lst (ts.map V.ref)) ∧ PrAt H5 ts (prs ns)) := by
                intro x H9 Z9 W9 e t4 ht4
                have Z10 := Z9.new (o := .tup [.str u1, .str v1]) ht4
                have W10 := new (o := .tup [.str u1, .str v1]) W9 ht4
                refine ⟨_, dP_put Z10.tab upd_same (in_prs hu1 hv1) nsz, _, _, _, _, _, rfl, by rw [e]; exact Z10.put, ?_, W10.2.same (tup_upd Z10.tab fun xs z => nomatch z)⟩
                rw [upd_ne (ne_of W10.1 Z10.tab fun z => nomatch z)]
                exact W10.1
              cases e3 : D u1 v1 with
              | none =>
                refine ⟨d, _, rfl, Z8.get t8 hu1 hv1 (y := .non) (by rw [e3]; rfl), _, rfl, ?_⟩
                refine iteT ⟨_, rfl, _, rfl, _, _, rfl, rfl, _, rfl, _, rfl, _, rfl, two, fun t4 ht4 => ?_⟩
                have e : fwStep k D (u1, v1) = up2 D u1 v1 (some (y1 + y2)) := by
                  unfold fwStep
                  rw [e1, e2, e3]
                obtain ⟨H5, q5, r5⟩ := fin _ _ Z8 W8 e t4 ht4
                exact ⟨d, H5, rfl, q5, r5⟩
              | some y =>
                refine ⟨d, _, rfl, Z8.get t8 hu1 hv1 (y := .int y) (by rw [e3]; rfl), _, rfl, ?_⟩
                refine iteF ⟨_, rfl, _, rfl, _, rfl, two, fun t4 ht4 => ?_⟩
                have Z9 := Z8.new (o := .tup [.str u1, .str v1]) ht4
                have W9 := new (o := .tup [.str u1, .str v1]) W8 ht4
                refine ⟨d, _, rfl, Z9.get upd_same hu1 hv1 (y := .int y) (by rw [e3]; rfl), _, rfl, _, rfl, _, _, rfl, rfl, y, y1 + y2, rfl, ?_⟩
                refine ⟨_, rfl, _, rfl, _, rfl, two, fun t5 ht5 => ?_⟩
                have e : fwStep k D (u1, v1) = up2 D u1 v1 (some (if y1 + y2 < y then y1 + y2 else y)) := by
                  unfold fwStep
                  rw [e1, e2, e3]
                obtain ⟨H5, q5, r5⟩ := fin _ _ Z9 W9 e t5 ht5
                exact ⟨d, H5, rfl, q5, r5⟩
        · rintro σ H5 ⟨u, v, c, o, r, rfl, Z5, l5, p5⟩
          rw [List.length_map, p4.len, List.take_length] at Z5
          exact ⟨_, _, _, _, _, _, rfl, Z5⟩
      rintro σ H3 ⟨u, v, c, m, o, r, rfl, Z⟩
      rw [List.length_map, List.take_length] at Z
      have hR : ns.foldl (fwPhase ns) D1 = roads zz ns bs := by
        rw [← hD1]
        rfl
      rw [hR] at Z
      -- whether there is a solution
      refine ⟨_, rfl, p, rfl, ⟨_, SqL.of (Z.same _ _ hp)⟩, fun M hM => ?_⟩
      refine lc_it (walk_list (K := K) (a := p) (xs := ns.map V.str)) (fun i H4 => RZ H H4 d ns (roads zz ns bs) ∧ H M = none ∧ H4 M = some (.lst (((ns.take i).map fun n => roads zz ns bs n n == some 0).map V.bl)))
        ⟨Z.new hM, Z.same.free hM, upd_same⟩ (fun i H4 _ h => SqL.of (h.1.same _ _ hp)) ?_ ?_
      · rintro i x H9 H4 hi ⟨Z4, hM0, m4⟩ ⟨rfl, hx⟩
        obtain ⟨n, hn, rfl⟩ := map_str hx
        have hnm := List.mem_of_getElem? hn
        refine ⟨rfl, _, rfl, _, rfl, _, rfl, two, fun t ht => ?_⟩
        have Z5 := Z4.new (o := .tup [.str n, .str n]) ht
        have m5 : upd H4 t (.tup [.str n, .str n]) M = some (.lst (((ns.take i).map fun n => roads zz ns bs n n == some 0).map V.bl)) := by rw [upd_ne (ne_of_none m4 ht)]; exact m4
        have t5 : upd H4 t (.tup [.str n, .str n]) t = some (.tup [.str n, .str n]) := upd_same
        generalize upd H4 t (.tup [.str n, .str n]) = H5 at Z5 m5 t5
        have fin : ∀ y : Bool, y = (roads zz ns bs n n == some 0) → ∃ acc, H5 M = some (.lst acc) ∧ acc.length < sizeLine ∧ (RZ H (upd H5 M (.lst (acc ++ [.bl y]))) d ns (roads zz ns bs) ∧ H M = none ∧ upd H5 M (.lst (acc ++ [.bl y])) M = some (.lst (((ns.take (i + 1)).map fun n => roads zz ns bs n n == some 0).map V.bl))) := by
          rintro y rfl
          refine ⟨_, m5, ?_, ⟨same_upd2 Z5.same hM0, by rw [upd_ne (ne_of Z5.tab m5 fun z => nomatch z)]; exact Z5.tab, Z5.off⟩, hM0, by rw [upd_same, take_snoc hn, List.map_append, List.map_append]; rfl⟩
          rw [List.length_map, List.length_map, List.length_take, sizeLine_eq]
          omega
        cases e : roads zz ns bs n n with
        | none => exact ⟨d, _, rfl, Z5.get t5 hnm hnm (y := .non) (by rw [e]; rfl), rfl, fin _ (by rw [e]; rfl)⟩
        | some z =>
          refine ⟨d, _, rfl, Z5.get t5 hnm hnm (y := .int z) (by rw [e]; rfl), rfl, fin _ ?_⟩
          rw [e, dec_int]
          rfl
      · rintro H4 ⟨Z4, hM0, m4⟩
        rw [List.length_map, List.take_length] at m4
        refine ⟨M, _, rfl, SqL.of m4, _, rfl, ?_⟩
        cases hall : (ns.map fun n => roads zz ns bs n n == some 0).all id with
        | true =>
          refine iteT ⟨_, rfl, qs d _ Z4.off Z4.same Z4.tab fun n hn => ?_⟩
          exact eq_of_beq (List.all_eq_true.mp hall _ (List.mem_map.mpr ⟨n, hn, rfl⟩))
        | false =>
          refine iteF (qn _ Z4.same fun h => ?_)
          have : (ns.map fun n => roads zz ns bs n n == some 0).all id = true := List.all_eq_true.mpr fun y hy => by
            obtain ⟨n, hn, rfl⟩ := List.mem_map.mp hy
            show (roads zz ns bs n n == some 0) = true
            rw [h n hn]
            rfl
          rw [this] at hall
          cases hall
end
end K31

namespace K31
open PySem L2 PySem.W
/-! ### own operators -/
section
variable {prog : Program} {w : World} {M : Model} {A : Around} {E : Value → Shared → Prop} {s : Shared} {K : Frag} {x C f : Addr} {ox : Obj} {od : Option Obj} {T : String}
/-- x + b by the class's own __add__, b of a builtin type -/
theorem add_own {b : Value} {fo ro rc : Option Value} {Q : Value → Shared → Prop} (X : K.In s.heap) (I : InstAt s.heap x ox C od) (Lb : Looks (model prog w) s.heap (typeOf b) (.type T)) (hc : selfFirst K C = true)
    (hs : findIn K (.ref C) "__add__" = some (some (.ref f))) (hf : isFn K (.ref f) = true) (hr : findIn K (.ref C) "__radd__" = some rc) (hp : rc = none ∨ ∃ g : Addr, rc = some (.ref g))
    (h1 : findIn K (.type T) "__add__" = some fo) (h2 : findIn K (.type T) "__radd__" = some ro) (hsub : subIn K (.type T) (.ref C) = some false)
    (h : wpAny (model prog w) A (call (.ref f) [.ref x, b]) (CmpBack Q) E s) : wpAny (model prog w) A (binaryOp .Add (.ref x) b) Q E s := by
  obtain ⟨cd, rest, hcd, hm⟩ := ksp_first hc
  have one := ksp_try X I hs hf h
  obtain ⟨hh, g, d, tt, os⟩ := s
  have La : Looks (model prog w) hh (typeOf (.ref x)) (.ref C) := I.type
  have Lb : Looks (model prog w) hh (typeOf b) (.type T) := Lb
  have F1 : Looks (model prog w) hh (fillsNumberSlot (.ref C) "add") true := fills_K (nm := "add") X hcd hm hs
  have F2 : Looks (model prog w) hh (fillsNumberSlot (.type T) "add") ((fo.isSome && !isSeqSlot fo) || (ro.isSome && !isSeqSlot ro)) := ksp_fillsT (nm := "add") X h1 h2
  have Ls : Looks (model prog w) hh (isSubtype (.type T) (.ref C)) false := looks_subIn X hsub
  have P1 : Looks (model prog w) hh (numberSlotInPython (.ref C) "add") true := ksp_inPy (nm := "add") X hs hr hp
  have P2 : Looks (model prog w) hh (numberSlotInPython (.type T) "add") false := Looks.of_pure rfl
  have Lr : Looks (model prog w) hh (typeLookup (.type T) (dunderR "add")) ro := looks_findIn X h2
  have hi : Operator.Add.info = ("+", "add") := rfl
  have hne : (Value.ref C == Value.type T) = false := Bool.eq_false_iff.mpr fun q => by cases beq_iff_eq.mp q
  generalize ((fo.isSome && !isSeqSlot fo) || (ro.isSome && !isSeqSlot ro)) = right at F2
  simp only [binaryOp, hi]
  refine wpAny_holding (wpAny_bind ?_)
  unfold binaryOp1
  refine wpAny_bind (La.at (wpAny_bind (Lb.at (wpAny_bind (F1.at ?_)))))
  simp only [hne, Bool.false_eq_true, if_false]
  cases right <;> ksp_lk
  all_goals
    refine wpAny_mono one (fun r s' hr' => ?_) fun _ _ e => e
    obtain ⟨v, rfl, hq⟩ := hr'
    ksp_lk
    exact hq
/-- v in x by the class's own __contains__ -/
theorem in_own {v : Value} {Q : Value → Shared → Prop} (X : K.In s.heap) (I : InstAt s.heap x ox C od) (hs : findIn K (.ref C) "__contains__" = some (some (.ref f))) (hf : isFn K (.ref f) = true)
    (h : wpAny M A (call (.ref f) [.ref x, v]) (fun r s' => ∃ b, r = .bool b ∧ Q (.bool b) s') E s) : wpAny M A (compareOp .In v (.ref x)) Q E s := by
  have h2 : wpAny M A (call (.ref f) [.ref x, v]) (fun r s' => wpAny M A (truthy r) (fun b s2 => Q (.bool b) s2) E s') E s := wpAny_mono h (fun r s' ⟨b, e, q⟩ => by rw [e]; exact wpAny_truthy_bool q) fun _ _ z => z
  refine wpAny_bind (m := contains (.ref x) v) ?_
  unfold contains
  refine wpAny_holding (wpAny_bind (wpAny_bind (I.type.here ((looks_findIn X hs).here ?_))))
  rw [if_neg (by simp)]
  exact wpAny_bind (unlessNone_K X I hs hf (wpAny_mono h2 (fun _ _ z => wpAny_mono z (fun _ _ z => wpAny_pure z) fun _ _ z => z) fun _ _ z => z))
/-- len(x) by the class's own __len__ -/
theorem len_own {Q : Value → Shared → Prop} (X : K.In s.heap) (I : InstAt s.heap x ox C od) (hs : findIn K (.ref C) "__len__" = some (some (.ref f))) (hf : isFn K (.ref f) = true)
    (h : wpAny (model prog w) A.in1 (call (.ref f) [.ref x]) (LenBack Q) E s) : wpAny (model prog w) A (call (.builtin "len") [.ref x]) Q E s := by
  refine Calls.call_function_entry PySem.kind_len PySem.plain_len PySem.entry_len (PySem.args_len1 _) ?_
  unfold Builtin.«len»
  refine wpAny_bind (m := oneArg "len" _) (wpAny_pure (wpAny_bind (m := callSpecial? (.ref x) (Str.ofString "__len__")) (special_fn X I hs (beq_iff_eq.mp hf) (wpAny_mono h (fun r s' hr => ?_) fun _ _ y => y))))
  cases r <;> first | exact hr.elim | skip
  rename_i n u
  obtain ⟨⟨p1, p2⟩, hq⟩ := hr
  refine wpAny_bind (wpAny_holding (wpAny_pure (wpAny_bind (wpAny_letGo ?_))))
  show wpAny _ _ (if n < 0 then _ else _) _ _ _
  rw [if_neg (by omega)]
  show wpAny _ _ (if n ≥ 2 ^ 63 then _ else _) _ _ _
  rw [if_neg (by omega)]
  exact wpAny_bind (wpAny_mkInt (wpAny_pure ⟨_, rfl, hq⟩))
end
/-! ### as rules -/
section
variable {X : Cx} {CX : CXT} {k : Nat} {f C : Addr} {fd : FuncData} {ps : List Str} {sp : Sp} {E : XK}
/-- an instance as it stands -/
theorem ins_at {pins : List (Addr × Obj)} {σ : L2.St} {H : Hp} {s : Shared} {a dx : Addr} {fs : List (Str × V)} (I : Inv X pins σ H s) (h : H a = some (.ins C dx fs)) : ∃ ox od, InstAt s.heap a ox C od := by
  obtain ⟨mA, O, _⟩ := ins_get I.hok h
  obtain ⟨od, J, _⟩ := O.look
  exact ⟨_, _, J⟩
/-- what the class must have for + with a tuple -/
structure AddO (K : Frag) (C f : Addr) : Prop where
  first : selfFirst K C = true
  at_ : findIn K (.ref C) "__add__" = some (some (.ref f))
  fn : isFn K (.ref f) = true
  back : findIn K (.ref C) "__radd__" = some none
  tup : ∃ fo, findIn K (.type "tuple") "__add__" = some fo
  tupr : ∃ ro, findIn K (.type "tuple") "__radd__" = some ro
  sub : subIn K (.type "tuple") (.ref C) = some false
def rAddO (K : Frag) (C : Addr) (sp : Sp) (E : XK) : R2 := fun x y H Q => ∃ a dx fs t xs, x = .ref a ∧ y = .ref t ∧ H a = some (.ins C dx fs) ∧ SqT K H t xs ∧ sp [x, y] H (fun v H' => ∃ p, v = .ref p ∧ Q v H') E
theorem op_addO (c : AddO X.K C f) (F : FnOk X.prog X.w X.K X.mg X.base CX k f fd ps sp) (hr : Room k X.A) (hb : Binds X.K fd ps []) (hx : Passes CX X E) : OpR X (binaryOp .Add) (rAddO X.K C sp E) := by
  intro pins s σ H x y v u Q I rx ry h
  obtain ⟨a, dx, fs, t, xs, rfl, rfl, ha, ht, q⟩ := h
  obtain rfl : v = Value.ref a := rx
  obtain rfl : u = Value.ref t := ry
  obtain ⟨ox, od, J⟩ := ins_at I ha
  obtain ⟨its, _, ⟨o, ho, hcl, _⟩, _⟩ := I.tuple ht
  obtain ⟨fo, h1⟩ := c.tup
  obtain ⟨ro, h2⟩ := c.tupr
  have Lt : Looks (model X.prog X.w) s.heap (typeOf (.ref t)) (.type "tuple") := by
    have z := (Looks.ld (M := model X.prog X.w) (part := none) ho).andThen (f := fun o => pure o.cls) (.now (a := o.cls))
    rw [hcl] at z
    exact z
  refine add_own I.kIn J Lt c.first c.at_ c.fn c.back (.inl rfl) h1 h2 c.sub (wpAny_mono (run_fn F hr hb .nil hx I (vs := [.ref a, .ref t]) (.cons (show RelV (.ref a) (.ref a) from rfl) (.cons (show RelV (.ref t) (.ref t) from rfl) .nil)) q) (fun r s' hq => ?_) fun _ _ e => e)
  obtain ⟨v', H', I', rv, p, rfl, q2⟩ := hq
  obtain rfl : r = Value.ref p := rv
  exact ⟨.ref p, H', I', rfl, q2⟩
/-- what the class must have for in and for len -/
structure OwnM (K : Frag) (C : Addr) (m : Str) (f : Addr) : Prop where
  at_ : findIn K (.ref C) m = some (some (.ref f))
  fn : isFn K (.ref f) = true
def rInO (C : Addr) (sp : Sp) (E : XK) : R2 := fun x y H Q => ∃ a dx fs, y = .ref a ∧ H a = some (.ins C dx fs) ∧ sp [y, x] H (fun v H' => ∃ b, v = .bl b ∧ Q v H') E
theorem op_inO (c : OwnM X.K C "__contains__" f) (F : FnOk X.prog X.w X.K X.mg X.base CX k f fd ps sp) (hr : Room k X.A) (hb : Binds X.K fd ps []) (hx : Passes CX X E) : OpR X (compareOp .In) (rInO C sp E) := by
  intro pins s σ H x y v u Q I rx ry h
  obtain ⟨a, dx, fs, rfl, ha, q⟩ := h
  obtain rfl : u = Value.ref a := ry
  obtain ⟨ox, od, J⟩ := ins_at I ha
  refine in_own I.kIn J c.at_ c.fn (wpAny_mono (run_fn F hr hb .nil hx I (vs := [.ref a, x]) (.cons (show RelV (.ref a) (.ref a) from rfl) (.cons rx .nil)) q) (fun r s' hq => ?_) fun _ _ e => e)
  obtain ⟨v', H', I', rv, b, rfl, q2⟩ := hq
  obtain rfl : r = Value.bool b := rv
  exact ⟨b, rfl, .bl b, H', I', rfl, q2⟩
def rLenO (C : Addr) (sp : Sp) (E : XK) : List V → Hp → VK → Prop := fun xs H Q => ∃ a dx fs, xs = [.ref a] ∧ H a = some (.ins C dx fs) ∧ sp [.ref a] H (fun v H' => ∃ n : Int, v = .int n ∧ 0 ≤ n ∧ n < 2 ^ 63 ∧ Q v H') E
theorem call_lenO (c : OwnM X.K C "__len__" f) (F : FnOk X.prog X.w X.K X.mg X.base CX k f fd ps sp) (hr : Room (k + 1) X.A) (hb : Binds X.K fd ps []) (hx : Passes CX X E) : CallR X (.builtin "len") (rLenO C sp E) := by
  intro pins s σ H xs us Q I r h
  obtain ⟨a, dx, fs, rfl, ha, q⟩ := h
  rw [Vals.ref1 r]
  obtain ⟨ox, od, J⟩ := ins_at I ha
  have r1 : Vals [V.ref a] [Value.ref a] := .cons rfl .nil
  have r2 : Vals ([V.ref a] ++ []) ([Value.ref a] ++ []) := r1
  have e0 : Env0 X.prog X.w X.K X.mg X.base X.A.in1 X.stack s H := ⟨I.env0.frames, I.env0.mod, I.env0.bs, I.env0.bsz, I.env0.funs, I.env0.frf, I.env0.hok, I.env0.bare⟩
  have hl : ([Value.ref a] ++ []).length = ps.length := (F.len _ _ _ _ q).symm ▸ rfl
  refine len_own I.kIn J c.at_ c.fn (wpAny_call (codeAny_mono (F.run X.A.in1 X.stack s H ⟨[Value.ref a], []⟩ [Value.ref a] [V.ref a] _ E hr.in1 e0 (hb s [Value.ref a] I.kIn hl) r1 q) fun r s' hq => ?_))
  cases r with
  | error e => exact hx pins σ H s e s' I hq
  | ok fl =>
    cases fl with
    | ret u =>
      obtain ⟨v', H', I', rv, n, rfl, n0, n1, q2⟩ := I.after hq
      obtain ⟨t, rfl⟩ := rv
      exact ⟨⟨n0, n1⟩, .int n, H', I'.tok _, ⟨_, rfl⟩, q2⟩
    | next => exact False.elim hq
    | brk => exact False.elim hq
    | cont => exact False.elim hq
end
end K31

namespace K31
open PySem L2
/-! ### enumerate(tuple) -/
section
variable {prog : Program} {w : World} {A : Around} {E : Value → Shared → Prop} {s : Shared}
set_option maxHeartbeats 1000000 in
theorem enum_new {v : Value} {o : Obj} {G : Heap → Prop} (B : Begins v o G) : Meets (Builtin.«enumerate.__new__» ⟨[.type "enumerate", v], []⟩) (fun _ R s => G s.heap ∧
    R (.ok (.ret (.ref (s.heap.push o).objs.size))) { s with heap := (s.heap.push o).push { cls := .type "enumerate", data := .fields #[.none, .bool false, .ref s.heap.objs.size, rawInt 0, .none, .none] } }) :=
  .of_wp fun prog w A R s ⟨h1, h⟩ => by
    obtain ⟨hp, g, d, tk, os⟩ := s
    have sub := sub_enumerate
    have it1 : ∀ {A' : Around} {E : Value → Shared → Prop} {Q : Value → Shared → Prop}, Q (.ref hp.objs.size) ⟨hp.push o, g, d, tk, os⟩ → wpAny (model prog w) A' (pyIter v) Q E ⟨hp, g, d, tk, os⟩ := fun q => B.iter prog w _ _ ⟨hp, g, d, tk, os⟩ _ h1 q
    wp_walk using it1
    refine wpAny_stack_any fun st => wpAny_pure ?_
    split <;> first
      | (rename_i c _ _ _ _ _; cases (c == Value.type "enumerate") <;> (wp_walk using it1; exact ⟨_, rfl, h⟩))
      | (wp_walk using it1; exact ⟨_, rfl, h⟩)
theorem call_enum {v : Value} {o : Obj} {G : Heap → Prop} {Q : Value → Shared → Prop} (B : Begins v o G) (h1 : G s.heap)
    (h : ∀ h', IsEnum h' (s.heap.objs.size + 1) s.heap.objs.size 0 .none → h'.get? s.heap.objs.size = some o → (∀ b u, s.heap.get? b = some u → h'.get? b = some u) → Q (.ref (s.heap.objs.size + 1)) { s with heap := h' }) :
    wpAny (model prog w) A (call (.type "enumerate") [v]) Q E s := by
  refine callType_new F.called_enumerate (by decide) (F.typeCall_enumerate_1 _) (F.newCall_enumerate_1 _) (fun obj => F.args_object_init_2 obj _) F.entry_enumerate_new (enum_new B) ⟨h1, ?_⟩
  have hz : (s.heap.push o).objs.size = s.heap.objs.size + 1 := Heap.size_push ..
  have he : ((s.heap.push o).push { cls := .type "enumerate", data := .fields #[.none, .bool false, .ref s.heap.objs.size, rawInt 0, .none, .none] }).get? (s.heap.push o).objs.size = _ := Heap.get?_push_size (s.heap.push o) rfl
  show _ ∧ _
  rw [hz] at he ⊢
  exact ⟨⟨_, he, rfl⟩, h _ he (Heap.get?_push_of_some _ (Heap.get?_push_size _ B.free)) fun b u x => Heap.get?_push_of_some _ (Heap.get?_push_of_some _ x)⟩
end
/-- the tuple at a, each item in a new pair -/
def Iet (K : PySem.W.Frag) (a : Addr) : It :=
  ⟨fun i H => ∃ (xs : List V) (x : V), SqT K H a xs ∧ xs[i]? = some x, fun i H v H' => ∃ T x, v = .ref T ∧ H T = none ∧ H' = upd H T (.tup [.int (i : Nat), x]) ∧ ∀ xs, SqT K H a xs → xs[i]? = some x, fun i H => ∃ xs : List V, SqT K H a xs ∧ xs.length = i⟩
theorem walk_enumT {K : PySem.W.Frag} {a : Addr} {xs : List V} : Walk (Iet K a) xs.length (fun H => SqT K H a xs) (YPair (fun i => some (.int (i : Nat))) (fun i => xs[i]?)) :=
  ⟨fun i _ hi q => ⟨xs, xs[i], q, by simp [hi]⟩, fun _ q => ⟨xs, q, rfl⟩, fun i H v H' _ q ⟨T, x, h1, h2, h3, h4⟩ => ⟨T, .int (i : Nat), x, h1, h2, h3, rfl, h4 xs q⟩⟩
theorem turn_enumT {P : Program} {w : World} {K : PySem.W.Frag} {elts : List Expr} {kk : Nat} {tpos : Pos} (a e it : Addr) (n1 : e ≠ it) (n2 : e ≠ a) (n3 : a ≠ it) :
    Turn P w K (.Tuple elts kk tpos) (Iet K a) [e, it] e (fun i h => (∃ old, IsEnum h e it ((i : Nat) : Int) old) ∧ h.IsTupleIter it a i) where
  mem := by simp
  obj := fun i h ⟨⟨old, he⟩, o, ho, hc, hd⟩ b hb => by
    rcases (show b = e ∨ b = it by simpa using hb) with rfl | rfl
    · exact ⟨_, he, fun v q => nomatch q⟩
    · exact ⟨o, ho, fun v q => by rw [hd] at q; cases q⟩
  keep := fun i h h' ⟨⟨old, he⟩, hi⟩ k => ⟨⟨old, k e (by simp) _ he⟩, hi.at fun o q => k it (by simp) o q⟩
  item := by
    intro X hP hw hK hc i pins s σ H E I hf st hg
    subst hP hw hK
    obtain ⟨⟨old, he⟩, hit⟩ := st
    obtain ⟨xs, x, hq, hx⟩ := hg
    obtain ⟨its, rv, p, hz⟩ := I.tuple hq
    obtain ⟨u, hu, ru⟩ := rv.get hx
    have hlt : i < its.toArray.size := by
      rw [List.size_toArray]
      exact (List.getElem?_eq_some_iff.mp hu).1
    have old1 : ∀ b ∈ [e, it], b < s.heap.objs.size := fun b hb => by
      rcases (show b = e ∨ b = it by simpa using hb) with rfl | rfl
      · exact Heap.lt_size he
      · obtain ⟨_, q, _⟩ := hit
        exact Heap.lt_size q
    refine wpAny_pyNext_enum_itemD (Draws.tuple (A := X.A.in1) (I.ok.hd hc) it a n3 its.toArray) he ⟨hit, p⟩ hlt n1 (by simp [n1, n2]) fun y h' tk hy ho st' hT hsz hk => ?_
    obtain rfl : u = y := Option.some.inj (hu.symm.trans (by simpa using hy))
    refine ⟨_, rfl, wpAny_letOwnedTupleGo_enum (s := { s with heap := h', toks := tk + 1 }) ho fun h2 he2 sb => ?_⟩
    have hT2 : h2.get? s.heap.objs.size = some { cls := .type "tuple", data := .seq #[.int i tk, u] } := (sb.2 _ (Nat.ne_of_gt (old1 e (by simp)))).trans hT
    have I1 : Inv X pins σ (upd H s.heap.objs.size (.tup [.int (i : Nat), x])) { s with heap := h2, toks := tk + 1 } :=
      I.turnedNew (ch := [e, it]) (fun b ob hb q => (sb.2 b (fun z => hb (by simp [z]))).trans (hk b ob (fun z => hb (by simp [z])) (fun z => hb (by simp [z])) q)) hf (Nat.le_refl _)
        ⟨by show 2 ≤ sizeLine; decide, [.int i tk, u], .cons ⟨_, rfl⟩ (.cons ru .nil), ⟨_, hT2, rfl, _, rfl⟩⟩
    refine ⟨.ref s.heap.objs.size, _, I1, rfl, ⟨_, x, rfl, I.hok.fresh (Nat.le_refl _), rfl, fun ys hy => by rw [I.tuple_inj hy hq]; exact hx⟩, ⟨⟨u, ?_⟩, st'.1.at fun o q => (sb.2 it (Ne.symm n1)).trans q⟩, fun b hb => ?_⟩
    · have e1 : ((i + 1 : Nat) : Int) = (i : Int) + 1 := by omega
      rw [e1]
      exact he2
    · rw [upd_ne (Nat.ne_of_lt (old1 b hb))]
      exact (hf b hb).1
  done := by
    intro X hP hw hK hc i pins s σ H E I hf st hg
    subst hP hw hK
    obtain ⟨⟨old, he⟩, hit⟩ := st
    obtain ⟨xs, hq, rfl⟩ := hg
    obtain ⟨its, rv, p, hz⟩ := I.tuple hq
    obtain ⟨f0, f1, f2, f3, f4, f5⟩ := hf it (by simp)
    have hl : its.toArray.size = xs.length := by rw [List.size_toArray]; exact rv.length.symm
    exact wpAny_pyNext_enum_endD (Draws.tuple (A := X.A.in1) (I.ok.hd hc) it a n3 its.toArray) he (by rw [hl]; exact ⟨hit, p⟩) fun h' eb => ⟨rfl, I.turned (t' := s.toks) (fun b o hb q => eb b o hb q) f0 f1 f3 f4 f5⟩
  self := fun A i s Q E st h => let ⟨⟨_, he⟩, _⟩ := st; wpAny_pyIter_enum he h
/-- for i, x in enumerate(e), e a tuple -/
def iEnumT (K : PySem.W.Frag) (ta : TA) : TI := fun σ H R => ta σ H fun vs H1 => ∃ a xs, vs = [.ref a] ∧ SqT K H1 a xs ∧ R (Iet K a) H1
theorem pi_enumT {X : Cx} {e : Expr} {ta : TA} {p pos tpos : Pos} {elts : List Expr} {kk : Nat} (hg : Gl X "enumerate") (hm : X.mg "enumerate" = none) (ha : PA X [e] ta) (hs : starEach [e] X.env = [(false, eval e X.env)] := by rfl) :
    PI X (.Tuple elts kk tpos) (.Call (.Name "enumerate" p) [e] [] pos) (iEnumT X.K ta) := by
  refine ⟨fun pins s σ H R I h => PyProof.Rows.Call_ (ld_blt I hg hm (show bootBuiltins "enumerate" = some (.type "enumerate") by decide +kernel) (PyProof.Rows.callWith_type1 (thn (ha.run pos pins s σ H _ I h) fun us s1 ⟨vs, H1, I1, r1, a, xs, ex, hq, q⟩ => ?_) hs rfl))⟩
  subst ex
  obtain ⟨u, rfl, ru⟩ := vals1 r1
  obtain rfl : u = Value.ref a := ru
  obtain ⟨its, rv, p', hz⟩ := I1.tuple hq
  have lt : a < s1.heap.objs.size := by
    obtain ⟨o, ho, _⟩ := p'
    exact Heap.lt_size ho
  refine call_enum (begins_tuple a its.toArray) p' fun h' he hit hk => wpAny_pyIter_enum he ?_
  have I2 : Inv X pins σ H1 { s1 with heap := h' } := I1.kept (t' := s1.toks) hk
  refine ⟨s1.heap.objs.size + 1, [s1.heap.objs.size + 1, s1.heap.objs.size], _, _, H1, rfl, I2, turn_enumT a (s1.heap.objs.size + 1) s1.heap.objs.size (Nat.succ_ne_self _) (Nat.ne_of_gt (Nat.lt_succ_of_lt lt)) (Nat.ne_of_lt lt), ⟨⟨.none, he⟩, ⟨_, hit, rfl, rfl⟩⟩, fun b hb => ?_, q⟩
  rcases (show b = s1.heap.objs.size + 1 ∨ b = s1.heap.objs.size by simpa using hb) with rfl | rfl
  · exact I1.fpOk (Nat.le_succ _) (I1.hok.fresh (Nat.le_succ _))
  · exact I1.fpOk (Nat.le_refl _) (I1.hok.fresh (Nat.le_refl _))
end K31

namespace K31
open PySem L2
/-! ### making an instance of a class whose __init__ takes a star -/
section
variable {X : Cx} {CX : CXT} {k : Nat} {f C : Addr} {sp : Sp} {E : XK} {x : Str} {e : Expr} {te : TE} {p q pos : Pos}
/-- C() -/
theorem pe_makeR0 (M : Mk X.K C f) (F : FnR X.prog X.w X.K X.mg X.base CX k f sp) (hr : Room (k + 1) X.A) (hg : Gl X x) (hm : X.mg x = some (.ref C)) (hx : Passes CX X E) (hdb : (x == ("__debug__" : Str)) = false := by decide) :
    PE X (.Call (.Name x p) [] [] pos) (StX.tMakeR C sp E tNil) :=
  ⟨fun pins s σ H Q I h => PySem.wpAny_Call_Name_kw (ld_glob I hg hm (PySem.W.callWith_K0 I.kIn M.kp (StX.run_makeR (us := []) M F hr hx I .nil h)) hdb)⟩
/-- C(*e) -/
def tMakeS (K : PySem.W.Frag) (C : Addr) (sp : Sp) (E : XK) (te : TE) : TE := fun σ H Q => te σ H fun y H1 => ∃ a xs, y = V.ref a ∧ (SqT K H1 a xs ∨ SqL K H1 a xs) ∧
  ∀ x dx, H1 x = none → H1 dx = none → dx ≠ x → sp (V.ref x :: xs) (upd (upd H1 dx (.own x)) x (.ins C dx [])) (fun v H2 => v = .non ∧ Q (.ref x) H2) E
theorem pe_makeS1 (M : Mk X.K C f) (F : FnR X.prog X.w X.K X.mg X.base CX k f sp) (hr : Room (k + 1) X.A) (hg : Gl X x) (hm : X.mg x = some (.ref C)) (hx : Passes CX X E) (he : PE X e te) (hdb : (x == ("__debug__" : Str)) = false := by decide)
    (hst : starEach [.Starred e q] X.env = [(true, eval e X.env)] := by rfl) : PE X (.Call (.Name x p) [.Starred e q] [] pos) (tMakeS X.K C sp E te) := by
  refine ⟨fun pins s σ H Q I h => PySem.wpAny_Call_Name_kw (ld_glob I hg hm (PySem.W.callWith_S (h₀ := X.base) I.ok.mod.kin M.kp (thn (he.run pins s σ H _ I h) fun v s1 ⟨y, H1, I1, ry, a, xs, ey, hxs, q⟩ => ?_) hst) hdb)⟩
  subst ey
  obtain rfl : v = Value.ref a := ry
  exact StX.star_any I1 hxs fun us s2 I2 rv => ⟨I2.kIn, StX.run_makeR M F hr hx I2 rv q⟩
end
section
variable {P : Program} {w : World} {K : PySem.W.Frag} {mg : Str → Option Value} {base : Heap}
/-- a def with a star parameter, by its body -/
theorem fun_star {x qual : Str} {st : Stmt} {f : Addr} {fd : FuncData} {N ps : List Str} {pv : Str} {k : Nat} {sp : Sp} (F : Fun K x qual st f fd) (S : FnScope N (ps ++ [pv]) (defScope st))
    (hb : ∀ (kV doc pm : Value) (an : Option Addr) (cdv ct : Value) (us rest : List Value), us.length = ps.length → bindArgs (PySem.W.fnOf x qual (defArgs st) (defBody st) (defScope st) .none kV doc pm an cdv ct) ⟨us ++ rest, []⟩ = (newTuple rest >>= fun t => pure (ps.zip us ++ [(pv, t)])))
    (hbody : ∀ (cdv : Value) (A : Around) (outer : List Env) (s : Shared) (H : Hp) (vs : List V) (Q : VK) (E : XK), Room k (A.deeper (PyProof.Rows.envOfC qual (defScope st) s.heap.objs.size f cdv)) → sp vs H Q E →
      ∃ t, PSs (cxOf CX0 P w K mg base N qual (defScope st) f cdv A outer s H E).nox (defBody st) t ∧ t { nx := fun _ H' => Q .non H', rt := Q } (start N vs) H) :
    FnR P w K mg base CX0 (k + 1) f (fun vs H Q E => ∃ ws rest, vs = ws ++ rest ∧ ws.length = ps.length ∧ rest.length ≤ sizeLine ∧ ∀ p, H p = Option.none → sp (ws ++ [V.ref p]) (upd H p (.tup rest)) Q E) := by
  obtain ⟨oc, od, kV, doc, pm, an, cdv, ct, osl, rfl, lk, hcd⟩ := F.ex
  refine StX.fn_star lk hcd S (fun _ _ _ _ _ _ _ _ _ _ _ z => z) (hb kV doc pm an cdv ct) fun A outer s H vs Q E hr hsp => ?_
  obtain ⟨t, h, q⟩ := hbody cdv A outer s H vs Q E hr hsp
  exact ⟨t, h.nox, q⟩

/-! ### the class Bounds -/
/-- the system at x: its tuple of the bounds bs -/
structure BoAt (H : Hp) (C x : Addr) (ps : List Addr) (bs : List (Bd Str)) : Prop where
  ex : ∃ dx t, H x = some (.ins C dx [("bounds", .ref t)]) ∧ H t = some (.tup (ps.map V.ref))
  at_ : BdsAt H ps bs
  ok : ∀ b ∈ bs, BdOk b
theorem BoAt.same {H H' : Hp} {C x : Addr} {ps : List Addr} {bs : List (Bd Str)} (h : BoAt H C x ps bs) (s : Same H H') : BoAt H' C x ps bs :=
  ⟨let ⟨dx, t, h1, h2⟩ := h.ex; ⟨dx, t, s _ _ h1, s _ _ h2⟩, h.at_.same fun b _ e => s b _ e, h.ok⟩
/-- what the text tells of the class -/
structure BCls (K : PySem.W.Frag) (mg : Str → Option Value) (C fi : Addr) : Prop where
  cls : Cls K C
  na : NoAttr K C "bounds"
  make : Mk K C fi
  m : mg "Bounds" = some (.ref C)
/-! __init__ -/
def spInit (C : Addr) : Sp := fun vs H Q _ => ∃ x dx t ps bs, vs = [.ref x, .ref t] ∧ H x = some (.ins C dx []) ∧ H t = some (.tup (ps.map V.ref)) ∧ BdsAt H ps bs ∧ (∀ b ∈ bs, BdOk b) ∧ ∀ H', Same H H' → Q .non (upd H' x (.ins C dx [("bounds", .ref t)]))
theorem scInit : FnScope ["self", "bounds", "index", "bound"] ((["self"] : List Str) ++ [("bounds" : Str)]) (defScope sInit) := ⟨rfl, rfl, rfl, by decide +kernel, rfl, by decide +kernel, by decide +kernel⟩
def spStar (C : Addr) : Sp := fun vs H Q E => ∃ ws rest, vs = ws ++ rest ∧ ws.length = (["self"] : List Str).length ∧ rest.length ≤ sizeLine ∧ ∀ p, H p = Option.none → spInit C (ws ++ [V.ref p]) (upd H p (.tup rest)) Q E
theorem ok_init {C f f1 : Addr} {fd fd1 : FuncData} (c : BCls K mg C f) (F : Fun K "__init__" "Bounds.__init__" sInit f fd) (T : Blt mg) (D1 : Df K mg "is_bound" sIsBound ["thing"] f1 fd1) (G1 : FnOk P w K mg base CX0 2 f1 fd1 ["thing"] (spIsBound K)) :
    FnR P w K mg base CX0 3 f (spStar C) := by
  refine fun_star F (ps := ["self"]) (pv := "bounds") scInit (fun kV doc pm an cdv ct => StX.bind_star1 (B := fun xs => bindArgs (PySem.W.fnOf "__init__" "Bounds.__init__" (defArgs sInit) (defBody sInit) (defScope sInit) .none kV doc pm an cdv ct) ⟨xs, []⟩) (fun a => rfl) (fun a r rs => rfl)) fun cdv A outer s H vs Q E hr h => ?_
  obtain ⟨x, dx, t, ps, bs, rfl, hx, ht, hb, hok, q⟩ := h
  have nd := scInit.nd
  refine ⟨_, pss_cons (ps_for PassesOwn.never rfl (pi_enumT rfl T.enumerate (pa_cons (pv 1) pa_nil)) (pg_tup rfl (pgs_cons (pg_name (i := 2) nd rfl (.inl rfl)) (pgs_cons (pg_name (i := 3) nd rfl (.inl rfl)) pgs_nil)))
      (pss_one (ps_if (pt_not (pt_val (pe_call G1 hr rfl D1.m D1.F.kp D1.b .nil pass0 (pa_cons (pv 3) pa_nil)))) (pss_one ps_never) pss_nil)))
    (pss_one (ps_fld (pv 0) (pv 1) (by rfl))), ?_⟩
  have hlp := hb.len
  refine ⟨_, rfl, t, _, rfl, SqT.of ht, for_it walk_enumT (fun i σ H1 => ∃ u v : Option V, σ = [some (.ref x), some (.ref t), u, v] ∧ Same H H1) ⟨none, none, rfl, Same.refl H⟩ (fun i σ H1 _ ⟨_, _, _, z⟩ => SqT.of (z _ _ ht)) ?_ ?_⟩
  · rintro i y σ H1 H2 hi ⟨u, v, rfl, s1⟩ ⟨T, z1, z2, rfl, hT, rfl, h1, h2⟩
    cases h1
    obtain ⟨p, hp, rfl⟩ := map_ref h2
    obtain ⟨b, hbi, hbp⟩ := hb.at_ i p hp
    have s2 : Same H (upd H1 T (.tup [.int (i : Nat), .ref p])) := s1.trans (same_upd hT)
    refine ⟨T, _, rfl, SqT.of upd_same, rfl, _, _, rfl, _, _, rfl, rfl, ?_⟩
    exact ⟨_, rfl, _, rfl, .inl ⟨p, b, rfl, s2 _ _ hbp, hok b (List.mem_of_getElem? hbi), fun H3 s3 => ⟨_, rfl, iteF ⟨_, _, rfl, s2.trans s3⟩⟩⟩⟩
  · rintro σ H1 ⟨u, v, rfl, s1⟩
    exact ⟨_, rfl, _, rfl, x, C, dx, [], rfl, s1 _ _ hx, c.cls, c.na, by decide, q H1 s1⟩

/-! least, __len__ -/
def spLeast (C : Addr) : Sp := fun vs H Q _ => ∃ x ps bs, vs = [.ref x] ∧ BoAt H C x ps bs ∧ bs.length ≤ 400 ∧
  (∀ d H' m, Same H H' → H' d = some (dS (collect zz bs) fun n => .int (m n)) → Least zz bs m → Q (.ref d) H') ∧ (∀ H', Same H H' → ¬ Feas zz bs → Q .non H')
theorem scLeast : FnScope ["self"] ["self"] (defScope sLeast) := ⟨rfl, rfl, rfl, by decide +kernel, rfl, by decide +kernel, by decide +kernel⟩
theorem ok_least {C f fi f1 : Addr} {fd fd1 : FuncData} (c : BCls K mg C fi) (F : Fun K "least" "Bounds.least" sLeast f fd) (D1 : Df K mg "solve_bounds" sSolve ["bounds"] f1 fd1) (G1 : FnOk P w K mg base CX0 2 f1 fd1 ["bounds"] spSolve) :
    FnOk P w K mg base CX0 3 f fd ["self"] (spLeast C) := by
  refine F.ok scLeast (fun vs H Q E h => ?_) (fun cdv A outer s H vs Q E hr h => ?_)
  · obtain ⟨x, ps, bs, rfl, _⟩ := h
    rfl
  · obtain ⟨x, ps, bs, rfl, B, hl, qy, qn⟩ := h
    refine ⟨_, pss_one (ps_ret (pe_ix ix_tup (pe_call G1 hr rfl D1.m D1.F.kp D1.b .nil pass0 (pa_cons (pe_fld (pv 0) (by rfl)) pa_nil)) pe_int (fun _ _ => rfl))), ?_⟩
    obtain ⟨dx, t, h1, h2⟩ := B.ex
    refine ⟨_, rfl, x, C, dx, _, _, rfl, h1, c.cls, c.na, rfl, t, ps, bs, rfl, h2, B.at_, fun b hb => (B.ok b hb).2.2, hl, fun r d H' y m s1 r1 d1 lm => ?_, fun r y H' s1 r1 nf => ?_⟩
    · exact ⟨r, _, _, _, rfl, rfl, SqT.of r1, rfl, qy d H' m s1 d1 lm⟩
    · exact ⟨r, _, _, _, rfl, rfl, SqT.of r1, rfl, qn H' s1 nf⟩
def spLen (C : Addr) : Sp := fun vs H Q _ => ∃ x ps bs, vs = [.ref x] ∧ BoAt H C x ps bs ∧ Q (.int (bs.length : Nat)) H
theorem scLen : FnScope ["self"] ["self"] (defScope sLen) := ⟨rfl, rfl, rfl, by decide +kernel, rfl, by decide +kernel, by decide +kernel⟩
theorem ok_len {C f fi : Addr} {fd : FuncData} (c : BCls K mg C fi) (F : Fun K "__len__" "Bounds.__len__" sLen f fd) (T : Blt mg) : FnOk P w K mg base CX0 1 f fd ["self"] (spLen C) := by
  refine F.ok scLen (fun vs H Q E h => ?_) (fun cdv A outer s H vs Q E hr h => ?_)
  · obtain ⟨x, ps, bs, rfl, _⟩ := h
    rfl
  · obtain ⟨x, ps, bs, rfl, B, q⟩ := h
    refine ⟨_, pss_one (ps_ret (pe_callB call_len (by rfl) T.len PySem.boot_len (pa_cons (pe_fld (pv 0) (by rfl)) pa_nil))), ?_⟩
    obtain ⟨dx, t, h1, h2⟩ := B.ex
    refine ⟨_, rfl, x, C, dx, _, _, rfl, h1, c.cls, c.na, rfl, _, ps.length, rfl, .inr ⟨_, SqT.of h2, (List.length_map _).symm⟩, ?_⟩
    rw [B.at_.len]
    exact q

/-! __add__ -/
def spAdd (C : Addr) : Sp := fun vs H Q _ => ∃ x p ps bs b, vs = [.ref x, .ref p] ∧ BoAt H C x ps bs ∧ BdAt H p b ∧ BdOk b ∧ bs.length ≤ 400 ∧ ∀ y H', Same H H' → BoAt H' C y (ps ++ [p]) (bs ++ [b]) → Q (.ref y) H'
theorem scAdd : FnScope ["self", "other", "found"] ["self", "other"] (defScope sAdd) := ⟨rfl, rfl, rfl, by decide +kernel, rfl, by decide +kernel, by decide +kernel⟩
theorem ok_add {C f fi f1 : Addr} {fd fd1 : FuncData} (c : BCls K mg C fi) (F : Fun K "__add__" "Bounds.__add__" sAdd f fd) (GI : FnR P w K mg base CX0 3 fi (spStar C)) (D1 : Df K mg "is_bound" sIsBound ["thing"] f1 fd1) (G1 : FnOk P w K mg base CX0 2 f1 fd1 ["thing"] (spIsBound K)) :
    FnOk P w K mg base CX0 5 f fd ["self", "other"] (spAdd C) := by
  refine F.ok scAdd (fun vs H Q E h => ?_) (fun cdv A outer s H vs Q E hr h => ?_)
  · obtain ⟨x, p, ps, bs, b, rfl, _⟩ := h
    rfl
  · obtain ⟨x, p, ps, bs, b, rfl, B, hp, hok, hl, q⟩ := h
    have nd := scAdd.nd
    have hr2 : Room 2 _ := hr.mono (by decide)
    refine ⟨_, pss_cons (ps_if (pt_not (pt_val (pe_call G1 hr2 rfl D1.m D1.F.kp D1.b .nil pass0 (pa_cons (pv 1) pa_nil)))) (pss_one ps_never) pss_nil)
      (pss_cons (ps_set (i := 2) nd rfl (Or.inl rfl) (pe_tup (StX.pa_star (pe_fld (pv 0) (by rfl)) (pa_cons (pv 1) pa_nil))))
      (pss_one (ps_ret (pe_makeS1 c.make GI hr rfl c.m pass0 (pv 2))))), ?_⟩
    refine ⟨_, rfl, _, rfl, .inl ⟨p, b, rfl, hp, hok, fun H1 s1 => ⟨_, rfl, iteF ?_⟩⟩⟩
    have B1 := B.same s1
    have hp1 : BdAt H1 p b := s1 _ _ hp
    obtain ⟨dx, t, h1, h2⟩ := B1.ex
    have hlen : (ps.map V.ref ++ [V.ref p]).length ≤ sizeLine := by
      have := B.at_.len
      rw [List.length_append, List.length_map, sizeLine_eq]
      show ps.length + 1 ≤ _
      omega
    refine ⟨_, rfl, x, C, dx, _, _, rfl, h1, c.cls, c.na, rfl, t, _, rfl, .inl (SqT.of h2), _, rfl, hlen, fun F2 hF => ?_⟩
    have s2 : Same H1 (upd H1 F2 (.tup (ps.map V.ref ++ [.ref p]))) := same_upd hF
    have f2 : upd H1 F2 (.tup (ps.map V.ref ++ [.ref p])) F2 = some (.tup ((ps ++ [p]).map V.ref)) := by rw [upd_same, List.map_append]; rfl
    refine ⟨_, rfl, F2, _, rfl, .inl (SqT.of f2), fun y dy hy hdy ne => ?_⟩
    generalize upd H1 F2 (.tup (ps.map V.ref ++ [.ref p])) = H2 at s2 f2 hy hdy
    have hy2 : upd H2 dy (.own y) y = none := by rw [upd_ne ne.symm]; exact hy
    have s3 : Same H2 (upd (upd H2 dy (.own y)) y (.ins C dy [])) := (same_upd hdy).trans (same_upd hy2)
    have y3 : upd (upd H2 dy (.own y)) y (.ins C dy []) y = some (.ins C dy []) := upd_same
    generalize upd (upd H2 dy (.own y)) y (.ins C dy []) = H3 at s3 y3
    refine ⟨[.ref y], (ps ++ [p]).map V.ref, rfl, rfl, ?_, fun g hg => ?_⟩
    · rw [List.map_append]
      exact hlen
    have s4 : Same H3 (upd H3 g (.tup ((ps ++ [p]).map V.ref))) := same_upd hg
    have s14 := s2.trans (s3.trans s4)
    have at4 : BdsAt (upd H3 g (.tup ((ps ++ [p]).map V.ref))) (ps ++ [p]) (bs ++ [b]) := BdsAt.append (B1.at_.same fun c _ e => s14 c _ e) (BdsAt.one (s14 _ _ hp1))
    have ok4 : ∀ c ∈ bs ++ [b], BdOk c := fun c hc => (List.mem_append.mp hc).elim (B.ok c) fun z => by rw [List.mem_singleton.mp z]; exact hok
    refine ⟨y, dy, g, ps ++ [p], bs ++ [b], rfl, s4 _ _ y3, upd_same, at4, ok4, fun H5 s5 => ⟨rfl, q y _ ?_ ?_⟩⟩
    · have s15 : Same H H5 := s1.trans (s14.trans s5)
      have hyH : H y = none := (s1.trans s2).free hy
      exact same_upd2 s15 hyH
    · have y5 : H5 y = some (.ins C dy []) := s5 _ _ (s4 _ _ y3)
      refine ⟨⟨dy, g, upd_same, ?_⟩, (at4.same fun c _ e => s5 c _ e).same (tup_upd y5 fun xs z => nomatch z), ok4⟩
      exact tup_upd y5 (fun xs z => nomatch z) _ _ (s5 _ _ upd_same)

/-! __contains__ -/
def spIn (K : PySem.W.Frag) (C : Addr) : Sp := fun vs H Q _ => ∃ x y ps bs, vs = [.ref x, y] ∧ BoAt H C x ps bs ∧ bs.length ≤ 19 ∧
  ((∃ p b, y = .ref p ∧ BdAt H p b ∧ BdOk b ∧ ∀ (r : Bool) H', Same H H' → (r = true ↔ Fol zz bs b) → Q (.bl r) H') ∨ (NoBound K H y ∧ ∀ H', Same H H' → Q (.bl false) H'))
theorem scIn : FnScope ["self", "x", "found"] ["self", "x"] (defScope sIn) := ⟨rfl, rfl, rfl, by decide +kernel, rfl, by decide +kernel, by decide +kernel⟩
theorem ok_in {C f fi f1 f2 f3 : Addr} {fd fd1 fd2 fd3 : FuncData} (c : BCls K mg C fi) (F : Fun K "__contains__" "Bounds.__contains__" sIn f fd) (D1 : Df K mg "is_bound" sIsBound ["thing"] f1 fd1) (G1 : FnOk P w K mg base CX0 2 f1 fd1 ["thing"] (spIsBound K))
    (D2 : Df K mg "opposite" sOpp ["bound"] f2 fd2) (D3 : Df K mg "can_hold" sHold ["bounds"] f3 fd3) (G3 : FnOk P w K mg base CX0 1 f3 fd3 ["bounds"] spHold) : FnOk P w K mg base CX0 3 f fd ["self", "x"] (spIn K C) := by
  have G2 : FnOk P w K mg base CX0 1 f2 fd2 ["bound"] spOpp := ok_opp D2.F
  refine F.ok scIn (fun vs H Q E h => ?_) (fun cdv A outer s H vs Q E hr h => ?_)
  · obtain ⟨x, y, ps, bs, rfl, _⟩ := h
    rfl
  · obtain ⟨x, y, ps, bs, rfl, B, hl, h⟩ := h
    have nd := scIn.nd
    have hr1 : Room 1 _ := hr.mono (by decide)
    refine ⟨_, pss_cons (ps_if (pt_not (pt_val (pe_call G1 hr rfl D1.m D1.F.kp D1.b .nil pass0 (pa_cons (pv 1) pa_nil)))) (pss_one (ps_ret pe_bl)) pss_nil)
      (pss_cons (ps_set (i := 2) nd rfl (Or.inl rfl) (pe_tup (StX.pa_star (pe_fld (pv 0) (by rfl)) (pa_cons (pe_call G2 hr1 rfl D2.m D2.F.kp D2.b .nil pass0 (pa_cons (pv 1) pa_nil)) pa_nil))))
      (pss_one (ps_ret (pe_not (pe_call G3 hr1 rfl D3.m D3.F.kp D3.b .nil pass0 (pa_cons (pv 2) pa_nil)))))), ?_⟩
    rcases h with ⟨p, b, rfl, hp, hok, q⟩ | ⟨nb, q⟩
    · refine ⟨_, rfl, _, rfl, .inl ⟨p, b, rfl, hp, hok, fun H1 s1 => ⟨_, rfl, iteF ?_⟩⟩⟩
      have B1 := B.same s1
      have hp1 : BdAt H1 p b := s1 _ _ hp
      obtain ⟨dx, t, h1, h2⟩ := B1.ex
      refine ⟨_, rfl, x, C, dx, _, _, rfl, h1, c.cls, c.na, rfl, t, _, rfl, .inl (SqT.of h2), _, rfl, p, b, rfl, hp1, fun o ho => ?_⟩
      have s2 := s1.trans (same_upd (o := .tup [.str (opp b).u, .str (opp b).v, .int (opp b).c]) ho)
      have o2 : BdAt (upd H1 o (.tup [.str (opp b).u, .str (opp b).v, .int (opp b).c])) o (opp b) := upd_same
      generalize upd H1 o (.tup [.str (opp b).u, .str (opp b).v, .int (opp b).c]) = H2 at s2 o2
      refine ⟨by
        have := B.at_.len
        rw [List.length_append, List.length_map, sizeLine_eq]
        show ps.length + 1 ≤ _
        omega, fun g hg => ?_⟩
      have s3 := s2.trans (same_upd (o := .tup (ps.map V.ref ++ [.ref o])) hg)
      have g3 : upd H2 g (.tup (ps.map V.ref ++ [.ref o])) g = some (.tup ((ps ++ [o]).map V.ref)) := by rw [upd_same, List.map_append]; rfl
      have at3 : BdsAt (upd H2 g (.tup (ps.map V.ref ++ [.ref o]))) (ps ++ [o]) (bs ++ [opp b]) := BdsAt.append (B.at_.same fun c _ e => s3 c _ e) (BdsAt.one (same_upd hg _ _ o2))
      generalize upd H2 g (.tup (ps.map V.ref ++ [.ref o])) = H3 at s3 g3 at3
      refine ⟨_, rfl, g, ps ++ [o], bs ++ [opp b], rfl, g3, at3, by rw [List.length_append]; exact Nat.succ_le_succ hl, fun r H4 s4 hr2 => ⟨_, rfl, q _ _ (s3.trans s4) ?_⟩⟩
      rw [← opp_fol, ← hr2]
      cases r <;> simp
    · exact ⟨_, rfl, y, rfl, .inr ⟨nb, fun H1 s1 => ⟨_, rfl, iteT (q H1 s1)⟩⟩⟩
end
end K31

namespace K31
open PySem L2
/-! ### the law -/
theorem asg_go {te : TE} {g : TG} {u : TS} {D : Ends} {σ : L2.St} {H : Hp} (R : V → Hp → Prop) (ht : ∀ Q' : VK, (∀ v H', R v H' → Q' v H') → te σ H Q') (h : ∀ v H', R v H' → g v σ H' (u D)) : tSeq (tAsg te g) u D σ H := ht _ h
theorem if_no {c : Prop} [Decidable c] {A B : Prop} (hc : ¬ c) (hb : B) : if c then A else B := by
  rw [if_neg hc]
  exact hb
theorem zz_ok : NameOk zz := by
  unfold NameOk
  decide +kernel
theorem a_ok : NameOk "a" := by
  unfold NameOk
  decide +kernel
theorem name_fresh {x y : Str} (hx : NameOk x) (hy : y = "a" ∨ y = "b") : NameOk (y ++ cutS x (some 1) none) ∧ y.length + (cutS x (some 1) none).length ≤ sizeLine := by
  obtain ⟨h1, h2, h3⟩ := hx
  have hl := len_cps x
  have y1 : y.cps.toList.length = 1 ∧ ∀ c ∈ y.cps.toList, 97 ≤ c ∧ c ≤ 122 := by
    rcases hy with rfl | rfl
    · decide +kernel
    · decide +kernel
  have e : (cutS x (some 1) none).cps.toList = x.cps.toList.drop 1 := by
    have z := cut_tail x 1
    rw [Nat.min_eq_left h1] at z
    exact z
  have ey : y.length = 1 := by rw [len_cps]; exact y1.1
  have ec : (cutS x (some 1) none).length = x.length - 1 := by rw [len_cps, e, List.length_drop, hl]
  have el : (y ++ cutS x (some 1) none).length = x.length := by
    rw [len_cps, app_cps, List.length_append, ← len_cps, ← len_cps, ey, ec]
    omega
  refine ⟨⟨by rw [el]; exact h1, by rw [el]; exact h2, fun c hc => ?_⟩, by rw [ey, ec, sizeLine_eq]; omega⟩
  rw [app_cps, e] at hc
  rcases List.mem_append.mp hc with z | z
  · exact y1.2 c z
  · exact h3 c (List.mem_of_mem_drop z)
/-- all but the bag stands as in G -/
theorem BoAt.kp {G H : Hp} {C x p : Addr} {k : Nat} {ps : List Addr} {bs : List (Bd Str)} (h : BoAt G C x ps bs) (b : Bag G p k) (s : Kp p G H) : BoAt H C x ps bs := by
  obtain ⟨_, _, _, hp, _⟩ := b
  exact ⟨let ⟨dx, t, h1, h2⟩ := h.ex; ⟨dx, t, s _ _ h1 (ne_of h1 hp fun z => nomatch z), s _ _ h2 (ne_of h2 hp fun z => nomatch z)⟩, h.at_.same fun b _ e => s b _ e (ne_of e hp fun z => nomatch z), h.ok⟩
/-- the answers of the roads and of the least solution go together -/
def Best (G : Hp) (es : List Str) (bs : List (Bd Str)) (vb vl : V) : Prop := (vb = .non ∧ vl = .non ∧ ¬ Feas zz bs) ∨
  ∃ d le m, vb = .ref d ∧ vl = .ref le ∧ G d = some (dP (prs es) (tabV (roads zz es bs))) ∧ (∀ n ∈ es, roads zz es bs n n = some 0) ∧ G le = some (dS (collect zz bs) fun n => .int (m n)) ∧ Least zz bs m
section
variable {P : Program} {w : World} {K : PySem.W.Frag} {mg : Str → Option Value} {base : Heap}
def spLaw (K : PySem.W.Frag) : Sp := fun vs H Q _ => ∃ (a : Addr) (ns : List Int), vs = [.ref a] ∧ SqL K H a (ns.map V.int) ∧ ns.length ≤ 63 ∧ ∀ H', Q (.bl true) H'
abbrev nLaw : List Str := ["_law_script", "_law_at", "_law_bag_here", "_law_names_here", "_law_bounds", "_law_system_here", "_law_bound", "_law_fresh", "_law_every", "_law_best", "_law_least", "_law_turn", "_law_u", "_law_v", "_law_strict", "_law_near", "_law_c", "_law_follows", "_law_again", "_law_odd", "_law_name_here"]
theorem scLaw : FnScope nLaw ["_law_script"] (defScope sLaw) := ⟨rfl, rfl, rfl, by decide +kernel, rfl, by decide +kernel, by decide +kernel⟩
set_option maxHeartbeats 8000000 in
theorem ok_law {C f fi fl fa fn fe f1 f2 f3 f4 f5 : Addr} {fd fdl fda fdn fde fd1 fd2 fd3 fd4 fd5 : FuncData} (F : Fun K "law" "law" sLaw f fd) (T : Blt mg) (c : BCls K mg C fi) (GI : FnR P w K mg base CX0 3 fi (spStar C))
    (D1 : Df K mg "_law_bag" sBag ["_law_script", "_law_at"] f1 fd1) (G1 : FnOk P w K mg base CX0 1 f1 fd1 ["_law_script", "_law_at"] (spBag K))
    (D2 : Df K mg "_law_of" sOf ["_law_bag_here", "_law_some"] f2 fd2) (G2 : FnOk P w K mg base CX0 2 f2 fd2 ["_law_bag_here", "_law_some"] spOf)
    (D3 : Df K mg "_law_numbers" sNumbers ["_law_bag_here", "_law_many"] f3 fd3) (G3 : FnOk P w K mg base CX0 4 f3 fd3 ["_law_bag_here", "_law_many"] spNumbers)
    (D4 : Df K mg "_law_system" sSystem ["_law_bag_here", "_law_names_here"] f4 fd4) (G4 : FnOk P w K mg base CX0 3 f4 fd4 ["_law_bag_here", "_law_names_here"] spSystem)
    (D5 : Df K mg "_law_roads" sRoads ["_law_bounds", "_law_names_here"] f5 fd5) (G5 : FnOk P w K mg base CX0 2 f5 fd5 ["_law_bounds", "_law_names_here"] spRoads)
    (cl : Meth K C "least" fl) (GL : FnOk P w K mg base CX0 3 fl fdl ["self"] (spLeast C)) (bl : Binds K fdl ["self"] [])
    (ca : AddO K C fa) (GA : FnOk P w K mg base CX0 5 fa fda ["self", "other"] (spAdd C)) (ba : Binds K fda ["self", "other"] [])
    (cn : OwnM K C "__contains__" fn) (GN : FnOk P w K mg base CX0 3 fn fdn ["self", "x"] (spIn K C)) (bn : Binds K fdn ["self", "x"] [])
    (ce : OwnM K C "__len__" fe) (GE : FnOk P w K mg base CX0 1 fe fde ["self"] (spLen C)) (be : Binds K fde ["self"] []) :
    FnOk P w K mg base CX0 6 f fd ["_law_script"] (spLaw K) := by
  refine F.ok scLaw (fun vs H Q E h => ?_) (fun cdv A outer s H vs Q E hr h => ?_)
  · obtain ⟨a, ns, rfl, _⟩ := h
    rfl
  · obtain ⟨a, ns, rfl, ha, hl, q⟩ := h
    have hu := hu_of hr
    have nd := scLaw.nd
    have hr1 : Room 1 _ := hr.mono (by decide)
    have hr2 : Room 2 _ := hr.mono (by decide)
    have hr3 : Room 3 _ := hr.mono (by decide)
    have hr4 : Room 4 _ := hr.mono (by decide)
    refine ⟨_, pss_cons (ps_for PassesOwn.never rfl (pi_range1 rfl T.range (pa_cons (pe_callB (call_max2 rfl) (by rfl) T.max (by decide +kernel) (pa_cons pe_int (pa_cons (pe_callB (call_min2 rfl) (by rfl) T.min (by decide +kernel) (pa_cons pe_int (pa_cons (pe_callB call_len (by rfl) T.len PySem.boot_len (pa_cons (pv 0) pa_nil)) pa_nil))) pa_nil))) pa_nil)) (pg_name (i := 1) nd rfl (.inl rfl))
        (pss_cons (ps_set (i := 2) nd rfl (Or.inl rfl) (pe_call G1 hr1 rfl D1.m D1.F.kp D1.b .nil pass0 (pa_cons (pv 0) (pa_cons (pv 1) pa_nil))))
        (pss_cons (ps_set (i := 3) nd rfl (Or.inl rfl) (pe_call G3 hr4 rfl D3.m D3.F.kp D3.b .nil pass0 (pa_cons (pv 2) (pa_cons pe_int pa_nil))))
        (pss_cons (ps_par (i := 4) (j := 5) rfl nd rfl rfl (by decide) rfl rfl (pa_cons (pe_call G4 hr3 rfl D4.m D4.F.kp D4.b .nil pass0 (pa_cons (pv 2) (pa_cons (pv 3) pa_nil))) (pa_cons (pe_makeR0 c.make GI hr4 rfl c.m pass0) pa_nil)) (by rfl))
        (pss_cons (ps_for PassesOwn.never rfl (pi_list (pv 4)) (pg_name (i := 6) nd rfl (.inl rfl)) (pss_one (ps_set (i := 5) nd rfl (Or.inl rfl) (pe_op (op_addO ca GA hr ba pass0) (pv 5) (pv 6)))))
        (pss_cons (ps_set (i := 7) nd rfl (Or.inl rfl) (pe_op op_add_str (pe_ifExp (pt_cmpR op_ne (pe_ix ix_str (pe_ix ix_list (pv 3) pe_int (fun _ _ => rfl)) pe_int (fun _ _ => rfl)) pe_str (nomark _)) pe_str pe_str) (pe_slice sl_str (pe_ix ix_list (pv 3) pe_int (fun _ _ => rfl)) (po_some pe_int) po_none)))
        (pss_cons (ps_set (i := 8) nd rfl (Or.inl rfl) (pe_ifExp (pt_cmpR op_notIn_seq (pv 7) (pv 3) (by rfl)) (pe_op op_cat (pv 3) (pe_lst (pa_cons (pv 7) pa_nil))) (pv 3)))
        (pss_cons (ps_asg (pe_tup (pa_cons (pe_call G5 hr2 rfl D5.m D5.F.kp D5.b .nil pass0 (pa_cons (pv 4) (pa_cons (pv 8) pa_nil))) (pa_cons (pe_meth0 (pv 5) c.cls cl GL hr3 bl .nil pass0) pa_nil))) (pg_tup rfl (pgs_cons (pg_name (i := 9) nd rfl (.inl rfl)) (pgs_cons (pg_name (i := 10) nd rfl (.inr rfl)) pgs_nil))))
        (pss_cons (ps_if (pt_cmpR op_ne (pe_cmp (pc_isN (pv 9))) (pe_cmp (pc_isN (pv 10))) (nomark _)) (pss_one (ps_ret pe_bl)) pss_nil)
        (pss_cons (ps_for PassesOwn.never rfl (pi_range1 rfl T.range (pa_cons pe_int pa_nil)) (pg_name (i := 11) nd rfl (.inl rfl))
          (pss_cons (ps_par (i := 12) (j := 13) rfl nd rfl rfl (by decide) rfl rfl (pa_cons (pe_call G2 hr2 rfl D2.m D2.F.kp D2.b .nil pass0 (pa_cons (pv 2) (pa_cons (pv 8) pa_nil))) (pa_cons (pe_call G2 hr2 rfl D2.m D2.F.kp D2.b .nil pass0 (pa_cons (pv 2) (pa_cons (pv 8) pa_nil))) pa_nil)) (by rfl))
          (pss_cons (ps_if (pt_cmpR op_eq (pv 12) (pv 13) (nomark _)) (pss_one ps_continue) pss_nil)
          (pss_cons (ps_set (i := 14) nd rfl (Or.inl rfl) (pe_ifExp (pt_cmp (pc_notN (pv 9))) (pe_dget hu (pv 9) (pe_tup (pa_cons (pv 12) (pa_cons (pv 13) pa_nil))) (fun _ _ => rfl)) pe_non))
          (pss_cons (ps_set (i := 15) nd rfl (Or.inl rfl) (pe_ifExp (pt_cmp (pc_isN (pv 14))) (pe_lst (pa_cons pe_int (pa_cons (pe_un un_neg pe_int) (pa_cons pe_int (pa_cons (pe_op op_pow pe_int pe_int) pa_nil)))))
            (pe_lst (pa_cons (pv 14) (pa_cons (pe_op op_sub (pv 14) pe_int) (pa_cons (pe_op op_add (pv 14) pe_int) (pa_cons pe_int pa_nil)))))))
          (pss_cons (ps_set (i := 16) nd rfl (Or.inl rfl) (pe_call G2 hr2 rfl D2.m D2.F.kp D2.b .nil pass0 (pa_cons (pv 2) (pa_cons (pv 15) pa_nil))))
          (pss_cons (ps_set (i := 17) nd rfl (Or.inl rfl) (pe_or (pe_cmp (pc_isN (pv 9))) (pe_one (pe_and (pe_cmp (pc_notN (pv 14))) (pe_one (pe_cmpR op_le (pv 14) (pv 16) (nomark _)))))))
          (pss_cons (ps_if (pt_cmpR op_ne (pe_cmpR (op_inO cn GN hr3 bn pass0) (pe_tup (pa_cons (pv 12) (pa_cons (pv 13) (pa_cons (pv 16) pa_nil)))) (pv 5) (by rfl)) (pv 17) (nomark _)) (pss_one (ps_ret pe_bl)) pss_nil)
          (pss_one (ps_if (PW.pt (pw_and (pt_val (pv 17)) (pw_and (pt_cmpR op_in_seq (pv 12) (pv 3) (by rfl)) (pw_and (pt_cmpR op_in_seq (pv 13) (pv 3) (by rfl)) (pw_and1 (pt_cmp (pc_notN (pv 9))))))))
            (pss_cons (ps_set (i := 18) nd rfl (Or.inr rfl) (pe_meth0 (pe_op (op_addO ca GA hr ba pass0) (pv 5) (pe_tup (pa_cons (pv 12) (pa_cons (pv 13) (pa_cons (pv 16) pa_nil))))) c.cls cl GL hr3 bl .nil pass0))
            (pss_one (ps_if (pt_val (pe_lock (pe_callB (cr_any rfl) (by rfl) T.any (by decide +kernel) (pa_cons
              (pe_lc (own := [("_law_name_here", 20)]) (g := gName 20) (tt := tYes) rfl nd (pi_keys (pv 10)) (blkOk_by (N := nLaw) (sc := defScope sLaw) (by decide +kernel)) (fun _ _ _ _ _ => pg_name (i := 20) nd rfl (Or.inl rfl)) (fun _ _ _ _ _ => pts_nil)
                (fun _ _ _ _ _ => pe_cmpR op_ne (pe_dget hu (pv 18) (pv 20) (fun _ _ => rfl)) (pe_dget hu (pv 10) (pv 20) (fun _ _ => rfl)) (nomark _))) pa_nil)))) (pss_one (ps_ret pe_bl)) pss_nil))) pss_nil))))))))))
        (pss_cons (ps_for PassesOwn.never rfl (pi_tup (pe_tup (pa_cons pe_non (pa_cons pe_bl (pa_cons pe_str (pa_cons (pe_tup (pa_cons pe_str (pa_cons pe_str (pa_cons pe_int pa_nil)))) (pa_cons (pe_lst (pa_cons pe_str (pa_cons pe_str (pa_cons pe_int pa_nil))))
            (pa_cons (pe_tup (pa_cons pe_str (pa_cons pe_str (pa_cons pe_bl pa_nil)))) (pa_cons (pe_tup (pa_cons pe_str (pa_cons pe_str pa_nil))) (pa_cons (pe_tup pa_nil) pa_nil)))))))))) (pg_name (i := 19) nd rfl (.inl rfl))
          (pss_one (ps_if (pt_cmpR (op_inO cn GN hr3 bn pass0) (pv 19) (pv 5) (by rfl)) (pss_one (ps_ret pe_bl)) pss_nil)))
        (pss_one (ps_if (pt_cmpR op_ne (pe_callB (call_lenO ce GE hr2 be pass0) (by rfl) T.len PySem.boot_len (pa_cons (pv 5) pa_nil)) (pe_callB call_len (by rfl) T.len PySem.boot_len (pa_cons (pv 4) pa_nil)) (nomark _)) (pss_one (ps_ret pe_bl)) pss_nil)))))))))))))
      (pss_one (ps_ret pe_bl)), ?_⟩
    obtain ⟨m0, hm0⟩ : ∃ m0 : Int, m0 = (if (if ((ns.length : Nat) : Int) < 2 then ((ns.length : Nat) : Int) else 2) > 1 then (if ((ns.length : Nat) : Int) < 2 then ((ns.length : Nat) : Int) else 2) else 1) := ⟨_, rfl⟩
    have hm2 : 0 ≤ m0 ∧ m0 ≤ 2 := by
      rw [hm0]
      split <;> split <;> omega
    refine ⟨_, rfl, _, ns.length, rfl, .inl ⟨_, ha, (List.length_map _).symm⟩, 2, _, rfl, 1, _, rfl, m0, ?_, by omega, by omega, ?_⟩
    · rw [hm0]
    clear hm0
    refine for_range (lo := 0) (n := m0.toNat) (fun i σ H1 => Same H H1 ∧ ∃ o1 o2 o3 o4 o5 o6 o7 o8 o9 o10 o11 o12 o13 o14 o15 o16 o17 o18 o19 o20 : Option V, σ = [some (.ref a), o1, o2, o3, o4, o5, o6, o7, o8, o9, o10, o11, o12, o13, o14, o15, o16, o17, o18, o19, o20])
      ⟨Same.refl H, none, none, none, none, none, none, none, none, none, none, none, none, none, none, none, none, none, none, none, none, rfl⟩ ?_ ?_
    · rintro i σ H1 hi ⟨s1, o1, o2, o3, o4, o5, o6, o7, o8, o9, o10, o11, o12, o13, o14, o15, o16, o17, o18, o19, o20, rfl⟩
      -- the bag, the names, the bounds
      refine ⟨_, rfl, _, rfl, a, ns, i, by rw [Int.zero_add]; rfl, s1.seq ha, hl, by omega, fun p H2 s2 p0 b2 => ?_⟩
      have hpH : H p = none := s1.free p0
      refine ⟨_, rfl, p, 0, rfl, b2, by omega, fun np H3 l np0 l3 lnd lok llen b3 k3 => ?_⟩
      have npne : np ≠ p := fun e => by
        obtain ⟨_, _, _, h, _⟩ := b2
        rw [e, h] at np0
        cases np0
      obtain ⟨nm, hnm⟩ : ∃ nm, nm = l ++ [zz] := ⟨_, rfl⟩
      have nnd : nm.Nodup := by
        rw [hnm]
        exact List.nodup_append.mpr ⟨lnd, by simp, fun x hx y hy e => (lok x hx).2 (by rw [e]; exact List.mem_singleton.mp hy)⟩
      have nok : ∀ n ∈ nm, NameOk n := fun n hn => by
        rw [hnm] at hn
        rcases List.mem_append.mp hn with z | z
        · exact (lok n z).1
        · rw [List.mem_singleton.mp z]
          exact zz_ok
      have nzz : zz ∈ nm := by rw [hnm]; simp
      have nlen : nm.length ≤ 7 := by
        rw [hnm, List.length_append]
        exact Nat.succ_le_succ llen
      rw [← hnm] at l3
      clear hnm lnd lok llen
      refine ⟨_, rfl, _, rfl, p, np, nm, 100, rfl, l3, npne, nnd, nok, nzz, nlen, b3, by omega, fun bp H4 ps bs bp0 l4 bd4 ok4 len4 b4 k4 => ?_⟩
      have bpne : bp ≠ p := fun e => by
        obtain ⟨_, _, _, h, _⟩ := b3
        rw [e, h] at bp0
        cases bp0
      have s14 : Same H1 H4 := fun b o e => by
        have n1 : b ≠ p := ne_of_none e p0
        exact k4 _ _ (k3 _ _ (s2 _ _ e) n1) n1
      have np4 : H4 np = some (.lst (nm.map V.str)) := k4 _ _ l3 npne
      clear l3 np0 bp0 b2 b3 s2 k3 k4 p0
      intro x dx hx hdx hne
      have hx2 : upd H4 dx (.own x) x = none := by rw [upd_ne hne.symm]; exact hx
      have s5 : Same H4 (upd (upd H4 dx (.own x)) x (.ins C dx [])) := (same_upd hdx).trans (same_upd hx2)
      have x5 : upd (upd H4 dx (.own x)) x (.ins C dx []) x = some (.ins C dx []) := upd_same
      generalize upd (upd H4 dx (.own x)) x (.ins C dx []) = H5 at s5 x5
      refine ⟨[.ref x], [], rfl, rfl, Nat.zero_le _, fun tt htt => ⟨x, dx, tt, [], [], rfl, same_upd htt _ _ x5, upd_same, BdsAt.nil, (fun b h => nomatch h), fun H6 s6 => ⟨rfl, ?_⟩⟩⟩
      have x6 : H6 x = some (.ins C dx []) := s6 _ _ (same_upd htt _ _ x5)
      have tt6 : H6 tt = some (.tup []) := s6 _ _ upd_same
      have s46 : Same H4 (upd H6 x (.ins C dx [("bounds", .ref tt)])) := same_upd2 (s5.trans ((same_upd htt).trans s6)) hx
      have B7 : BoAt (upd H6 x (.ins C dx [("bounds", .ref tt)])) C x (ps.take 0) (bs.take 0) := ⟨⟨dx, tt, upd_same, tup_upd x6 (fun xs z => nomatch z) _ _ tt6⟩, BdsAt.nil, fun b h => nomatch h⟩
      refine ⟨_, _, rfl, ?_⟩
      show ∃ v, _
      generalize upd H6 x (.ins C dx [("bounds", .ref tt)]) = H7 at s46 B7
      clear x6 tt6 x5 s5 hx2 hx hdx hne s6 htt
      have s17 := s14.trans s46
      have np7 := s46 _ _ np4
      have bp7 := s46 _ _ l4
      have b7 : Bag H7 p 300 := b4.at fun o e => s46 _ _ e
      have bd7 := bd4.same fun b _ e => s46 b _ e
      clear b4 bd4 np4 l4 s14 s46
      -- the system
      refine ⟨_, rfl, bp, rfl, ⟨_, SqL.of bp7⟩, for_list (K := K) (a := bp) (xs := ps.map V.ref) (fun j σ H8 => ∃ (y : Addr) (o6 : Option V), σ = [some (.ref a), some (.int (0 + (i : Int))), some (.ref p), some (.ref np), some (.ref bp), some (.ref y), o6, o7, o8, o9, o10, o11, o12, o13, o14, o15, o16, o17, o18, o19, o20] ∧ Same H7 H8 ∧ BoAt H8 C y (ps.take j) (bs.take j))
        ⟨x, o6, rfl, Same.refl H7, B7⟩ (fun j σ H8 _ ⟨_, _, _, h, _⟩ => SqL.of (h _ _ bp7)) ?_ ?_⟩
      · rintro j z σ H8 hj ⟨y, o6, rfl, s8, B8⟩
        obtain ⟨r, hr6, rfl⟩ := map_ref hj
        obtain ⟨b, hbj, hbr⟩ := bd7.at_ j r hr6
        obtain ⟨dy, ty, hy, _⟩ := B8.ex
        have hbm := List.mem_of_getElem? hbj
        refine ⟨_, rfl, _, rfl, y, dy, _, r, _, rfl, rfl, hy, SqT.of (s8 _ _ hbr), y, r, _, _, b, rfl, B8, s8 _ _ hbr, (ok4 b hbm).1, by rw [List.length_take]; omega, fun y2 H9 s9 B9 => ⟨y2, rfl, y2, _, rfl, s8.trans s9, ?_⟩⟩
        rw [take_snoc hr6, take_snoc hbj]
        exact B9
      rintro σ H8 ⟨sy, o6, rfl, s8, B8⟩
      have eps : ps.take (ps.map V.ref).length = ps := by rw [List.length_map, List.take_length]
      have ebs : bs.take (ps.map V.ref).length = bs := by rw [List.length_map, bd7.len, List.take_length]
      rw [eps, ebs] at B8
      clear B7 eps ebs
      have s18 := s17.trans s8
      have np8 := s8 _ _ np7
      have bp8 := s8 _ _ bp7
      have b8 : Bag H8 p 300 := b7.at fun o e => s8 _ _ e
      have bd8 := bd7.same fun b _ e => s8 b _ e
      clear s17 s8 np7 bp7 b7 bd7
      -- a fresh name
      obtain ⟨n0, hn0⟩ : ∃ n0, nm[0]? = some n0 := by
        cases e : nm with
        | nil =>
          rw [e] at nzz
          cases nzz
        | cons y ys => exact ⟨y, rfl⟩
      have ok0 := nok n0 (List.mem_of_getElem? hn0)
      have hv0 : (nm.map V.str)[0]? = some (.str n0) := by rw [List.getElem?_map, hn0]; rfl
      obtain ⟨c0, hc0⟩ : ∃ c0, n0.cps.toList[0]? = some c0 := by
        have h1 := ok0.1
        rw [len_cps] at h1
        exact ⟨_, List.getElem?_eq_getElem h1⟩
      have l0 : n0.length ≤ sizeLine := by
        have := ok0.2.1
        rw [sizeLine_eq]
        omega
      dsimp only
      refine asg_go (fun v H' => H' = H8 ∧ ∃ x, v = .str x ∧ NameOk x) (fun Q' h => ?_) ?_
      · refine ⟨_, rfl, _, _, _, _, rfl, rfl, SqL.of np8, atI_nat (j := 0) hv0, _, _, c0, rfl, rfl, l0, atI_nat (j := 0) hc0, rfl, _, rfl, ?_⟩
        by_cases e : V.str ⟨#[c0]⟩ = V.str "a"
        · obtain ⟨f1, f2⟩ := name_fresh (y := "b") ok0 (.inr rfl)
          refine if_no (by simp [e]) ?_
          exact ⟨_, rfl, _, _, _, _, rfl, rfl, SqL.of np8, atI_nat (j := 0) hv0, _, rfl, n0, rfl, l0, _, _, rfl, rfl, f2, h _ _ ⟨rfl, _, rfl, f1⟩⟩
        · obtain ⟨f1, f2⟩ := name_fresh (y := "a") ok0 (.inl rfl)
          refine ite_nn e ?_
          exact ⟨_, rfl, _, _, _, _, rfl, rfl, SqL.of np8, atI_nat (j := 0) hv0, _, rfl, n0, rfl, l0, _, _, rfl, rfl, f2, h _ _ ⟨rfl, _, rfl, f1⟩⟩
      rintro v H' ⟨rfl, fr, rfl, frok⟩
      -- all names
      dsimp only [gName]
      refine asg_go (fun v H9 => ∃ (ev : Addr) (es : List Str), v = .ref ev ∧ Same H' H9 ∧ H9 ev = some (.lst (es.map V.str)) ∧ ev ≠ p ∧ es.Nodup ∧ (∀ n ∈ es, NameOk n) ∧ (∀ n ∈ nm, n ∈ es) ∧ es.length ≤ 8) (fun Q' h => ?_) ?_
      · refine ⟨_, rfl, _, rfl, np, _, rfl, .inl (SqL.of np8), rfl, flat_str nm, _, rfl, ?_⟩
        by_cases hin : fr ∈ nm
        · have e : inV (.str fr) (nm.map V.str) = true := by rw [inV_str]; exact decide_eq_true hin
          rw [e]
          exact iteF ⟨_, rfl, h _ _ ⟨np, nm, rfl, Same.refl _, np8, npne, nnd, nok, fun n hn => hn, by omega⟩⟩
        · have e : inV (.str fr) (nm.map V.str) = false := by rw [inV_str]; exact decide_eq_false hin
          rw [e]
          refine iteT ⟨_, rfl, _, rfl, by show 1 ≤ sizeLine; decide, fun L hL => ⟨np, L, _, _, rfl, rfl, same_upd hL _ _ np8, upd_same, ?_, fun ev hev => h _ _ ⟨ev, nm ++ [fr], rfl, (same_upd hL).trans (same_upd hev), by rw [upd_same, List.map_append]; rfl, fun z => ?_, ?_, ?_, ?_, ?_⟩⟩⟩
          · rw [List.length_map, sizeLine_eq]
            show nm.length + 1 ≤ _
            omega
          · have bL := b8.new (o := .lst [.str fr]) hL
            obtain ⟨_, _, _, g, _⟩ := bL
            rw [z, g] at hev
            cases hev
          · exact List.nodup_append.mpr ⟨nnd, by simp, fun y hy z hz e => hin (by rw [← List.mem_singleton.mp hz, ← e]; exact hy)⟩
          · intro n hn
            rcases List.mem_append.mp hn with z | z
            · exact nok n z
            · rw [List.mem_singleton.mp z]
              exact frok
          · exact fun n hn => List.mem_append_left _ hn
          · rw [List.length_append]
            exact Nat.succ_le_succ nlen
      rintro v H9 ⟨ev, es, rfl, s9, ev9, evne, esnd, esok, nes, eslen⟩
      have s19 := s18.trans s9
      have np9 := s9 _ _ np8
      have bp9 := s9 _ _ bp8
      have b9 : Bag H9 p 300 := b8.at fun o e => s9 _ _ e
      have bd9 := bd8.same fun b _ e => s9 b _ e
      have B9 := B8.same s9
      have bes : ∀ b ∈ bs, b.u ∈ es ∧ b.v ∈ es := fun b hb => ⟨nes _ (ok4 b hb).2.1, nes _ (ok4 b hb).2.2⟩
      have ezz := nes _ nzz
      clear s18 s9 np8 bp8 b8 bd8 B8 hn0 ok0 hv0 hc0 l0 frok
      -- the roads and the least solution
      dsimp only [gName]
      refine asg_go (fun v G => ∃ (T : Addr) (vb vl : V), v = .ref T ∧ G T = some (.tup [vb, vl]) ∧ Same H9 G ∧ Best G es bs vb vl) (fun Q' h => ?_) ?_
      · refine ⟨_, rfl, _, rfl, bp, ev, ps, bs, es, rfl, bp9, bd9, bes, ev9, esnd, eslen, fun d H10 hd s10 d10 dia => ?_, fun H10 s10 nd10 => ?_⟩
        · have B10 := B9.same s10
          obtain ⟨dx, t, h1, h2⟩ := B10.ex
          refine ⟨_, rfl, sy, dx, _, rfl, h1, rfl, sy, ps, bs, rfl, B10, by omega, fun le H11 m s11 le11 lm => ⟨by show 2 ≤ sizeLine; decide, fun T hT => h _ _ ⟨T, _, _, rfl, upd_same, (s10.trans s11).trans (same_upd hT), .inr ⟨d, le, m, rfl, rfl, same_upd hT _ _ (s11 _ _ d10), dia, same_upd hT _ _ le11, lm⟩⟩⟩, fun H11 s11 nf => ?_⟩
          obtain ⟨sol, hsol, _⟩ := tab_feas (roads_tab dia) ezz bes
          exact absurd ⟨sol, hsol⟩ nf
        · have B10 := B9.same s10
          obtain ⟨dx, t, h1, h2⟩ := B10.ex
          refine ⟨_, rfl, sy, dx, _, rfl, h1, rfl, sy, ps, bs, rfl, B10, by omega, fun le H11 m s11 le11 lm => ?_, fun H11 s11 nf => ⟨by show 2 ≤ sizeLine; decide, fun T hT => h _ _ ⟨T, _, _, rfl, upd_same, (s10.trans s11).trans (same_upd hT), .inl ⟨rfl, rfl, nf⟩⟩⟩⟩
          exact absurd ⟨m, lm.1⟩ (roads_none nd10)
      rintro v G ⟨T7, vb, vl, rfl, hT7, s10, best⟩
      refine ⟨T7, _, rfl, SqT.of hT7, rfl, _, _, rfl, _, _, rfl, rfl, ?_⟩
      have sG := s19.trans s10
      have npG := s10 _ _ np9
      have bpG := s10 _ _ bp9
      have evG := s10 _ _ ev9
      have bG : Bag G p 300 := b9.at fun o e => s10 _ _ e
      have BG := B9.same s10
      clear s19 s10 np9 bp9 ev9 b9 bd9 B9 hT7
      refine ⟨_, rfl, _, rfl, rfl, _, rfl, if_no ?_ ?_⟩
      · rcases best with ⟨rfl, rfl, _⟩ | ⟨d, le, m, rfl, rfl, _⟩ <;> simp
      -- twelve bounds
      refine ⟨12, rfl, by decide, by decide, for_range (lo := 0) (n := 12) (fun j σ H2 => ∃ o6 o11 o12 o13 o14 o15 o16 o17 o18 o19 o20 : Option V, σ = [some (.ref a), some (.int (0 + (i : Int))), some (.ref p), some (.ref np), some (.ref bp), some (.ref sy), o6, some (.str fr), some (.ref ev), some vb, some vl, o11, o12, o13, o14, o15, o16, o17, o18, o19, o20] ∧ Kp p G H2 ∧ Bag H2 p (300 + 3 * j))
        ⟨_, _, _, _, _, _, _, _, _, _, _, rfl, Kp.refl p G, bG⟩ ?_ ?_⟩
      · rintro j σ H2 hj ⟨o6, o11, o12, o13, o14, o15, o16, o17, o18, o19, o20, rfl, k2, b2⟩
        have evz : es.map V.str ≠ [] := fun e => by
          rw [List.map_eq_nil_iff] at e
          rw [e] at ezz
          cases ezz
        have evl : (es.map V.str).length ≤ 1000 := by
          rw [List.length_map]
          omega
        refine ⟨_, rfl, _, rfl, p, ev, _, _, rfl, k2 _ _ evG evne, evne, evz, evl, b2, by omega, fun j1 x1 H3 hj1 b3 k3 => ?_⟩
        have k13 := k2.trans k3
        refine ⟨_, rfl, _, rfl, p, ev, _, _, rfl, k13 _ _ evG evne, evne, evz, evl, b3, by omega, fun j2 x2 H4 hj2 b4 k4 => ⟨_, _, rfl, ?_⟩⟩
        have k14 := k13.trans k4
        obtain ⟨u, hu1, rfl⟩ := map_str hj1
        obtain ⟨v, hv1, rfl⟩ := map_str hj2
        have mu := List.mem_of_getElem? hu1
        have mv := List.mem_of_getElem? hv1
        have b4 : Bag H4 p (300 + 3 * j + 2) := b4.mono (by omega)
        clear k2 k3 k4 k13 b2 b3 hj1 hj2 hu1 hv1 H2 H3
        refine ⟨_, rfl, _, rfl, rfl, _, rfl, ?_⟩
        by_cases huv : u = v
        · exact ite_d (by rw [huv]) ⟨_, _, _, _, _, _, _, _, _, _, _, rfl, k14, b4.mono (by omega)⟩
        refine ite_n (fun z => huv (V.str.inj z)) ?_
        have B4 := BG.kp bG k14
        -- what is asked of the class
        have ask : ∀ (z : Int) (t : Addr) (H6 : Hp) (Q' : VK), Kp p G H6 → H6 t = none → (∀ (r : Bool) (H7 : Hp), Same H6 H7 → (r = true ↔ Fol zz bs ⟨u, v, z⟩) → Q' (.bl r) H7) → spIn K C [.ref sy, .ref t] (upd H6 t (.tup [.str u, .str v, .int z])) Q' E0 := by
          intro z t H6 Q' k6 ht h
          exact ⟨sy, .ref t, ps, bs, rfl, (BG.kp bG k6).same (same_upd ht), by omega, .inl ⟨t, ⟨u, v, z⟩, rfl, upd_same, ⟨esok u mu, esok v mv, huv⟩, fun r H7 s7 hr7 => h r H7 ((same_upd ht).trans s7) hr7⟩⟩
        have two : 2 ≤ sizeLine := by decide
        have three : 3 ≤ sizeLine := by decide
        have four : 4 ≤ sizeLine := by decide
        have fourI : ∀ {w x y z : Int} {k : Nat} {r : V}, ([.int w, .int x, .int y, .int z] : List V)[k]? = some r → ∃ c, r = V.int c := by
          intro w x y z k r hk
          match k, hk with
          | 0, hk => exact ⟨_, (Option.some.inj hk).symm⟩
          | 1, hk => exact ⟨_, (Option.some.inj hk).symm⟩
          | 2, hk => exact ⟨_, (Option.some.inj hk).symm⟩
          | 3, hk => exact ⟨_, (Option.some.inj hk).symm⟩
        have nbag : ∀ {H6 : Hp} {L : Addr}, Kp p G H6 → H6 L = none → Bag H6 p (300 + 3 * j + 2) → L ≠ p := fun {H6 L} _ hL b6 e => by
          obtain ⟨_, _, _, h, _⟩ := b6
          rw [e, h] at hL
          cases hL
        rcases best with ⟨rfl, rfl, nf⟩ | ⟨d, le, m, rfl, rfl, dG, dia, leG, lm⟩
        · -- no solution
          refine ⟨_, rfl, _, rfl, iteF ?_⟩
          have pw : CPow 10 28 := ⟨by decide, by decide, by decide⟩
          refine ⟨_, rfl, _, rfl, iteT ⟨_, rfl, _, _, rfl, rfl, pw, four, fun L hL => ?_⟩⟩
          have Lp := nbag k14 hL b4
          have k15 := k14.new (o := .lst [.int 0, .int (-1), .int 1, .int (10 ^ (28 : Int).toNat)]) hL
          refine ⟨_, rfl, _, rfl, p, L, _, _, rfl, upd_same, Lp, (by intro z; cases z), (by show 4 ≤ 1000; decide), b4.new hL, by omega, fun j3 x3 H6 hj3 b6 k6 => ?_⟩
          obtain ⟨z, rfl⟩ := fourI hj3
          have k16 := k15.trans k6
          refine ⟨_, rfl, _, rfl, iteT ?_⟩
          obtain ⟨dx, tt, h1, h2⟩ := (BG.kp bG k16).ex
          refine ⟨_, rfl, _, rfl, _, rfl, three, fun t ht => ⟨_, rfl, sy, dx, _, rfl, same_upd ht _ _ h1, ask z t H6 _ k16 ht fun r H7 s7 hr7 => ?_⟩⟩
          obtain rfl : r = true := hr7.mpr fun s hs => absurd ⟨s, hs⟩ nf
          refine ⟨true, rfl, _, rfl, rfl, _, rfl, if_no (by simp) ?_⟩
          have k17 := k16.same s7
          have b7 : Bag H7 p (300 + 3 * (j + 1)) := (b6.at fun o e => s7 _ _ e).mono (by omega)
          have np7 := k17 _ _ npG npne
          have fin := fun (o18 o19 o20 : Option V) => (⟨_, _, _, _, _, _, _, _, _, _, _, rfl, k17, b7⟩ : ∃ o6' o11' o12' o13' o14' o15' o16' o17' o18' o19' o20' : Option V, [some (V.ref a), some (.int (0 + (i : Int))), some (.ref p), some (.ref np), some (.ref bp), some (.ref sy), o6, some (.str fr), some (.ref ev), some .non, some .non, some (.int (0 + (j : Int))), some (.str u), some (.str v), some .non, some (.ref L), some (.int z), some (.bl true), o18, o19, o20] =
            [some (V.ref a), some (.int (0 + (i : Int))), some (.ref p), some (.ref np), some (.ref bp), some (.ref sy), o6', some (.str fr), some (.ref ev), some .non, some .non, o11', o12', o13', o14', o15', o16', o17', o18', o19', o20'] ∧ Kp p G H7 ∧ Bag H7 p (300 + 3 * (j + 1)))
          refine ⟨_, rfl, _, rfl, iteT ⟨_, rfl, _, rfl, np, _, rfl, .inl (SqL.of np7), rfl, flat_str nm, _, rfl, ?_⟩⟩
          cases inV (.str u) (nm.map V.str) with
          | false => exact iteF (iteF (fin _ _ _))
          | true =>
            refine iteT ⟨_, rfl, _, rfl, np, _, rfl, .inl (SqL.of np7), rfl, flat_str nm, _, rfl, ?_⟩
            cases inV (.str v) (nm.map V.str) with
            | false => exact iteF (iteF (fin _ _ _))
            | true => exact iteT ⟨_, rfl, _, rfl, iteF (fin _ _ _)⟩
        · -- the table and the least solution
          obtain ⟨_, _, _, pG, _⟩ := id bG
          have dne : d ≠ p := ne_of dG pG fun z => nomatch z
          have lene : le ≠ p := ne_of leG pG fun z => nomatch z
          have tab := roads_tab dia
          have folI : ∀ z : Int, Fol zz bs ⟨u, v, z⟩ ↔ ∃ y, roads zz es bs u v = some y ∧ y ≤ z := fun z => tab_fol tab ezz bes mu mv z
          refine ⟨_, rfl, _, rfl, iteT ⟨_, rfl, _, rfl, _, rfl, two, fun t0 ht0 => ?_⟩⟩
          have k15 := k14.new (o := .tup [.str u, .str v]) ht0
          have b5 := b4.new (o := .tup [.str u, .str v]) ht0
          have t5 : upd H4 t0 (.tup [.str u, .str v]) t0 = some (.tup [.str u, .str v]) := upd_same
          generalize upd H4 t0 (.tup [.str u, .str v]) = H5 at k15 b5 t5
          have gd : DGet H5 d (.ref t0) (some (oI (roads zz es bs u v))) := dP_get (k15 _ _ dG dne) t5 (in_prs mu mv)
          clear k14 b4 B4
          cases eD : roads zz es bs u v with
          | none =>
            rw [eD] at gd
            refine ⟨d, _, rfl, gd, ?_⟩
            have pw : CPow 10 28 := ⟨by decide, by decide, by decide⟩
            refine ⟨_, rfl, _, rfl, iteT ⟨_, rfl, _, _, rfl, rfl, pw, four, fun L hL => ?_⟩⟩
            have Lp := nbag k15 hL b5
            have k16 := k15.new (o := .lst [.int 0, .int (-1), .int 1, .int (10 ^ (28 : Int).toNat)]) hL
            refine ⟨_, rfl, _, rfl, p, L, _, _, rfl, upd_same, Lp, (by intro z; cases z), (by show 4 ≤ 1000; decide), b5.new hL, by omega, fun j3 x3 H6 hj3 b6 k6 => ?_⟩
            obtain ⟨z, rfl⟩ := fourI hj3
            have k17 := k16.trans k6
            refine ⟨_, rfl, _, rfl, iteF ⟨_, rfl, _, rfl, iteF ?_⟩⟩
            obtain ⟨dx, tt, h1, h2⟩ := (BG.kp bG k17).ex
            refine ⟨_, rfl, _, rfl, _, rfl, three, fun t ht => ⟨_, rfl, sy, dx, _, rfl, same_upd ht _ _ h1, ask z t H6 _ k17 ht fun r H7 s7 hr7 => ?_⟩⟩
            rw [folI, eD] at hr7
            cases r with
            | true =>
              obtain ⟨y, e, _⟩ := hr7.mp rfl
              cases e
            | false => exact ⟨false, rfl, _, rfl, rfl, _, rfl, if_no (by simp) ⟨_, rfl, _, rfl, iteF (iteF ⟨_, _, _, _, _, _, _, _, _, _, _, rfl, k17.same s7, (b6.at fun o e => s7 _ _ e).mono (by omega)⟩)⟩⟩
          | some y =>
            rw [eD] at gd
            refine ⟨d, _, rfl, gd, ?_⟩
            refine ⟨_, rfl, _, rfl, iteF ⟨_, rfl, _, rfl, _, _, rfl, rfl, _, rfl, _, _, rfl, rfl, four, fun L hL => ?_⟩⟩
            have Lp := nbag k15 hL b5
            have k16 := k15.new (o := .lst [.int y, .int (y - 1), .int (y + 1), .int 0]) hL
            refine ⟨_, rfl, _, rfl, p, L, _, _, rfl, upd_same, Lp, (by intro z; cases z), (by show 4 ≤ 1000; decide), b5.new hL, by omega, fun j3 x3 H6 hj3 b6 k6 => ?_⟩
            obtain ⟨z, rfl⟩ := fourI hj3
            have k17 := k16.trans k6
            refine ⟨_, rfl, _, rfl, iteF ⟨_, rfl, _, rfl, iteT ⟨_, rfl, _, rfl, _, _, rfl, rfl, ?_⟩⟩⟩
            obtain ⟨dx, tt, h1, h2⟩ := (BG.kp bG k17).ex
            refine ⟨_, rfl, _, rfl, _, rfl, three, fun t ht => ⟨_, rfl, sy, dx, _, rfl, same_upd ht _ _ h1, ask z t H6 _ k17 ht fun r H7 s7 hr7 => ?_⟩⟩
            have hF : Fol zz bs ⟨u, v, z⟩ ↔ y ≤ z := by
              rw [folI, eD]
              exact ⟨fun ⟨y2, e, q⟩ => by cases e; exact q, fun q => ⟨y, rfl, q⟩⟩
            have hr8 : r = decide (y ≤ z) := by
              rw [hF] at hr7
              cases r with
              | true => exact (decide_eq_true (hr7.mp rfl)).symm
              | false => exact (decide_eq_false fun q => nomatch hr7.mpr q).symm
            subst hr8
            have k18 := k17.same s7
            have b7 := b6.at fun o e => s7 _ _ e
            clear hr7 k17 b6 h1 h2
            refine ⟨_, rfl, _, rfl, rfl, _, rfl, if_no (by simp) ?_⟩
            by_cases hyz : y ≤ z
            case neg =>
              exact ⟨_, rfl, _, rfl, ite_n hyz (iteF ⟨_, _, _, _, _, _, _, _, _, _, _, rfl, k18, b7.mono (by omega)⟩)⟩
            have np8 := k18 _ _ npG npne
            refine ⟨_, rfl, _, rfl, ite_d hyz ⟨_, rfl, _, rfl, np, _, rfl, .inl (SqL.of np8), rfl, flat_str nm, _, rfl, ?_⟩⟩
            cases inV (.str u) (nm.map V.str) with
            | false => exact iteF (iteF ⟨_, _, _, _, _, _, _, _, _, _, _, rfl, k18, b7.mono (by omega)⟩)
            | true =>
              refine iteT ⟨_, rfl, _, rfl, np, _, rfl, .inl (SqL.of np8), rfl, flat_str nm, _, rfl, ?_⟩
              cases inV (.str v) (nm.map V.str) with
              | false => exact iteF (iteF ⟨_, _, _, _, _, _, _, _, _, _, _, rfl, k18, b7.mono (by omega)⟩)
              | true =>
                refine iteT ⟨_, rfl, _, rfl, iteT ?_⟩
                -- the system with this bound more
                have fol := hF.mpr hyz
                have B8 := BG.kp bG k18
                obtain ⟨dx, tt, h1, h2⟩ := B8.ex
                refine ⟨_, rfl, _, rfl, _, rfl, _, rfl, three, fun t2 ht2 => ⟨sy, dx, _, t2, _, rfl, rfl, same_upd ht2 _ _ h1, SqT.of upd_same, sy, t2, ps, bs, ⟨u, v, z⟩, rfl, B8.same (same_upd ht2), upd_same, ⟨esok u mu, esok v mv, huv⟩, by omega, fun y2 H8 s8 B9 => ⟨y2, rfl, ?_⟩⟩⟩
                obtain ⟨dy, ty, g1, g2⟩ := B9.ex
                have lm1 := fol_least fol lm
                refine ⟨y2, dy, _, rfl, g1, rfl, y2, _, _, rfl, B9, by rw [List.length_append]; exact Nat.succ_le_of_lt (by omega), fun le2 H9 m2 s9 le9 lm2 => ?_, fun H9 s9 nf => absurd ⟨m, lm1.1⟩ nf⟩
                have s79 := (same_upd ht2).trans (s8.trans s9)
                have k19 := k18.same s79
                have b9 := b7.at fun o e => s79 _ _ e
                have le9' := k19 _ _ leG lene
                clear g1 g2 B9 s8 s9 h1 h2 B8 np8 s79 b7 k18
                refine ⟨le, _, le9', True.intro, fun od => ?_⟩
                have hf : upd H9 le (.frz od (dS (collect zz bs) fun n => .int (m n))) le = some (.frz od (dS (collect zz bs) fun n => .int (m n))) := upd_same
                have read2 : ∀ H', (∀ b o, upd H9 le (.frz od (dS (collect zz bs) fun n => .int (m n))) b = some o → H' b = some o) → ∀ n ∈ collect zz bs, DGet H' le2 (.str n) (some (.int (m n))) := by
                  intro H' hk n hn
                  by_cases e : le2 = le
                  · rw [e]
                    exact .inl ⟨_, kS n, .inr ⟨od, hk _ _ hf⟩, rfl, (dct_get kS_inj (g := fun n => V.int (m n)) hn).symm⟩
                  · have g := dS_get (n := n) (hk _ _ (by rw [upd_ne e]; exact le9)) (mem_collect.mpr ?_)
                    · rw [least_uniq lm2 lm1 n] at g
                      exact g
                    · obtain ⟨q1, b, hb, q2⟩ := mem_collect.mp hn
                      exact ⟨q1, b, List.mem_append_left _ hb, q2⟩
                refine ⟨_, rfl, le, od, rfl, .inl ⟨_, hf, fun M hM => ?_⟩⟩
                refine lc_it walk_keys (fun i2 H' => (∀ b o, upd H9 le (.frz od (dS (collect zz bs) fun n => .int (m n))) b = some o → H' b = some o) ∧ H' M = some (.lst ((List.replicate i2 false).map V.bl)))
                  ⟨fun b o e => by rw [upd_ne (ne_of_none e hM)]; exact e, upd_same⟩ (fun i2 H' _ h => h.1 _ _ hf) ?_ ?_
                · rintro i2 x H'' H' hi2 ⟨hk, m10⟩ ⟨rfl, kk, vv, hkk, rfl⟩
                  rw [dct_at] at hkk
                  obtain ⟨n, hn, hkn⟩ := Option.map_eq_some_iff.mp hkk
                  cases hkn
                  have hnm := List.mem_of_getElem? hn
                  have g1 := read2 _ hk n hnm
                  have g2 : DGet H' le (.str n) (some (.int (m n))) := .inl ⟨_, kS n, .inr ⟨od, hk _ _ hf⟩, rfl, (dct_get kS_inj (g := fun n => V.int (m n)) hnm).symm⟩
                  refine ⟨rfl, _, rfl, _, rfl, le2, _, rfl, g1, _, rfl, _, rfl, le, _, rfl, g2, rfl, _, m10, ?_, fun b o e => ?_, ?_⟩
                  · rw [dct_len] at hi2
                    have := collect_len zz bs
                    rw [List.length_map, List.length_replicate, sizeLine_eq]
                    omega
                  · rw [upd_ne (ne_of_none e hM)]
                    exact hk b o e
                  · have e : (!decide (V.int (m n) = V.int (m n))) = false := by simp
                    rw [upd_same, e, List.replicate_succ']
                    simp
                · rintro H' ⟨hk, m10⟩
                  refine ⟨M, _, rfl, SqL.of m10, hk _ _ hf, ?_⟩
                  have e : (List.replicate (dct kS (collect zz bs) fun n => V.int (m n)).length false).any id = false := by simp
                  rw [e]
                  refine ⟨_, rfl, iteF ⟨_, _, _, _, _, _, _, _, _, _, _, rfl, fun b o e ne => ?_, ?_⟩⟩
                  · by_cases hb : b = le
                    · rw [hb, leG] at e
                      cases e
                      rw [hb]
                      exact upd_same
                    · rw [upd_ne hb]
                      exact hk b o (by rw [upd_ne hb]; exact k19 b o e ne)
                  · exact (b9.at fun o e => by rw [upd_ne lene.symm]; exact hk _ _ (by rw [upd_ne lene.symm]; exact e)).mono (by omega)
      -- objects that are no bounds
      rintro σ H2 ⟨o6, o11, o12, o13, o14, o15, o16, o17, o18, o19, o20, rfl, k2, b2⟩
      have B2 := BG.kp bG k2
      have bp2 := k2 _ _ bpG bpne
      clear b2
      refine ⟨by show 3 ≤ sizeLine; decide, fun t1 ht1 => ⟨by show 3 ≤ sizeLine; decide, fun t2 ht2 => ⟨by show 3 ≤ sizeLine; decide, fun t3 ht3 => ⟨by show 2 ≤ sizeLine; decide, fun t4 ht4 => ⟨by show 0 ≤ sizeLine; decide, fun t5 ht5 => ⟨by show 8 ≤ sizeLine; decide, fun TT hTT => ⟨TT, rfl, ⟨_, SqT.of upd_same⟩, ?_⟩⟩⟩⟩⟩⟩⟩
      have q1 : upd H2 t1 (.tup [.str zz, .str zz, .int 5]) t1 = some (.tup [.str zz, .str zz, .int 5]) := upd_same
      have e1 : Same H2 (upd H2 t1 (.tup [.str zz, .str zz, .int 5])) := same_upd ht1
      generalize upd H2 t1 (.tup [.str zz, .str zz, .int 5]) = H3 at q1 e1 ht2 ht3 ht4 ht5 hTT ⊢
      have q2 : upd H3 t2 (.lst [.str zz, .str "a", .int 0]) t2 = some (.lst [.str zz, .str "a", .int 0]) := upd_same
      have e2 : Same H3 (upd H3 t2 (.lst [.str zz, .str "a", .int 0])) := same_upd ht2
      generalize upd H3 t2 (.lst [.str zz, .str "a", .int 0]) = H4 at q2 e2 ht3 ht4 ht5 hTT ⊢
      have q3 : upd H4 t3 (.tup [.str zz, .str "a", .bl false]) t3 = some (.tup [.str zz, .str "a", .bl false]) := upd_same
      have e3 : Same H4 (upd H4 t3 (.tup [.str zz, .str "a", .bl false])) := same_upd ht3
      generalize upd H4 t3 (.tup [.str zz, .str "a", .bl false]) = H5 at q3 e3 ht4 ht5 hTT ⊢
      have q4 : upd H5 t4 (.tup [.str zz, .str "a"]) t4 = some (.tup [.str zz, .str "a"]) := upd_same
      have e4 : Same H5 (upd H5 t4 (.tup [.str zz, .str "a"])) := same_upd ht4
      generalize upd H5 t4 (.tup [.str zz, .str "a"]) = H6 at q4 e4 ht5 hTT ⊢
      have q5 : upd H6 t5 (.tup []) t5 = some (.tup []) := upd_same
      have e5 : Same H6 (upd H6 t5 (.tup [])) := same_upd ht5
      generalize upd H6 t5 (.tup []) = H7 at q5 e5 hTT ⊢
      have q6 : upd H7 TT (.tup [.non, .bl true, .str zz, .ref t1, .ref t2, .ref t3, .ref t4, .ref t5]) TT = some (.tup [.non, .bl true, .str zz, .ref t1, .ref t2, .ref t3, .ref t4, .ref t5]) := upd_same
      have e6 : Same H7 (upd H7 TT (.tup [.non, .bl true, .str zz, .ref t1, .ref t2, .ref t3, .ref t4, .ref t5])) := same_upd hTT
      show ∃ W, _
      generalize upd H7 TT (.tup [.non, .bl true, .str zz, .ref t1, .ref t2, .ref t3, .ref t4, .ref t5]) = H8 at q6 e6 ⊢
      have e16 := e1.trans (e2.trans (e3.trans (e4.trans (e5.trans e6))))
      have odd : ∀ (j : Nat) (x : V), ([.non, .bl true, .str zz, .ref t1, .ref t2, .ref t3, .ref t4, .ref t5] : List V)[j]? = some x → ∀ H9, Same H8 H9 → NoBound K H9 x := by
        intro j x hj H9 s9
        match j, hj with
        | 0, hj =>
          cases hj
          exact .inl ⟨_, .base .non, by decide +kernel⟩
        | 1, hj =>
          cases hj
          exact .inl ⟨_, .base (.bl _), by decide +kernel⟩
        | 2, hj =>
          cases hj
          exact .inl ⟨_, .base (.str _), by decide +kernel⟩
        | 3, hj =>
          cases hj
          exact .inr ⟨_, _, rfl, s9 _ _ (e6 _ _ (e5 _ _ (e4 _ _ (e3 _ _ (e2 _ _ q1))))), .inr (.inr ⟨_, _, rfl, zz_ok⟩)⟩
        | 4, hj =>
          cases hj
          exact .inl ⟨_, .base (.lst (s9 _ _ (e6 _ _ (e5 _ _ (e4 _ _ (e3 _ _ q2)))))), by decide +kernel⟩
        | 5, hj =>
          cases hj
          exact .inr ⟨_, _, rfl, s9 _ _ (e6 _ _ (e5 _ _ (e4 _ _ q3))), .inr (.inl ⟨_, _, _, rfl⟩)⟩
        | 6, hj =>
          cases hj
          exact .inr ⟨_, _, rfl, s9 _ _ (e6 _ _ (e5 _ _ q4)), .inl ⟨by decide, by decide⟩⟩
        | 7, hj =>
          cases hj
          exact .inr ⟨_, _, rfl, s9 _ _ (e6 _ _ q5), .inl ⟨by decide, by decide⟩⟩
      have B8 := B2.same e16
      have bp8 := e16 _ _ bp2
      refine for_tup (K := K) (a := TT) (xs := [.non, .bl true, .str zz, .ref t1, .ref t2, .ref t3, .ref t4, .ref t5]) (fun j σ H9 => ∃ o19 : Option V, σ = [some (.ref a), some (.int (0 + (i : Int))), some (.ref p), some (.ref np), some (.ref bp), some (.ref sy), o6, some (.str fr), some (.ref ev), some vb, some vl, o11, o12, o13, o14, o15, o16, o17, o18, o19, o20] ∧ Same H8 H9)
        ⟨_, rfl, Same.refl H8⟩ (fun j σ H9 _ ⟨_, _, z⟩ => SqT.of (z _ _ q6)) ?_ ?_
      · rintro j x σ H9 hj ⟨o19, rfl, s9⟩
        have B9 := B8.same s9
        obtain ⟨dx, t, h1, h2⟩ := B9.ex
        exact ⟨_, rfl, _, rfl, sy, dx, _, rfl, h1, sy, x, ps, bs, rfl, B9, by omega, .inr ⟨odd j x hj H9 s9, fun H10 s10 => ⟨false, rfl, _, rfl, iteF ⟨_, rfl, s9.trans s10⟩⟩⟩⟩
      rintro σ H9 ⟨o19, rfl, s9⟩
      have B9 := B8.same s9
      obtain ⟨dx, t, h1, h2⟩ := B9.ex
      refine ⟨_, rfl, sy, dx, _, rfl, h1, sy, ps, bs, rfl, B9, ((bs.length : Nat) : Int), rfl, by omega, by omega, _, rfl, _, ps.length, rfl, .inl ⟨_, SqL.of (s9 _ _ bp8), (List.length_map _).symm⟩, rfl, _, rfl, if_no ?_ ?_⟩
      · rw [BG.at_.len]
        simp
      · exact ⟨fun b o e => s9 _ _ (e16 _ _ (k2 _ _ (sG _ _ (s1 _ _ e)) (ne_of_none e hpH))), _, _, _, _, _, _, _, _, _, _, _, _, _, _, _, _, _, _, _, _, rfl⟩
    · rintro σ H1 ⟨s1, _⟩
      exact q H1
end
end K31
namespace K31
open PySem L2
section
theorem all_mk {l : PySem.W.OpenLaw} {w : World} {K : PySem.W.Frag} {h : Heap} {mg : Str → Option Value} {fa C f1 f2 f3 f4 f5 f6 f7 f8 f9 f10 f11 f12 f13 f14 f15 f16 f17 f21 f22 f23 f24 f25 : Addr} (X : K.In h) (G : h.Ns mainGlobals mg) (hfa : mg "law" = some (.ref fa))
    {od1 an1 od2 an2 od3 an3 od4 an4 od5 an5 od6 an6 od7 an7 od8 an8 od9 an9 od10 an10 od11 an11 od12 an12 od13 an13 od14 an14 od15 an15 od16 an16 od17 an17 od21 an21 od22 an22 od23 an23 od24 an24 od25 an25 : Option Addr} {sl1 sl2 sl3 sl4 sl5 sl6 sl7 sl8 sl9 sl10 sl11 sl12 sl13 sl14 sl15 sl16 sl17 sl21 sl22 sl23 sl24 sl25 : Array (Option Value)} {oc1 kV1 dc1 pm1 cd1 ct1 oc2 kV2 dc2 pm2 cd2 ct2 oc3 kV3 dc3 pm3 cd3 ct3 oc4 kV4 dc4 pm4 cd4 ct4 oc5 kV5 dc5 pm5 cd5 ct5 oc6 kV6 dc6 pm6 cd6 ct6 oc7 kV7 dc7 pm7 cd7 ct7 oc8 kV8 dc8 pm8 cd8 ct8 oc9 kV9 dc9 pm9 cd9 ct9 oc10 kV10 dc10 pm10 cd10 ct10 oc11 kV11 dc11 pm11 cd11 ct11 oc12 kV12 dc12 pm12 cd12 ct12 oc13 kV13 dc13 pm13 cd13 ct13 oc14 kV14 dc14 pm14 cd14 ct14 oc15 kV15 dc15 pm15 cd15 ct15 oc16 kV16 dc16 pm16 cd16 ct16 oc17 kV17 dc17 pm17 cd17 ct17 oc21 kV21 dc21 pm21 cd21 ct21 oc22 kV22 dc22 pm22 cd22 ct22 oc23 kV23 dc23 pm23 cd23 ct23 oc24 kV24 dc24 pm24 cd24 ct24 oc25 kV25 dc25 pm25 cd25 ct25 : Value} {fo ro : Option Value}
    (a1 : PySem.W.nsIn K mainGlobals "is_integer" = some (some (.ref f1)))
    (a2 : PySem.W.nsIn K mainGlobals "is_name" = some (some (.ref f2)))
    (a3 : PySem.W.nsIn K mainGlobals "is_bound" = some (some (.ref f3)))
    (a4 : PySem.W.nsIn K mainGlobals "opposite" = some (some (.ref f4)))
    (a5 : PySem.W.nsIn K mainGlobals "ring_from" = some (some (.ref f5)))
    (a6 : PySem.W.nsIn K mainGlobals "solve_bounds" = some (some (.ref f6)))
    (a7 : PySem.W.nsIn K mainGlobals "can_hold" = some (some (.ref f7)))
    (a8 : PySem.W.nsIn K mainGlobals "_law_bag" = some (some (.ref f8)))
    (a9 : PySem.W.nsIn K mainGlobals "_law_draw" = some (some (.ref f9)))
    (a10 : PySem.W.nsIn K mainGlobals "_law_of" = some (some (.ref f10)))
    (a11 : PySem.W.nsIn K mainGlobals "_law_name" = some (some (.ref f11)))
    (a12 : PySem.W.nsIn K mainGlobals "_law_names" = some (some (.ref f12)))
    (a13 : PySem.W.nsIn K mainGlobals "_law_numbers" = some (some (.ref f13)))
    (a14 : PySem.W.nsIn K mainGlobals "_law_system" = some (some (.ref f14)))
    (a15 : PySem.W.nsIn K mainGlobals "_law_roads" = some (some (.ref f15)))
    (a16 : PySem.W.nsIn K mainGlobals "_law_pairs" = some (some (.ref f16)))
    (a17 : PySem.W.nsIn K mainGlobals "law" = some (some (.ref f17)))
    (a21 : PySem.W.findIn K (.ref C) "__init__" = some (some (.ref f21)))
    (i21 : PySem.W.isFn K (.ref f21) = true)
    (a22 : PySem.W.findIn K (.ref C) "least" = some (some (.ref f22)))
    (i22 : PySem.W.isFn K (.ref f22) = true)
    (a23 : PySem.W.findIn K (.ref C) "__len__" = some (some (.ref f23)))
    (i23 : PySem.W.isFn K (.ref f23) = true)
    (a24 : PySem.W.findIn K (.ref C) "__add__" = some (some (.ref f24)))
    (i24 : PySem.W.isFn K (.ref f24) = true)
    (a25 : PySem.W.findIn K (.ref C) "__contains__" = some (some (.ref f25)))
    (i25 : PySem.W.isFn K (.ref f25) = true)
    (l1 : K.lookup f1 = some ⟨oc1, od1, .func (PySem.W.fnOf "is_integer" "is_integer" (defArgs sIsInt) (defBody sIsInt) (defScope sIsInt) .none kV1 dc1 pm1 an1 cd1 ct1), sl1⟩)
    (c1 : PySem.W.codeIn K cd1 "is_integer" = true)
    (k1 : PySem.W.keepIn K (.ref f1) = true)
    (l2 : K.lookup f2 = some ⟨oc2, od2, .func (PySem.W.fnOf "is_name" "is_name" (defArgs sIsName) (defBody sIsName) (defScope sIsName) .none kV2 dc2 pm2 an2 cd2 ct2), sl2⟩)
    (c2 : PySem.W.codeIn K cd2 "is_name" = true)
    (k2 : PySem.W.keepIn K (.ref f2) = true)
    (l3 : K.lookup f3 = some ⟨oc3, od3, .func (PySem.W.fnOf "is_bound" "is_bound" (defArgs sIsBound) (defBody sIsBound) (defScope sIsBound) .none kV3 dc3 pm3 an3 cd3 ct3), sl3⟩)
    (c3 : PySem.W.codeIn K cd3 "is_bound" = true)
    (k3 : PySem.W.keepIn K (.ref f3) = true)
    (l4 : K.lookup f4 = some ⟨oc4, od4, .func (PySem.W.fnOf "opposite" "opposite" (defArgs sOpp) (defBody sOpp) (defScope sOpp) .none kV4 dc4 pm4 an4 cd4 ct4), sl4⟩)
    (c4 : PySem.W.codeIn K cd4 "opposite" = true)
    (k4 : PySem.W.keepIn K (.ref f4) = true)
    (l5 : K.lookup f5 = some ⟨oc5, od5, .func (PySem.W.fnOf "ring_from" "ring_from" (defArgs sRing) (defBody sRing) (defScope sRing) .none kV5 dc5 pm5 an5 cd5 ct5), sl5⟩)
    (c5 : PySem.W.codeIn K cd5 "ring_from" = true)
    (k5 : PySem.W.keepIn K (.ref f5) = true)
    (l6 : K.lookup f6 = some ⟨oc6, od6, .func (PySem.W.fnOf "solve_bounds" "solve_bounds" (defArgs sSolve) (defBody sSolve) (defScope sSolve) .none kV6 dc6 pm6 an6 cd6 ct6), sl6⟩)
    (c6 : PySem.W.codeIn K cd6 "solve_bounds" = true)
    (k6 : PySem.W.keepIn K (.ref f6) = true)
    (l7 : K.lookup f7 = some ⟨oc7, od7, .func (PySem.W.fnOf "can_hold" "can_hold" (defArgs sHold) (defBody sHold) (defScope sHold) .none kV7 dc7 pm7 an7 cd7 ct7), sl7⟩)
    (c7 : PySem.W.codeIn K cd7 "can_hold" = true)
    (k7 : PySem.W.keepIn K (.ref f7) = true)
    (l8 : K.lookup f8 = some ⟨oc8, od8, .func (PySem.W.fnOf "_law_bag" "_law_bag" (defArgs sBag) (defBody sBag) (defScope sBag) .none kV8 dc8 pm8 an8 cd8 ct8), sl8⟩)
    (c8 : PySem.W.codeIn K cd8 "_law_bag" = true)
    (k8 : PySem.W.keepIn K (.ref f8) = true)
    (l9 : K.lookup f9 = some ⟨oc9, od9, .func (PySem.W.fnOf "_law_draw" "_law_draw" (defArgs sDraw) (defBody sDraw) (defScope sDraw) .none kV9 dc9 pm9 an9 cd9 ct9), sl9⟩)
    (c9 : PySem.W.codeIn K cd9 "_law_draw" = true)
    (k9 : PySem.W.keepIn K (.ref f9) = true)
    (l10 : K.lookup f10 = some ⟨oc10, od10, .func (PySem.W.fnOf "_law_of" "_law_of" (defArgs sOf) (defBody sOf) (defScope sOf) .none kV10 dc10 pm10 an10 cd10 ct10), sl10⟩)
    (c10 : PySem.W.codeIn K cd10 "_law_of" = true)
    (k10 : PySem.W.keepIn K (.ref f10) = true)
    (l11 : K.lookup f11 = some ⟨oc11, od11, .func (PySem.W.fnOf "_law_name" "_law_name" (defArgs sName) (defBody sName) (defScope sName) .none kV11 dc11 pm11 an11 cd11 ct11), sl11⟩)
    (c11 : PySem.W.codeIn K cd11 "_law_name" = true)
    (k11 : PySem.W.keepIn K (.ref f11) = true)
    (l12 : K.lookup f12 = some ⟨oc12, od12, .func (PySem.W.fnOf "_law_names" "_law_names" (defArgs sNames) (defBody sNames) (defScope sNames) .none kV12 dc12 pm12 an12 cd12 ct12), sl12⟩)
    (c12 : PySem.W.codeIn K cd12 "_law_names" = true)
    (k12 : PySem.W.keepIn K (.ref f12) = true)
    (l13 : K.lookup f13 = some ⟨oc13, od13, .func (PySem.W.fnOf "_law_numbers" "_law_numbers" (defArgs sNumbers) (defBody sNumbers) (defScope sNumbers) .none kV13 dc13 pm13 an13 cd13 ct13), sl13⟩)
    (c13 : PySem.W.codeIn K cd13 "_law_numbers" = true)
    (k13 : PySem.W.keepIn K (.ref f13) = true)
    (l14 : K.lookup f14 = some ⟨oc14, od14, .func (PySem.W.fnOf "_law_system" "_law_system" (defArgs sSystem) (defBody sSystem) (defScope sSystem) .none kV14 dc14 pm14 an14 cd14 ct14), sl14⟩)
    (c14 : PySem.W.codeIn K cd14 "_law_system" = true)
    (k14 : PySem.W.keepIn K (.ref f14) = true)
    (l15 : K.lookup f15 = some ⟨oc15, od15, .func (PySem.W.fnOf "_law_roads" "_law_roads" (defArgs sRoads) (defBody sRoads) (defScope sRoads) .none kV15 dc15 pm15 an15 cd15 ct15), sl15⟩)
    (c15 : PySem.W.codeIn K cd15 "_law_roads" = true)
    (k15 : PySem.W.keepIn K (.ref f15) = true)
    (l16 : K.lookup f16 = some ⟨oc16, od16, .func (PySem.W.fnOf "_law_pairs" "_law_pairs" (defArgs sPairs) (defBody sPairs) (defScope sPairs) .none kV16 dc16 pm16 an16 cd16 ct16), sl16⟩)
    (c16 : PySem.W.codeIn K cd16 "_law_pairs" = true)
    (k16 : PySem.W.keepIn K (.ref f16) = true)
    (l17 : K.lookup f17 = some ⟨oc17, od17, .func (PySem.W.fnOf "law" "law" (defArgs sLaw) (defBody sLaw) (defScope sLaw) .none kV17 dc17 pm17 an17 cd17 ct17), sl17⟩)
    (c17 : PySem.W.codeIn K cd17 "law" = true)
    (k17 : PySem.W.keepIn K (.ref f17) = true)
    (l21 : K.lookup f21 = some ⟨oc21, od21, .func (PySem.W.fnOf "__init__" "Bounds.__init__" (defArgs sInit) (defBody sInit) (defScope sInit) .none kV21 dc21 pm21 an21 cd21 ct21), sl21⟩)
    (c21 : PySem.W.codeIn K cd21 "Bounds.__init__" = true)
    (k21 : PySem.W.keepIn K (.ref f21) = true)
    (l22 : K.lookup f22 = some ⟨oc22, od22, .func (PySem.W.fnOf "least" "Bounds.least" (defArgs sLeast) (defBody sLeast) (defScope sLeast) .none kV22 dc22 pm22 an22 cd22 ct22), sl22⟩)
    (c22 : PySem.W.codeIn K cd22 "Bounds.least" = true)
    (k22 : PySem.W.keepIn K (.ref f22) = true)
    (l23 : K.lookup f23 = some ⟨oc23, od23, .func (PySem.W.fnOf "__len__" "Bounds.__len__" (defArgs sLen) (defBody sLen) (defScope sLen) .none kV23 dc23 pm23 an23 cd23 ct23), sl23⟩)
    (c23 : PySem.W.codeIn K cd23 "Bounds.__len__" = true)
    (k23 : PySem.W.keepIn K (.ref f23) = true)
    (l24 : K.lookup f24 = some ⟨oc24, od24, .func (PySem.W.fnOf "__add__" "Bounds.__add__" (defArgs sAdd) (defBody sAdd) (defScope sAdd) .none kV24 dc24 pm24 an24 cd24 ct24), sl24⟩)
    (c24 : PySem.W.codeIn K cd24 "Bounds.__add__" = true)
    (k24 : PySem.W.keepIn K (.ref f24) = true)
    (l25 : K.lookup f25 = some ⟨oc25, od25, .func (PySem.W.fnOf "__contains__" "Bounds.__contains__" (defArgs sIn) (defBody sIn) (defScope sIn) .none kV25 dc25 pm25 an25 cd25 ct25), sl25⟩)
    (c25 : PySem.W.codeIn K cd25 "Bounds.__contains__" = true)
    (k25 : PySem.W.keepIn K (.ref f25) = true)
    (aC : PySem.W.nsIn K mainGlobals "Bounds" = some (some (.ref C)))
    (pg : PySem.W.plainGet K C Str.empty = true)
    (hd : PySem.W.hasDictIn K C = true)
    (po : PySem.W.plainOver K C = true)
    (sa : PySem.W.findIn K (.ref C) "__setattr__" = some (some (.builtin "object.__setattr__")))
    (mk : PySem.W.makesIn K C = true)
    (kc : PySem.W.keepIn K (.ref C) = true)
    (na : PySem.W.findIn K (.ref C) "bounds" = some none)
    (sf : PySem.W.selfFirst K C = true)
    (ra : PySem.W.findIn K (.ref C) "__radd__" = some none)
    (ta : PySem.W.findIn K (.type "tuple") "__add__" = some fo)
    (tr : PySem.W.findIn K (.type "tuple") "__radd__" = some ro)
    (ts : PySem.W.subIn K (.type "tuple") (.ref C) = some false)
    (z_isinstance : PySem.W.nsIn K mainGlobals "isinstance" = some none)
    (z_int : PySem.W.nsIn K mainGlobals "int" = some none)
    (z_bool : PySem.W.nsIn K mainGlobals "bool" = some none)
    (z_str : PySem.W.nsIn K mainGlobals "str" = some none)
    (z_tuple : PySem.W.nsIn K mainGlobals "tuple" = some none)
    (z_len : PySem.W.nsIn K mainGlobals "len" = some none)
    (z_all : PySem.W.nsIn K mainGlobals "all" = some none)
    (z_any : PySem.W.nsIn K mainGlobals "any" = some none)
    (z_range : PySem.W.nsIn K mainGlobals "range" = some none)
    (z_list : PySem.W.nsIn K mainGlobals "list" = some none)
    (z_sorted : PySem.W.nsIn K mainGlobals "sorted" = some none)
    (z_max : PySem.W.nsIn K mainGlobals "max" = some none)
    (z_min : PySem.W.nsIn K mainGlobals "min" = some none)
    (z_enumerate : PySem.W.nsIn K mainGlobals "enumerate" = some none)
    (z_abs : PySem.W.nsIn K mainGlobals "abs" = some none)
    (z_dict : PySem.W.nsIn K mainGlobals "dict" = some none)
    : ∃ fd : FuncData, (∀ (s : Shared) (v : Value), BindsTo s fd ⟨[v], []⟩ [("_law_script", v)]) ∧ ∀ base : Heap, K.In base → base.Ns mainGlobals mg → FnOk l.prog w K mg base CX0 6 fa fd ["_law_script"] (spLaw K) := by
  have e := hfa.symm.trans (PySem.W.mg_of X G a17)
  cases e
  have T : Blt mg := ⟨PySem.W.mg_none_of X G z_isinstance, PySem.W.mg_none_of X G z_int, PySem.W.mg_none_of X G z_bool, PySem.W.mg_none_of X G z_str, PySem.W.mg_none_of X G z_tuple, PySem.W.mg_none_of X G z_len, PySem.W.mg_none_of X G z_all, PySem.W.mg_none_of X G z_any, PySem.W.mg_none_of X G z_range, PySem.W.mg_none_of X G z_list, PySem.W.mg_none_of X G z_sorted, PySem.W.mg_none_of X G z_max, PySem.W.mg_none_of X G z_min, PySem.W.mg_none_of X G z_enumerate, PySem.W.mg_none_of X G z_abs, PySem.W.mg_none_of X G z_dict⟩
  have F1 := fun_mk (st := sIsInt) l1 c1 k1
  have F2 := fun_mk (st := sIsName) l2 c2 k2
  have F3 := fun_mk (st := sIsBound) l3 c3 k3
  have F4 := fun_mk (st := sOpp) l4 c4 k4
  have F5 := fun_mk (st := sRing) l5 c5 k5
  have F6 := fun_mk (st := sSolve) l6 c6 k6
  have F7 := fun_mk (st := sHold) l7 c7 k7
  have F8 := fun_mk (st := sBag) l8 c8 k8
  have F9 := fun_mk (st := sDraw) l9 c9 k9
  have F10 := fun_mk (st := sOf) l10 c10 k10
  have F11 := fun_mk (st := sName) l11 c11 k11
  have F12 := fun_mk (st := sNames) l12 c12 k12
  have F13 := fun_mk (st := sNumbers) l13 c13 k13
  have F14 := fun_mk (st := sSystem) l14 c14 k14
  have F15 := fun_mk (st := sRoads) l15 c15 k15
  have F16 := fun_mk (st := sPairs) l16 c16 k16
  have F17 := fun_mk (st := sLaw) l17 c17 k17
  have F21 := fun_mk (st := sInit) l21 c21 k21
  have F22 := fun_mk (st := sLeast) l22 c22 k22
  have F23 := fun_mk (st := sLen) l23 c23 k23
  have F24 := fun_mk (st := sAdd) l24 c24 k24
  have F25 := fun_mk (st := sIn) l25 c25 k25
  have b1 := F1.binds (ps := ["thing"]) fun _ _ _ _ _ _ us hl => match us, hl with | [_], _ => rfl
  have b2 := F2.binds (ps := ["thing"]) fun _ _ _ _ _ _ us hl => match us, hl with | [_], _ => rfl
  have b3 := F3.binds (ps := ["thing"]) fun _ _ _ _ _ _ us hl => match us, hl with | [_], _ => rfl
  have b4 := F4.binds (ps := ["bound"]) fun _ _ _ _ _ _ us hl => match us, hl with | [_], _ => rfl
  have b5 := F5.binds (ps := ["causes", "name"]) fun _ _ _ _ _ _ us hl => match us, hl with | [_, _], _ => rfl
  have b6 := F6.binds (ps := ["bounds"]) fun _ _ _ _ _ _ us hl => match us, hl with | [_], _ => rfl
  have b7 := F7.binds (ps := ["bounds"]) fun _ _ _ _ _ _ us hl => match us, hl with | [_], _ => rfl
  have b8 := F8.binds (ps := ["_law_script", "_law_at"]) fun _ _ _ _ _ _ us hl => match us, hl with | [_, _], _ => rfl
  have b9 := F9.binds (ps := ["_law_bag_here", "_law_many"]) fun _ _ _ _ _ _ us hl => match us, hl with | [_, _], _ => rfl
  have b10 := F10.binds (ps := ["_law_bag_here", "_law_some"]) fun _ _ _ _ _ _ us hl => match us, hl with | [_, _], _ => rfl
  have b11 := F11.binds (ps := ["_law_bag_here"]) fun _ _ _ _ _ _ us hl => match us, hl with | [_], _ => rfl
  have b12 := F12.binds (ps := ["_law_bag_here", "_law_many"]) fun _ _ _ _ _ _ us hl => match us, hl with | [_, _], _ => rfl
  have b13 := F13.binds (ps := ["_law_bag_here", "_law_many"]) fun _ _ _ _ _ _ us hl => match us, hl with | [_, _], _ => rfl
  have b14 := F14.binds (ps := ["_law_bag_here", "_law_names_here"]) fun _ _ _ _ _ _ us hl => match us, hl with | [_, _], _ => rfl
  have b15 := F15.binds (ps := ["_law_bounds", "_law_names_here"]) fun _ _ _ _ _ _ us hl => match us, hl with | [_, _], _ => rfl
  have b16 := F16.binds (ps := ["_law_names_here"]) fun _ _ _ _ _ _ us hl => match us, hl with | [_], _ => rfl
  have b22 := F22.binds (ps := ["self"]) fun _ _ _ _ _ _ us hl => match us, hl with | [_], _ => rfl
  have b23 := F23.binds (ps := ["self"]) fun _ _ _ _ _ _ us hl => match us, hl with | [_], _ => rfl
  have b24 := F24.binds (ps := ["self", "other"]) fun _ _ _ _ _ _ us hl => match us, hl with | [_, _], _ => rfl
  have b25 := F25.binds (ps := ["self", "x"]) fun _ _ _ _ _ _ us hl => match us, hl with | [_, _], _ => rfl
  have D1 : Df K mg "is_integer" sIsInt ["thing"] f1 _ := ⟨F1, PySem.W.mg_of X G a1, b1⟩
  have D2 : Df K mg "is_name" sIsName ["thing"] f2 _ := ⟨F2, PySem.W.mg_of X G a2, b2⟩
  have D3 : Df K mg "is_bound" sIsBound ["thing"] f3 _ := ⟨F3, PySem.W.mg_of X G a3, b3⟩
  have D4 : Df K mg "opposite" sOpp ["bound"] f4 _ := ⟨F4, PySem.W.mg_of X G a4, b4⟩
  have D5 : Df K mg "ring_from" sRing ["causes", "name"] f5 _ := ⟨F5, PySem.W.mg_of X G a5, b5⟩
  have D6 : Df K mg "solve_bounds" sSolve ["bounds"] f6 _ := ⟨F6, PySem.W.mg_of X G a6, b6⟩
  have D7 : Df K mg "can_hold" sHold ["bounds"] f7 _ := ⟨F7, PySem.W.mg_of X G a7, b7⟩
  have D8 : Df K mg "_law_bag" sBag ["_law_script", "_law_at"] f8 _ := ⟨F8, PySem.W.mg_of X G a8, b8⟩
  have D9 : Df K mg "_law_draw" sDraw ["_law_bag_here", "_law_many"] f9 _ := ⟨F9, PySem.W.mg_of X G a9, b9⟩
  have D10 : Df K mg "_law_of" sOf ["_law_bag_here", "_law_some"] f10 _ := ⟨F10, PySem.W.mg_of X G a10, b10⟩
  have D11 : Df K mg "_law_name" sName ["_law_bag_here"] f11 _ := ⟨F11, PySem.W.mg_of X G a11, b11⟩
  have D12 : Df K mg "_law_names" sNames ["_law_bag_here", "_law_many"] f12 _ := ⟨F12, PySem.W.mg_of X G a12, b12⟩
  have D13 : Df K mg "_law_numbers" sNumbers ["_law_bag_here", "_law_many"] f13 _ := ⟨F13, PySem.W.mg_of X G a13, b13⟩
  have D14 : Df K mg "_law_system" sSystem ["_law_bag_here", "_law_names_here"] f14 _ := ⟨F14, PySem.W.mg_of X G a14, b14⟩
  have D15 : Df K mg "_law_roads" sRoads ["_law_bounds", "_law_names_here"] f15 _ := ⟨F15, PySem.W.mg_of X G a15, b15⟩
  have D16 : Df K mg "_law_pairs" sPairs ["_law_names_here"] f16 _ := ⟨F16, PySem.W.mg_of X G a16, b16⟩
  have cls : BCls K mg C f21 := ⟨⟨pg, hd, po, sa⟩, na, ⟨mk, a21, i21, kc⟩, PySem.W.mg_of X G aC⟩
  refine ⟨PySem.W.fnOf "law" "law" (defArgs sLaw) (defBody sLaw) (defScope sLaw) .none kV17 dc17 pm17 an17 cd17 ct17, fun s v => .of_eq rfl, fun base _ _ => ?_⟩
  have G3 := ok_isbound (P := l.prog) (w := w) (base := base) F3 T D1 D2
  have G6 := ok_solve (P := l.prog) (w := w) (base := base) F6 T D5
  have G7 := ok_hold (P := l.prog) (w := w) (base := base) F7 T
  have G8 := ok_bag (P := l.prog) (w := w) (base := base) F8 T
  have G10 := ok_of (P := l.prog) (w := w) (base := base) F10 T D9
  have G12 := ok_names (P := l.prog) (w := w) (base := base) F12 T D9 D10 D11
  have G13 := ok_numbers (P := l.prog) (w := w) (base := base) F13 T D12 G12
  have G14 := ok_system (P := l.prog) (w := w) (base := base) F14 T D9 D10
  have G15 := ok_roads (P := l.prog) (w := w) (base := base) F15 T D16
  have GI := ok_init (P := l.prog) (w := w) (base := base) cls F21 T D3 G3
  have GL := ok_least (P := l.prog) (w := w) (base := base) cls F22 D6 G6
  have GE := ok_len (P := l.prog) (w := w) (base := base) cls F23 T
  have GA := ok_add (P := l.prog) (w := w) (base := base) cls F24 GI D3 G3
  have GN := ok_in (P := l.prog) (w := w) (base := base) cls F25 D3 G3 D4 D7 G7
  exact ok_law F17 T cls GI D8 G8 D10 G10 D13 G13 D14 G14 D15 G15 ⟨a22, i22, k22⟩ GL b22 ⟨sf, a24, i24, ra, ⟨fo, ta⟩, ⟨ro, tr⟩, ts⟩ GA b24 ⟨a25, i25⟩ GN b25 ⟨a23, i23⟩ GE b23
theorem walk {l : PySem.W.OpenLaw} {q : Program} {loose : List Str} {XP : (Str → Option Value) → Heap → Prop} {YP : World → Heap → Prop} {d : DefRec} {K : Params → PySem.W.Frag} (hn : l.most = some 63) (hdf : d.params.defaults = [])
    (hY : ∀ (w : World) (h : Heap), YP w h → (K w.params).In h)
    (F : ∀ (w : World) (mg : Str → Option Value) (fa : Addr) (h : Heap), (K w.params).In h → h.Ns mainGlobals mg → mg d.name = some (.ref fa) →
      ∃ fd : FuncData, (∀ (s : Shared) (u : Value), BindsTo s fd ⟨[u], []⟩ [("_law_script", u)]) ∧ ∀ base : Heap, (K w.params).In base → base.Ns mainGlobals mg → FnOk l.prog w (K w.params) mg base CX0 6 fa fd ["_law_script"] (spLaw (K w.params))) :
    PySem.W.WalkO q loose XP YP l.row.toRowW d [] (fun f vs => PySem.call f vs) :=
  L2.walk_of (n := 63) (k := 6) (x := "_law_script") (CX := fun _ => CX0) (sp := fun w => spLaw (K w.params)) hn (by decide) hdf ⟨rfl, by decide, by decide⟩ hY F (fun _ _ a ns hl _ hS => ⟨a, ns, rfl, hS, hl, fun _ => rfl⟩) fun _ _ _ _ _ z => z
end
end K31
open PySem PySem.W PyProof.Rows
set_option maxRecDepth 100000 in
set_option maxHeartbeats 0 in
theorem PySem.Challenge.cw_rowsinplace_k31_whole_bounds_that_follow_holds : PySem.Challenge.rw_rowsinplace_k31_whole_bounds_that_follow.Holds := by
  w_on; o_law; k_head; (case hw => w_witness2)
  k_fill
  refine K31.walk (l := PySem.Challenge.rw_rowsinplace_k31_whole_bounds_that_follow) rfl rfl (fun w h Y => PySem.W.kIn_of Y) ?F
  case F =>
    intro w mg fa h KX G hmg
    refine' K31.all_mk KX G hmg ?a1 ?a2 ?a3 ?a4 ?a5 ?a6 ?a7 ?a8 ?a9 ?a10 ?a11 ?a12 ?a13 ?a14 ?a15 ?a16 ?a17 ?a21 ?i21 ?a22 ?i22 ?a23 ?i23 ?a24 ?i24 ?a25 ?i25 ?l1 ?c1 ?k1 ?l2 ?c2 ?k2 ?l3 ?c3 ?k3 ?l4 ?c4 ?k4 ?l5 ?c5 ?k5 ?l6 ?c6 ?k6 ?l7 ?c7 ?k7 ?l8 ?c8 ?k8 ?l9 ?c9 ?k9 ?l10 ?c10 ?k10 ?l11 ?c11 ?k11 ?l12 ?c12 ?k12 ?l13 ?c13 ?k13 ?l14 ?c14 ?k14 ?l15 ?c15 ?k15 ?l16 ?c16 ?k16 ?l17 ?c17 ?k17 ?l21 ?c21 ?k21 ?l22 ?c22 ?k22 ?l23 ?c23 ?k23 ?l24 ?c24 ?k24 ?l25 ?c25 ?k25 ?aC ?pg ?hd ?po ?sa ?mk ?kc ?na ?sf ?ra ?ta ?tr ?ts ?z_isinstance ?z_int ?z_bool ?z_str ?z_tuple ?z_len ?z_all ?z_any ?z_range ?z_list ?z_sorted ?z_max ?z_min ?z_enumerate ?z_abs ?z_dict
    (case aC => k_is); (case a1 => k_is); (case a2 => k_is); (case a3 => k_is); (case a4 => k_is); (case a5 => k_is)
    (case a6 => k_is); (case a7 => k_is); (case a8 => k_is); (case a9 => k_is); (case a10 => k_is); (case a11 => k_is)
    (case a12 => k_is); (case a13 => k_is); (case a14 => k_is); (case a15 => k_is); (case a16 => k_is); (case a17 => k_is)
    (case a21 => k_is); (case i21 => k_is); (case a22 => k_is); (case i22 => k_is); (case a23 => k_is); (case i23 => k_is)
    (case a24 => k_is); (case i24 => k_is); (case a25 => k_is); (case i25 => k_is); (case l1 => k_is); (case c1 => k_is)
    (case k1 => k_is); (case l2 => k_is); (case c2 => k_is); (case k2 => k_is); (case l3 => k_is); (case c3 => k_is)
    (case k3 => k_is); (case l4 => k_is); (case c4 => k_is); (case k4 => k_is); (case l5 => k_is); (case c5 => k_is)
    (case k5 => k_is); (case l6 => k_is); (case c6 => k_is); (case k6 => k_is); (case l7 => k_is); (case c7 => k_is)
    (case k7 => k_is); (case l8 => k_is); (case c8 => k_is); (case k8 => k_is); (case l9 => k_is); (case c9 => k_is)
    (case k9 => k_is); (case l10 => k_is); (case c10 => k_is); (case k10 => k_is); (case l11 => k_is); (case c11 => k_is)
    (case k11 => k_is); (case l12 => k_is); (case c12 => k_is); (case k12 => k_is); (case l13 => k_is); (case c13 => k_is)
    (case k13 => k_is); (case l14 => k_is); (case c14 => k_is); (case k14 => k_is); (case l15 => k_is); (case c15 => k_is)
    (case k15 => k_is); (case l16 => k_is); (case c16 => k_is); (case k16 => k_is); (case l17 => k_is); (case c17 => k_is)
    (case k17 => k_is); (case l21 => k_is); (case c21 => k_is); (case k21 => k_is); (case l22 => k_is); (case c22 => k_is)
    (case k22 => k_is); (case l23 => k_is); (case c23 => k_is); (case k23 => k_is); (case l24 => k_is); (case c24 => k_is)
    (case k24 => k_is); (case l25 => k_is); (case c25 => k_is); (case k25 => k_is); (case pg => k_is); (case hd => k_is)
    (case po => k_is); (case sa => k_is); (case mk => k_is); (case kc => k_is); (case na => k_is); (case sf => k_is)
    (case ra => k_is); (case ta => k_is); (case tr => k_is); (case ts => k_is); (case z_isinstance => k_is); (case z_int => k_is)
    (case z_bool => k_is); (case z_str => k_is); (case z_tuple => k_is); (case z_len => k_is); (case z_all => k_is); (case z_any => k_is)
    (case z_range => k_is); (case z_list => k_is); (case z_sorted => k_is); (case z_max => k_is); (case z_min => k_is); (case z_enumerate => k_is)
    (case z_abs => k_is); (case z_dict => k_is)
