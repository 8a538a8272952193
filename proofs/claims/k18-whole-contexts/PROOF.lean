import PyProof.Rows.All
import Wide.All
import OpenK.AllK
import Wide.FinOn
import KE.KStateDown
import Lean
import HandS.Base
import HandS.Call
import HandS.Ends
import HandS.More
import HandS.Words
import HandS.WordsExc
import HandS.Defaults
import HandS.Head0
import HandS.Head1
import HandS.Head2
import HandS.HeadEnd
import HandS.HeadHook1
import HandS.HeadHook2
import PySem.Challenge.RW_handcarried_k18_whole_contexts
import HandS.ExcIs
import HandS.ExcField
import HandS.ExcOwn
import KE.KExcSuper
import HandS.ForMost
import HandS.Exc
import HandS.IsInst
import HandS.DictTup
import HandS.DictComp
import HandS.Deep
import HandS.TupAny
import HandS.TupLen
import HandS.Small
import HandS.Conv
import HandS.Walk
import HandS.Replace
import PyProof.StrLawsFirst
import HandS.Style
import PyProof.SliceStr2
import KE.LtData
import KE.KDictKeyed
import HandS.OwnEq
import OpenK.KOps
import PyProof.Conv_bool
import PyProof.StrLawsRepr
import PyProof.ReprLen
import PyProof.ReprRoads
import KE.KExcIs
import PyProof.TupleOfStr
import PyProof.ListStr
import PyProof.StrBlock2
set_option Elab.async false
set_option linter.all false
section
/-! K1: words, their order, searches by breadth. Plain Lean. -/
namespace K18
abbrev Wd := List Nat
def Ltk (k : Nat) (w : Wd) : Prop := ∀ c ∈ w, c < k
def slt (a b : Wd) : Prop := a.length < b.length ∨ (a.length = b.length ∧ a < b)
def sle (a b : Wd) : Prop := slt a b ∨ a = b

theorem Ltk.nil {k : Nat} : Ltk k [] := fun _ h => nomatch h
theorem Ltk.snoc {k : Nat} {w : Wd} {u : Nat} (h : Ltk k w) (hu : u < k) : Ltk k (w ++ [u]) := fun c hc => by
  rcases List.mem_append.mp hc with h1 | h1
  · exact h c h1
  · have e := List.mem_singleton.mp h1
    omega
theorem Ltk.left {k : Nat} {w x : Wd} (h : Ltk k (w ++ x)) : Ltk k w := fun c hc => h c (List.mem_append_left _ hc)
theorem Ltk.right {k : Nat} {w x : Wd} (h : Ltk k (w ++ x)) : Ltk k x := fun c hc => h c (List.mem_append_right _ hc)
theorem Ltk.append {k : Nat} {w x : Wd} (h : Ltk k w) (h' : Ltk k x) : Ltk k (w ++ x) := fun c hc => by
  rcases List.mem_append.mp hc with h1 | h1
  · exact h c h1
  · exact h' c h1

theorem lex_irrefl (a : Wd) : ¬ a < a := List.lt_irrefl a
theorem lex_trans {a b c : Wd} (h : a < b) (h' : b < c) : a < c := List.lt_trans h h'
theorem lex_tri : ∀ (a b : Wd), a < b ∨ a = b ∨ b < a
  | [], [] => .inr (.inl rfl)
  | [], _ :: _ => .inl (List.nil_lt_cons _ _)
  | _ :: _, [] => .inr (.inr (List.nil_lt_cons _ _))
  | x :: a, y :: b => by
    rcases Nat.lt_trichotomy x y with h | h | h
    · exact .inl (List.cons_lt_cons_iff.mpr (.inl h))
    · subst h
      rcases lex_tri a b with h | h | h
      · exact .inl (List.cons_lt_cons_iff.mpr (.inr ⟨rfl, h⟩))
      · exact .inr (.inl (by rw [h]))
      · exact .inr (.inr (List.cons_lt_cons_iff.mpr (.inr ⟨rfl, h⟩)))
    · exact .inr (.inr (List.cons_lt_cons_iff.mpr (.inl h)))
theorem lex_app : ∀ {a b : Wd} (x y : Wd), a.length = b.length → a < b → a ++ x < b ++ y
  | [], [], _, _, _, h => absurd h (lex_irrefl _)
  | [], _ :: _, _, _, e, _ => by simp at e
  | _ :: _, [], _, _, e, _ => by simp at e
  | p :: a, q :: b, x, y, e, h => by
    rcases List.cons_lt_cons_iff.mp h with h1 | ⟨h1, h2⟩
    · exact List.cons_lt_cons_iff.mpr (.inl h1)
    · exact List.cons_lt_cons_iff.mpr (.inr ⟨h1, lex_app x y (by simpa using e) h2⟩)
theorem lex_pre : ∀ (a : Wd) {x y : Wd}, x < y → a ++ x < a ++ y
  | [], _, _, h => h
  | p :: a, x, y, h => List.cons_lt_cons_iff.mpr (.inr ⟨rfl, lex_pre a h⟩)
theorem lex_one {u v : Nat} (h : u < v) : ([u] : Wd) < [v] := List.cons_lt_cons_iff.mpr (.inl h)

theorem slt_irrefl (a : Wd) : ¬ slt a a := fun h => by
  rcases h with h | ⟨_, h⟩
  · omega
  · exact lex_irrefl a h
theorem slt_trans {a b c : Wd} (h : slt a b) (h' : slt b c) : slt a c := by
  rcases h with h | ⟨e, h⟩ <;> rcases h' with h' | ⟨e', h'⟩
  · exact .inl (by omega)
  · exact .inl (by omega)
  · exact .inl (by omega)
  · exact .inr ⟨by omega, lex_trans h h'⟩
theorem slt_tri (a b : Wd) : slt a b ∨ a = b ∨ slt b a := by
  rcases Nat.lt_trichotomy a.length b.length with h | h | h
  · exact .inl (.inl h)
  · rcases lex_tri a b with g | g | g
    · exact .inl (.inr ⟨h, g⟩)
    · exact .inr (.inl g)
    · exact .inr (.inr (.inr ⟨h.symm, g⟩))
  · exact .inr (.inr (.inl h))
theorem sle_refl (a : Wd) : sle a a := .inr rfl
theorem sle_trans {a b c : Wd} (h : sle a b) (h' : sle b c) : sle a c := by
  rcases h with h | h
  · rcases h' with h' | h'
    · exact .inl (slt_trans h h')
    · exact .inl (h' ▸ h)
  · exact h ▸ h'
theorem sle_slt {a b c : Wd} (h : sle a b) (h' : slt b c) : slt a c := by
  rcases h with h | h
  · exact slt_trans h h'
  · exact h ▸ h'
theorem slt_sle {a b c : Wd} (h : slt a b) (h' : sle b c) : slt a c := by
  rcases h' with h' | h'
  · exact slt_trans h h'
  · exact h' ▸ h
theorem sle_anti {a b : Wd} (h : sle a b) (h' : sle b a) : a = b := by
  rcases h with h | h
  · exact absurd (slt_sle h h') (slt_irrefl a)
  · exact h
theorem not_slt {a b : Wd} (h : ¬ slt a b) : sle b a := by
  rcases slt_tri a b with g | g | g
  · exact absurd g h
  · exact .inr g.symm
  · exact .inl g
theorem sle_not {a b : Wd} (h : sle a b) : ¬ slt b a := fun g => slt_irrefl a (sle_slt h g)
theorem nil_sle (a : Wd) : sle [] a := by
  cases a with
  | nil => exact .inr rfl
  | cons x a => exact .inl (.inl (by simp))
theorem slt_snoc {a b : Wd} {u v : Nat} (h : slt a b) : slt (a ++ [u]) (b ++ [v]) := by
  rcases h with h | ⟨e, h⟩
  · exact .inl (by simp; exact h)
  · exact .inr ⟨by simp [e], lex_app _ _ e h⟩
theorem slt_last {a : Wd} {u v : Nat} (h : u < v) : slt (a ++ [u]) (a ++ [v]) := .inr ⟨by simp, lex_pre a (lex_one h)⟩
theorem sle_snoc {a b : Wd} {u : Nat} (h : sle a b) : sle (a ++ [u]) (b ++ [u]) := by
  rcases h with h | h
  · exact .inl (slt_snoc h)
  · exact .inr (by rw [h])
theorem slt_self_snoc (a : Wd) (u : Nat) : slt a (a ++ [u]) := .inl (by simp)
theorem nil_slt_snoc (a : Wd) (u : Nat) : slt [] (a ++ [u]) := .inl (by simp)
theorem sle_len {a b : Wd} (h : sle a b) : a.length ≤ b.length := by
  rcases h with (h | ⟨h, _⟩) | h
  · omega
  · omega
  · rw [h]; exact Nat.le_refl _
theorem snoc_cases (w : Wd) : w = [] ∨ ∃ x u, w = x ++ [u] := by
  rcases List.eq_nil_or_concat w with h | ⟨x, u, h⟩
  · exact .inl h
  · exact .inr ⟨x, u, by simpa using h⟩

/-! ### a search by breadth -/
def run {α : Type} (d : α → Nat → α) (a : α) (w : Wd) : α := w.foldl d a
theorem run_snoc {α : Type} (d : α → Nat → α) (a : α) (w : Wd) (u : Nat) : run d a (w ++ [u]) = d (run d a w) u := by
  unfold run
  rw [List.foldl_append]
  rfl
theorem run_app {α : Type} (d : α → Nat → α) (a : α) (w x : Wd) : run d a (w ++ x) = run d (run d a w) x := by
  unfold run
  rw [List.foldl_append]
theorem run_cons {α : Type} (d : α → Nat → α) (a : α) (u : Nat) (w : Wd) : run d a (u :: w) = run d (d a u) w := rfl

structure BInv {α : Type} (d : α → Nat → α) (k : Nat) (a0 : α) (told : List (α × Wd)) (i v : Nat) : Prop where
  ne : told[0]? = some (a0, [])
  nd : (told.map (·.1)).Nodup
  run : ∀ p ∈ told, Ltk k p.2 ∧ run d a0 p.2 = p.1
  srt : told.Pairwise fun p q => slt p.2 q.2
  cl : ∀ (j : Nat) (p : α × Wd) (u : Nat), told[j]? = some p → u < k → (j < i ∨ (j = i ∧ u < v)) → ∃ q ∈ told, q.1 = d p.1 u ∧ sle q.2 (p.2 ++ [u])
  bd : ∀ q ∈ told, q = (a0, []) ∨ ∃ (j u : Nat) (p : α × Wd), told[j]? = some p ∧ u < k ∧ (j < i ∨ (j = i ∧ u < v)) ∧ q = (d p.1 u, p.2 ++ [u])

section
variable {α : Type} {d : α → Nat → α} {k : Nat} {a0 : α} {told : List (α × Wd)} {i v : Nat}
theorem BInv.start : BInv d k a0 [(a0, [])] 0 0 where
  ne := rfl
  nd := by simp
  run := fun p hp => by
    have e := List.mem_singleton.mp hp
    subst e
    exact ⟨Ltk.nil, rfl⟩
  srt := by simp
  cl := fun j p u _ _ h => by omega
  bd := fun q hq => .inl (List.mem_singleton.mp hq)
theorem BInv.lt_of_ix (B : BInv d k a0 told i v) {j l : Nat} {p q : α × Wd} (hj : told[j]? = some p) (hl : told[l]? = some q) (h : j < l) : slt p.2 q.2 := by
  obtain ⟨h1, e1⟩ := List.getElem?_eq_some_iff.mp hj
  obtain ⟨h2, e2⟩ := List.getElem?_eq_some_iff.mp hl
  have z := List.pairwise_iff_getElem.mp B.srt j l h1 h2 h
  rw [e1, e2] at z
  exact z
theorem BInv.ix_le (B : BInv d k a0 told i v) {j l : Nat} {p q : α × Wd} (hj : told[j]? = some p) (hl : told[l]? = some q) (h : sle p.2 q.2) : j ≤ l := by
  rcases Nat.lt_or_ge l j with g | g
  · exact absurd (B.lt_of_ix hl hj g) (sle_not h)
  · exact g
/-- all words told lie below the next candidate -/
theorem BInv.below (B : BInv d k a0 told i v) {p : α × Wd} (hp : told[i]? = some p) : ∀ q ∈ told, slt q.2 (p.2 ++ [v]) := fun q hq => by
  rcases B.bd q hq with e | ⟨j, u, r, hr, hu, c, e⟩
  · rw [e]; exact nil_slt_snoc _ _
  · rw [e]
    rcases c with c | ⟨c, c'⟩
    · exact slt_snoc (B.lt_of_ix hr hp c)
    · subst c
      rw [hr] at hp
      cases hp
      exact slt_last c'
theorem BInv.old (B : BInv d k a0 told i v) {p : α × Wd} (hp : told[i]? = some p) (hv : v < k) (h : d p.1 v ∈ told.map (·.1)) : BInv d k a0 told i (v + 1) where
  ne := B.ne
  nd := B.nd
  run := B.run
  srt := B.srt
  cl := fun j q u hq hu c => by
    rcases Nat.lt_or_ge j i with g | g
    · exact B.cl j q u hq hu (.inl g)
    · rcases c with c | ⟨c, c'⟩
      · omega
      · subst c
        rcases Nat.lt_or_ge u v with g' | g'
        · exact B.cl j q u hq hu (.inr ⟨rfl, g'⟩)
        · have eu : u = v := by omega
          subst eu
          rw [hp] at hq
          cases hq
          obtain ⟨r, hr, e⟩ := List.mem_map.mp h
          exact ⟨r, hr, e, .inl (B.below hp r hr)⟩
  bd := fun q hq => by
    rcases B.bd q hq with e | ⟨j, u, r, hr, hu, c, e⟩
    · exact .inl e
    · exact .inr ⟨j, u, r, hr, hu, by omega, e⟩
theorem BInv.new (B : BInv d k a0 told i v) {p : α × Wd} (hp : told[i]? = some p) (hv : v < k) (h : d p.1 v ∉ told.map (·.1)) : BInv d k a0 (told ++ [(d p.1 v, p.2 ++ [v])]) i (v + 1) where
  ne := by
    rw [List.getElem?_append_left (List.getElem?_eq_some_iff.mp B.ne).1]
    exact B.ne
  nd := by
    rw [List.map_append]
    refine List.nodup_append.mpr ⟨B.nd, by simp, fun a ha b hb => ?_⟩
    have e := List.mem_singleton.mp hb
    intro q
    rw [q, e] at ha
    exact h ha
  run := fun q hq => by
    rcases List.mem_append.mp hq with hq | hq
    · exact B.run q hq
    · have e := List.mem_singleton.mp hq
      subst e
      obtain ⟨h1, h2⟩ := B.run p (List.mem_of_getElem? hp)
      exact ⟨h1.snoc hv, by rw [run_snoc, h2]⟩
  srt := by
    refine List.pairwise_append.mpr ⟨B.srt, by simp, fun q hq r hr => ?_⟩
    have e := List.mem_singleton.mp hr
    subst e
    exact B.below hp q hq
  cl := fun j q u hq hu c => by
    have hil : i < told.length := (List.getElem?_eq_some_iff.mp hp).1
    have hj : j < told.length := by omega
    rw [List.getElem?_append_left hj] at hq
    have old : (j < i ∨ (j = i ∧ u < v)) → ∃ r ∈ told ++ [(d p.1 v, p.2 ++ [v])], r.1 = d q.1 u ∧ sle r.2 (q.2 ++ [u]) := fun c' => by
      obtain ⟨r, hr, e⟩ := B.cl j q u hq hu c'
      exact ⟨r, List.mem_append_left _ hr, e⟩
    rcases c with c | ⟨c, c'⟩
    · exact old (.inl c)
    · subst c
      rcases Nat.lt_or_ge u v with g | g
      · exact old (.inr ⟨rfl, g⟩)
      · have eu : u = v := by omega
        subst eu
        rw [hp] at hq
        cases hq
        exact ⟨_, List.mem_append_right _ List.mem_cons_self, rfl, .inr rfl⟩
  bd := fun q hq => by
    have hil : i < told.length := (List.getElem?_eq_some_iff.mp hp).1
    rcases List.mem_append.mp hq with hq | hq
    · rcases B.bd q hq with e | ⟨j, u, r, hr, hu, c, e⟩
      · exact .inl e
      · exact .inr ⟨j, u, r, by rw [List.getElem?_append_left (by omega)]; exact hr, hu, by omega, e⟩
    · have e := List.mem_singleton.mp hq
      exact .inr ⟨i, v, p, by rw [List.getElem?_append_left hil]; exact hp, hv, by omega, e⟩
theorem BInv.row (B : BInv d k a0 told i k) : BInv d k a0 told (i + 1) 0 where
  ne := B.ne
  nd := B.nd
  run := B.run
  srt := B.srt
  cl := fun j p u hp hu c => B.cl j p u hp hu (by omega)
  bd := fun q hq => by
    rcases B.bd q hq with e | ⟨j, u, r, hr, hu, c, e⟩
    · exact .inl e
    · exact .inr ⟨j, u, r, hr, hu, by omega, e⟩
theorem BInv.len_pos (B : BInv d k a0 told i v) : 0 < told.length := (List.getElem?_eq_some_iff.mp B.ne).1
/-- at the end every word is found -/
theorem BInv.fin (B : BInv d k a0 told i 0) (hi : told.length ≤ i) : ∀ n (w : Wd), w.length = n → Ltk k w → ∃ q ∈ told, q.1 = K18.run d a0 w ∧ sle q.2 w
  | 0, w, hn, _ => by
    have e : w = [] := List.length_eq_zero_iff.mp hn
    subst e
    exact ⟨_, List.mem_of_getElem? B.ne, rfl, .inr rfl⟩
  | n + 1, w, hn, hw => by
    rcases snoc_cases w with e | ⟨x, u, e⟩
    · subst e; simp at hn
    · subst e
      obtain ⟨p, hp, e1, e2⟩ := B.fin hi n x (by simpa using hn) hw.left
      obtain ⟨j, hj, e3⟩ := List.mem_iff_getElem.mp hp
      obtain ⟨q, hq, e4, e5⟩ := B.cl j p u (List.getElem?_eq_some_iff.mpr ⟨hj, e3⟩) (hw u (by simp)) (.inl (by omega))
      exact ⟨q, hq, by rw [run_snoc, ← e1, e4], sle_trans e5 (sle_snoc e2)⟩
theorem BInv.all (B : BInv d k a0 told i 0) (hi : told.length ≤ i) (w : Wd) (hw : Ltk k w) : ∃ q ∈ told, q.1 = K18.run d a0 w ∧ sle q.2 w := B.fin hi _ w rfl hw
/-- words up to that of the i-th are found ahead of it -/
theorem BInv.upto (B : BInv d k a0 told i 0) {p : α × Wd} (hp : told[i]? = some p) : ∀ n (w : Wd), w.length = n → Ltk k w → sle w p.2 → ∃ j q, j ≤ i ∧ told[j]? = some q ∧ q.1 = K18.run d a0 w ∧ sle q.2 w
  | 0, w, hn, _, _ => by
    have e : w = [] := List.length_eq_zero_iff.mp hn
    subst e
    exact ⟨0, _, Nat.zero_le _, B.ne, rfl, .inr rfl⟩
  | n + 1, w, hn, hw, hle => by
    rcases snoc_cases w with e | ⟨x, u, e⟩
    · subst e; simp at hn
    · subst e
      have hx : slt x p.2 := slt_sle (slt_self_snoc x u) hle
      obtain ⟨j, q, hj, hq, e1, e2⟩ := B.upto hp n x (by simpa using hn) hw.left (.inl hx)
      have hji : j < i := by
        rcases Nat.lt_or_ge j i with g | g
        · exact g
        · have e : j = i := by omega
          subst e
          rw [hp] at hq
          cases hq
          exact absurd (sle_slt e2 hx) (slt_irrefl _)
      obtain ⟨r, hr, e4, e5⟩ := B.cl j q u hq (hw u (by simp)) (.inl hji)
      obtain ⟨l, hl, e6⟩ := List.mem_iff_getElem.mp hr
      have hl' : told[l]? = some r := List.getElem?_eq_some_iff.mpr ⟨hl, e6⟩
      have hrw : sle r.2 (x ++ [u]) := sle_trans e5 (sle_snoc e2)
      exact ⟨l, r, B.ix_le hl' hp (sle_trans hrw hle), hl', by rw [run_snoc, ← e1, e4], hrw⟩
/-- what the search of a thing gives: at the first place where it is, the least word that leads to it -/
theorem BInv.least (B : BInv d k a0 told i 0) {p : α × Wd} (hp : told[i]? = some p) {g : α → Bool} (hno : ∀ j q, j < i → told[j]? = some q → g q.1 = false) (w : Wd) (hw : Ltk k w) (hg : g (K18.run d a0 w) = true) : sle p.2 w := by
  refine not_slt fun h => ?_
  obtain ⟨j, q, hj, hq, e1, e2⟩ := B.upto hp _ w rfl hw (.inl h)
  rcases Nat.lt_or_ge j i with c | c
  · have z := hno j q c hq
    rw [e1, hg] at z
    cases z
  · have e : j = i := by omega
    subst e
    rw [hp] at hq
    cases hq
    exact absurd (sle_slt e2 h) (slt_irrefl _)
theorem BInv.none (B : BInv d k a0 told i 0) (hi : told.length ≤ i) {g : α → Bool} (hno : ∀ j q, j < i → told[j]? = some q → g q.1 = false) (w : Wd) (hw : Ltk k w) : g (K18.run d a0 w) = false := by
  obtain ⟨q, hq, e1, _⟩ := B.all hi w hw
  obtain ⟨j, hj, e3⟩ := List.mem_iff_getElem.mp hq
  rw [← e1]
  exact hno j q (by omega) (List.getElem?_eq_some_iff.mpr ⟨hj, e3⟩)
/-- how many can be found -/
theorem BInv.count (B : BInv d k a0 told i v) {all : List α} (h : ∀ w, Ltk k w → K18.run d a0 w ∈ all) : told.length ≤ all.length := by
  have z := B.nd.length_le_of_subset (l₂ := all) fun a ha => by
    obtain ⟨p, hp, e⟩ := List.mem_map.mp ha
    obtain ⟨h1, h2⟩ := B.run p hp
    rw [← e, ← h2]
    exact h _ h1
  rw [List.length_map] at z
  exact z
end

/-! ### tables -/
def stp (rows : List (List Nat)) (z v : Nat) : Nat := (rows.getD z []).getD v 0
structure Tab (k n : Nat) (rows : List (List Nat)) : Prop where
  len : rows.length = n
  pos : 0 < n
  row : ∀ (i : Nat) (r : List Nat), rows[i]? = some r → r.length = k ∧ ∀ x ∈ r, x < n
theorem Tab.get {k n : Nat} {rows : List (List Nat)} (T : Tab k n rows) {z : Nat} (hz : z < n) : ∃ r, rows[z]? = some r ∧ r.length = k ∧ (∀ x ∈ r, x < n) ∧ ∀ v, v < k → r[v]? = some (stp rows z v) := by
  have h : z < rows.length := by rw [T.len]; exact hz
  refine ⟨rows[z], List.getElem?_eq_some_iff.mpr ⟨h, rfl⟩, ?_⟩
  obtain ⟨h1, h2⟩ := T.row z rows[z] (List.getElem?_eq_some_iff.mpr ⟨h, rfl⟩)
  refine ⟨h1, h2, fun v hv => ?_⟩
  have e : rows.getD z [] = rows[z] := by simp [List.getD, h]
  have hv' : v < rows[z].length := by rw [h1]; exact hv
  unfold stp
  rw [e]
  simp [List.getD, hv']
theorem Tab.lt {k n : Nat} {rows : List (List Nat)} (T : Tab k n rows) {z v : Nat} (hz : z < n) (hv : v < k) : stp rows z v < n := by
  obtain ⟨r, _, _, h2, h3⟩ := T.get hz
  exact h2 _ (List.mem_of_getElem? (h3 v hv))
theorem Tab.run_lt {k n : Nat} {rows : List (List Nat)} (T : Tab k n rows) : ∀ {w : Wd} {z : Nat}, z < n → Ltk k w → K18.run (stp rows) z w < n
  | [], _, hz, _ => hz
  | u :: w, z, hz, hw => by
    rw [run_cons]
    exact T.run_lt (T.lt hz (hw u (by simp))) fun c hc => hw c (by simp [hc])
theorem Tab.map {k n : Nat} {rows : List (List Nat)} (T : Tab k n rows) {z : Nat} {r : List Nat} (h : rows[z]? = some r) {β : Type} (f : Nat → β) : r.map f = (List.range k).map fun v => f (stp rows z v) := by
  have hz : z < n := by
    rw [← T.len]
    exact (List.getElem?_eq_some_iff.mp h).1
  obtain ⟨r', e1, h1, h2, h3⟩ := T.get hz
  rw [h] at e1
  cases e1
  refine List.ext_getElem? fun v => ?_
  rw [List.getElem?_map, List.getElem?_map]
  rcases Nat.lt_or_ge v k with c | c
  · rw [h3 v c, List.getElem?_range c]
    rfl
  · rw [List.getElem?_eq_none_iff.mpr (by omega), List.getElem?_eq_none_iff.mpr (by simp; exact c)]
    rfl
end K18
end
section
/-! K2: standings that tell the same papers; least forms. Plain Lean. -/
namespace K18

/-! ### a round of the refinement -/
/-- where a thing stands in a list -/
def ix {β : Type} [DecidableEq β] (x : β) (l : List β) : Nat := l.idxOf x
theorem ix_lt {β : Type} [DecidableEq β] {x : β} {l : List β} (h : x ∈ l) : ix x l < l.length := List.idxOf_lt_length_of_mem h
theorem ix_get {β : Type} [DecidableEq β] {x : β} {l : List β} (h : x ∈ l) : l[ix x l]? = some x := by
  have e := List.getElem_idxOf (ix_lt h)
  exact List.getElem?_eq_some_iff.mpr ⟨ix_lt h, e⟩
theorem ix_inj {β : Type} [DecidableEq β] {x y : β} {l : List β} (hx : x ∈ l) (hy : y ∈ l) (e : ix x l = ix y l) : x = y := by
  have h := ix_get hx
  rw [e, ix_get hy] at h
  exact (Option.some.inj h).symm
theorem ix_of {β : Type} [DecidableEq β] {x : β} {l : List β} {i : Nat} (nd : l.Nodup) (h : l[i]? = some x) : ix x l = i := by
  have hm : x ∈ l := List.mem_of_getElem? h
  have hi := (List.getElem?_eq_some_iff.mp h).1
  have e := ix_get hm
  exact (List.getElem?_inj (ix_lt hm) nd).mp (e.trans h.symm)
theorem ix_app {β : Type} [DecidableEq β] {x : β} {l l' : List β} (h : x ∈ l) : ix x (l ++ l') = ix x l := by
  unfold ix
  rw [List.idxOf_append, if_pos h]
theorem ix_new {β : Type} [DecidableEq β] {x : β} {l : List β} (h : x ∉ l) : ix x (l ++ [x]) = l.length := by
  unfold ix
  rw [List.idxOf_append, if_neg h]
  simp

/-- lists of things, each once, in the order in which they are met -/
def addN {β : Type} [DecidableEq β] (l : List β) (x : β) : List β := if x ∈ l then l else l ++ [x]
theorem addN_nd {β : Type} [DecidableEq β] {l : List β} {x : β} (h : l.Nodup) : (addN l x).Nodup := by
  unfold addN
  split
  · exact h
  · rename_i hx
    refine List.nodup_append.mpr ⟨h, by simp, fun a ha b hb => ?_⟩
    have e := List.mem_singleton.mp hb
    intro q
    rw [q, e] at ha
    exact hx ha
theorem addN_mem {β : Type} [DecidableEq β] {l : List β} {x y : β} : y ∈ addN l x ↔ y ∈ l ∨ y = x := by
  unfold addN
  split
  · rename_i hx
    constructor
    · exact .inl
    · rintro (h | h)
      · exact h
      · rw [h]; exact hx
  · simp
theorem addN_ix {β : Type} [DecidableEq β] {l : List β} {x y : β} (h : y ∈ l) : ix y (addN l x) = ix y l := by
  unfold addN
  split
  · rfl
  · exact ix_app h
def metN {γ β : Type} [DecidableEq β] (f : γ → β) (zs : List γ) : List β := zs.foldl (fun l z => addN l (f z)) []
theorem metN_snoc {γ β : Type} [DecidableEq β] (f : γ → β) (zs : List γ) (z : γ) : metN f (zs ++ [z]) = addN (metN f zs) (f z) := by
  unfold metN
  rw [List.foldl_append]
  rfl
theorem metN_nd {γ β : Type} [DecidableEq β] (f : γ → β) : ∀ (n : Nat) (zs : List γ), zs.length = n → (metN f zs).Nodup
  | 0, zs, h => by
    have e := List.length_eq_zero_iff.mp h
    subst e
    exact List.nodup_nil
  | n + 1, zs, h => by
    rcases List.eq_nil_or_concat zs with e | ⟨ys, y, e⟩
    · subst e; exact List.nodup_nil
    · subst e
      rw [show ys.concat y = ys ++ [y] from by simp] at h ⊢
      rw [metN_snoc]
      exact addN_nd (metN_nd f n ys (by simpa using h))
theorem metN_mem {γ β : Type} [DecidableEq β] (f : γ → β) {b : β} : ∀ (n : Nat) (zs : List γ), zs.length = n → (b ∈ metN f zs ↔ ∃ z ∈ zs, f z = b)
  | 0, zs, h => by
    have e := List.length_eq_zero_iff.mp h
    subst e
    simp [metN]
  | n + 1, zs, h => by
    rcases List.eq_nil_or_concat zs with e | ⟨ys, y, e⟩
    · subst e; simp [metN]
    · subst e
      rw [show ys.concat y = ys ++ [y] from by simp] at h ⊢
      rw [metN_snoc, addN_mem, metN_mem f n ys (by simpa using h)]
      constructor
      · rintro (⟨z, hz, e⟩ | e)
        · exact ⟨z, List.mem_append_left _ hz, e⟩
        · exact ⟨y, by simp, e.symm⟩
      · rintro ⟨z, hz, e⟩
        rcases List.mem_append.mp hz with hz | hz
        · exact .inl ⟨z, hz, e⟩
        · have q := List.mem_singleton.mp hz
          subst q
          exact .inr e.symm

/-- the numbers of the things that f gives -/
def num {γ β : Type} [DecidableEq β] (f : γ → β) (zs : List γ) (z : γ) : Nat := ix (f z) (metN f zs)
section
variable {γ β : Type} [DecidableEq β] {f : γ → β} {zs : List γ}
theorem in_met {z : γ} (h : z ∈ zs) : f z ∈ metN f zs := (metN_mem f _ zs rfl).mpr ⟨z, h, rfl⟩
theorem num_lt {z : γ} (h : z ∈ zs) : num f zs z < (metN f zs).length := ix_lt (in_met h)
theorem num_eq {y z : γ} (hy : y ∈ zs) (hz : z ∈ zs) : num f zs y = num f zs z ↔ f y = f z := by
  constructor
  · exact fun e => ix_inj (in_met hy) (in_met hz) e
  · exact fun e => by unfold num; rw [e]
theorem num_onto {i : Nat} (h : i < (metN f zs).length) : ∃ z ∈ zs, num f zs z = i := by
  obtain ⟨z, hz, e⟩ := (metN_mem f _ zs rfl).mp (List.getElem_mem h)
  refine ⟨z, hz, ?_⟩
  unfold num
  rw [e]
  exact ix_of (metN_nd f _ zs rfl) (List.getElem?_eq_some_iff.mpr ⟨h, rfl⟩)
end

/-- a list of c things that has all below m: m at most c; if c = m, no thing twice -/
theorem cover_le {c m : Nat} {f : Nat → Nat} (h : ∀ j, j < m → ∃ i, i < c ∧ f i = j) : m ≤ c := by
  have z := (List.nodup_range (n := m)).length_le_of_subset (l₂ := (List.range c).map f) fun j hj => by
    obtain ⟨i, hi, e⟩ := h j (List.mem_range.mp hj)
    exact List.mem_map.mpr ⟨i, List.mem_range.mpr hi, e⟩
  simpa using z
theorem cover_inj {m : Nat} {f : Nat → Nat} (h : ∀ j, j < m → ∃ i, i < m ∧ f i = j) {a b : Nat} (ha : a < m) (hb : b < m) (e : f a = f b) : a = b := by
  refine Classical.byContradiction fun ne => ?_
  have z := (List.nodup_range (n := m)).length_le_of_subset (l₂ := ((List.range m).erase b).map f) fun j hj => by
    obtain ⟨i, hi, q⟩ := h j (List.mem_range.mp hj)
    by_cases hib : i = b
    · exact List.mem_map.mpr ⟨a, (List.mem_erase_of_ne ne).mpr (List.mem_range.mpr ha), by rw [e, ← hib, q]⟩
    · exact List.mem_map.mpr ⟨i, (List.mem_erase_of_ne hib).mpr (List.mem_range.mpr hi), q⟩
  have l : ((List.range m).erase b).length = m - 1 := by
    rw [List.length_erase, if_pos (List.mem_range.mpr hb), List.length_range]
  rw [List.length_map, l, List.length_range] at z
  omega

/-- marks of the found standings: what they tell is true, and they are numbers below many, each of them there (many = 0: not yet numbers) -/
structure Marks (k : Nat) (d : Nat → Nat → Nat) (gl : Nat → Bool) (ord : List Nat) (mk : Nat → Nat) (many : Nat) : Prop where
  g : ∀ y ∈ ord, ∀ z ∈ ord, mk y = mk z → gl y = gl z
  s : ∀ y ∈ ord, ∀ z ∈ ord, mk y ≠ mk z → ∃ w, Ltk k w ∧ gl (run d y w) ≠ gl (run d z w)
  c : many = 0 ∨ ((∀ z ∈ ord, mk z < many) ∧ ∀ i, i < many → ∃ z ∈ ord, mk z = i)
def keyOf (k : Nat) (d : Nat → Nat → Nat) (mk : Nat → Nat) (z : Nat) : Nat × List Nat := (mk z, (List.range k).map fun v => mk (d z v))
theorem keyOf_eq {k : Nat} {d : Nat → Nat → Nat} {mk : Nat → Nat} {y z : Nat} : keyOf k d mk y = keyOf k d mk z ↔ mk y = mk z ∧ ∀ v, v < k → mk (d y v) = mk (d z v) := by
  unfold keyOf
  rw [Prod.mk.injEq]
  refine and_congr_right fun _ => ⟨fun e v hv => ?_, fun h => ?_⟩
  · have q : ((List.range k).map fun v => mk (d y v))[v]? = ((List.range k).map fun v => mk (d z v))[v]? := by rw [e]
    rw [List.getElem?_map, List.getElem?_map, List.getElem?_range hv] at q
    exact Option.some.inj q
  · exact List.map_congr_left fun v hv => h v (List.mem_range.mp hv)
section
variable {k : Nat} {d : Nat → Nat → Nat} {gl : Nat → Bool} {ord : List Nat} {mk : Nat → Nat} {many : Nat}
theorem Marks.begin (mk : Nat → Nat) (h : ∀ z ∈ ord, mk z = if gl z = true then 1 else 0) : Marks k d gl ord mk 0 where
  g := fun y hy z hz e => by
    rw [h y hy, h z hz] at e
    cases q : gl y <;> cases q' : gl z <;> simp_all
  s := fun y hy z hz e => ⟨[], Ltk.nil, fun q => e (by
    rw [h y hy, h z hz]
    have q' : gl y = gl z := q
    rw [q'])⟩
  c := .inl rfl
/-- the next marks -/
def nextM (k : Nat) (d : Nat → Nat → Nat) (ord : List Nat) (mk : Nat → Nat) : Nat → Nat := num (keyOf k d mk) ord
def nextC (k : Nat) (d : Nat → Nat → Nat) (ord : List Nat) (mk : Nat → Nat) : Nat := (metN (keyOf k d mk) ord).length
theorem nextM_eq {y z : Nat} (hy : y ∈ ord) (hz : z ∈ ord) : nextM k d ord mk y = nextM k d ord mk z ↔ mk y = mk z ∧ ∀ v, v < k → mk (d y v) = mk (d z v) := (num_eq hy hz).trans keyOf_eq
theorem Marks.next (M : Marks k d gl ord mk many) (cl : ∀ z ∈ ord, ∀ v, v < k → d z v ∈ ord) : Marks k d gl ord (nextM k d ord mk) (nextC k d ord mk) where
  g := fun y hy z hz e => M.g y hy z hz ((nextM_eq hy hz).mp e).1
  s := fun y hy z hz e => by
    by_cases h : mk y = mk z
    · have h2 : ∃ v, v < k ∧ mk (d y v) ≠ mk (d z v) := Classical.byContradiction fun q => e ((nextM_eq hy hz).mpr ⟨h, fun v hv => Classical.byContradiction fun q' => q ⟨v, hv, q'⟩⟩)
      obtain ⟨v, hv, ne⟩ := h2
      obtain ⟨w, hw, hg⟩ := M.s _ (cl y hy v hv) _ (cl z hz v hv) ne
      exact ⟨v :: w, fun c hc => by
        rcases List.mem_cons.mp hc with q | q
        · omega
        · exact hw c q, hg⟩
    · exact M.s y hy z hz h
  c := .inr ⟨fun z hz => num_lt hz, fun i hi => num_onto hi⟩
theorem Marks.grows (M : Marks k d gl ord mk many) : many ≤ nextC k d ord mk := by
  rcases M.c with e | ⟨h1, h2⟩
  · omega
  · have key : ∀ i, i < nextC k d ord mk → ∃ z, z ∈ ord ∧ nextM k d ord mk z = i := fun i hi => num_onto hi
    refine cover_le (f := fun i => if h : i < nextC k d ord mk then mk (Classical.choose (key i h)) else 0) fun j hj => ?_
    obtain ⟨z, hz, e⟩ := h2 j hj
    have hl : nextM k d ord mk z < nextC k d ord mk := num_lt hz
    refine ⟨nextM k d ord mk z, hl, ?_⟩
    have q := Classical.choose_spec (key _ hl)
    simp only [hl, dite_true]
    rw [((nextM_eq q.1 hz).mp q.2).1, e]
theorem nextC_le : nextC k d ord mk ≤ ord.length := by
  have key : ∀ i, i < nextC k d ord mk → ∃ z, z ∈ ord ∧ nextM k d ord mk z = i := fun i hi => num_onto hi
  have z := (List.nodup_range (n := nextC k d ord mk)).length_le_of_subset (l₂ := ord.map (nextM k d ord mk)) fun j hj => by
    obtain ⟨z, hz, e⟩ := key j (List.mem_range.mp hj)
    exact List.mem_map.mpr ⟨z, hz, e⟩
  simpa using z
theorem nextC_pos (h : ord ≠ []) : 0 < nextC k d ord mk := by
  obtain ⟨z, hz⟩ := List.exists_mem_of_ne_nil _ h
  have := num_lt (f := keyOf k d mk) hz
  exact Nat.lt_of_le_of_lt (Nat.zero_le _) this
/-- no more numbers than before: the marks stand -/
theorem Marks.still (M : Marks k d gl ord mk many) (h0 : many ≠ 0) (e : nextC k d ord mk = many) {y z : Nat} (hy : y ∈ ord) (hz : z ∈ ord) (h : mk y = mk z) : nextM k d ord mk y = nextM k d ord mk z := by
  rcases M.c with q | ⟨h1, h2⟩
  · exact absurd q h0
  · have key : ∀ i, i < nextC k d ord mk → ∃ z, z ∈ ord ∧ nextM k d ord mk z = i := fun i hi => num_onto hi
    have rep : ∀ x, x ∈ ord → (fun i => if h : i < nextC k d ord mk then mk (Classical.choose (key i h)) else 0) (nextM k d ord mk x) = mk x := fun x hx => by
      have hl : nextM k d ord mk x < nextC k d ord mk := num_lt hx
      have q := Classical.choose_spec (key _ hl)
      simp only [hl, dite_true]
      exact ((nextM_eq q.1 hx).mp q.2).1
    refine cover_inj (m := many) (f := fun i => if h : i < nextC k d ord mk then mk (Classical.choose (key i h)) else 0) (fun j hj => ?_) (by rw [← e]; exact num_lt hy) (by rw [← e]; exact num_lt hz) ((rep y hy).trans (h.trans (rep z hz).symm))
    obtain ⟨x, hx, ex⟩ := h2 j hj
    exact ⟨nextM k d ord mk x, by rw [← e]; exact num_lt hx, (rep x hx).trans ex⟩
end
/-- what the lots tell -/
structure Lots (k : Nat) (d : Nat → Nat → Nat) (gl : Nat → Bool) (ord : List Nat) (lo : Nat → Nat) : Prop where
  g : ∀ y ∈ ord, ∀ z ∈ ord, lo y = lo z → gl y = gl z
  s : ∀ y ∈ ord, ∀ z ∈ ord, lo y ≠ lo z → ∃ w, Ltk k w ∧ gl (run d y w) ≠ gl (run d z w)
  st : ∀ y ∈ ord, ∀ z ∈ ord, lo y = lo z → ∀ v, v < k → lo (d y v) = lo (d z v)
theorem Marks.lots {k : Nat} {d : Nat → Nat → Nat} {gl : Nat → Bool} {ord : List Nat} {mk : Nat → Nat} {many : Nat} (M : Marks k d gl ord mk many) (cl : ∀ z ∈ ord, ∀ v, v < k → d z v ∈ ord) (h0 : ord ≠ []) (e : nextC k d ord mk = many) :
    Lots k d gl ord (nextM k d ord mk) where
  g := (M.next cl).g
  s := (M.next cl).s
  st := fun y hy z hz q v hv => M.still (by
    have := nextC_pos (k := k) (d := d) (mk := mk) h0
    omega) e (cl y hy v hv) (cl z hz v hv) (((nextM_eq hy hz).mp q).2 v hv)

/-! ### the least form -/
structure Least (k : Nat) (acc : Wd → Bool) (L : List (List Nat)) (E : List Nat) : Prop where
  tab : Tab k L.length L
  ends : ∀ e ∈ E, e < L.length
  asc : E.Pairwise (· < ·)
  same : ∀ w, Ltk k w → decide (run (stp L) 0 w ∈ E) = acc w
  dist : ∀ i j, i < L.length → j < L.length → (∀ w, Ltk k w → (run (stp L) i w ∈ E ↔ run (stp L) j w ∈ E)) → i = j
  reach : ∀ i, i < L.length → ∃ w, Ltk k w ∧ run (stp L) 0 w = i
  rg : ∀ i v, i < L.length → v < k → ∀ y, y < stp L i v → y = 0 ∨ ∃ j u, u < k ∧ (j < i ∨ (j = i ∧ u < v)) ∧ stp L j u = y

/-- the lots' own table: fo gives for a lot a standing of it -/
def dl (d : Nat → Nat → Nat) (lo fo : Nat → Nat) (l v : Nat) : Nat := lo (d (fo l) v)
section
variable {k : Nat} {d : Nat → Nat → Nat} {gl : Nat → Bool} {ord : List Nat} {lo fo : Nat → Nat} {told : List (Nat × Wd)} {i v : Nat}
theorem dl_lo (T : Lots k d gl ord lo) (hf : ∀ z ∈ ord, fo (lo z) ∈ ord ∧ lo (fo (lo z)) = lo z) {z : Nat} (hz : z ∈ ord) (hv : v < k) : dl d lo fo (lo z) v = lo (d z v) :=
  T.st _ (hf z hz).1 z hz (hf z hz).2 v hv
theorem run_dl (T : Lots k d gl ord lo) (cl : ∀ z ∈ ord, ∀ v, v < k → d z v ∈ ord) (hf : ∀ z ∈ ord, fo (lo z) ∈ ord ∧ lo (fo (lo z)) = lo z) : ∀ {w : Wd} {z : Nat}, z ∈ ord → Ltk k w → run (dl d lo fo) (lo z) w = lo (run d z w) ∧ run d z w ∈ ord
  | [], z, hz, _ => ⟨rfl, hz⟩
  | u :: w, z, hz, hw => by
    have hu := hw u (by simp)
    rw [run_cons, run_cons, dl_lo T hf hz hu]
    exact run_dl T cl hf (cl z hz u hu) fun c hc => hw c (by simp [hc])
/-- the rows that are told -/
def lrow (k : Nat) (dd : Nat → Nat → Nat) (ls : List Nat) (l : Nat) : List Nat := (List.range k).map fun v => ix (dd l v) ls
def lrows (k : Nat) (dd : Nat → Nat → Nat) (ls : List Nat) : List (List Nat) := ls.map (lrow k dd ls)
theorem stp_lrows {dd : Nat → Nat → Nat} {ls : List Nat} {i l v : Nat} (h : ls[i]? = some l) (hv : v < k) : stp (lrows k dd ls) i v = ix (dd l v) ls := by
  unfold stp lrows lrow
  have e1 : (ls.map fun l => (List.range k).map fun v => ix (dd l v) ls)[i]? = some ((List.range k).map fun v => ix (dd l v) ls) := by rw [List.getElem?_map, h]; rfl
  have e2 : ((List.range k).map fun v => ix (dd l v) ls)[v]? = some (ix (dd l v) ls) := by rw [List.getElem?_map, List.getElem?_range hv]; rfl
  rw [List.getD_eq_getElem?_getD (l := ls.map _), e1]
  show (((List.range k).map fun v => ix (dd l v) ls).getD v 0) = _
  rw [List.getD_eq_getElem?_getD, e2]
  rfl
theorem least_of (T : Lots k d gl ord lo) (cl : ∀ z ∈ ord, ∀ v, v < k → d z v ∈ ord) (h0 : 0 ∈ ord) (hf : ∀ z ∈ ord, fo (lo z) ∈ ord ∧ lo (fo (lo z)) = lo z)
    (B : BInv (dl d lo fo) k (lo 0) told i 0) (hi : told.length ≤ i) :
    Least k (fun w => gl (run d 0 w)) (lrows k (dl d lo fo) (told.map (·.1))) ((List.range told.length).filter fun j => gl (fo ((told.map (·.1)).getD j 0))) := by
  generalize hls : told.map (·.1) = ls
  have hlen : (lrows k (dl d lo fo) ls).length = ls.length := by unfold lrows; simp
  have htl : told.length = ls.length := by rw [← hls]; simp
  have nd : ls.Nodup := by rw [← hls]; exact B.nd
  have ls0 : ls[0]? = some (lo 0) := by rw [← hls, List.getElem?_map, B.ne]; rfl
  have gt : ∀ (j : Nat) (p : Nat × Wd), told[j]? = some p → ls[j]? = some p.1 := fun j p h => by
    rw [← hls, List.getElem?_map, h]
    rfl
  -- every word's lot is told
  have hall : ∀ w, Ltk k w → run (dl d lo fo) (lo 0) w ∈ ls := fun w hw => by
    obtain ⟨q, hq, e, _⟩ := B.all hi w hw
    rw [← e, ← hls]
    exact List.mem_map.mpr ⟨q, hq, rfl⟩
  -- every told lot is the lot of a found standing
  have hof : ∀ l ∈ ls, ∃ w, Ltk k w ∧ run (dl d lo fo) (lo 0) w = l := fun l hl => by
    rw [← hls] at hl
    obtain ⟨q, hq, e⟩ := List.mem_map.mp hl
    obtain ⟨h1, h2⟩ := B.run q hq
    exact ⟨q.2, h1, h2.trans e⟩
  have hcl : ∀ l ∈ ls, ∀ v, v < k → dl d lo fo l v ∈ ls := fun l hl v hv => by
    obtain ⟨w, hw, e⟩ := hof l hl
    have := hall (w ++ [v]) (hw.snoc hv)
    rw [run_snoc, e] at this
    exact this
  have hord : ∀ l ∈ ls, ∃ z ∈ ord, lo z = l := fun l hl => by
    obtain ⟨w, hw, e⟩ := hof l hl
    obtain ⟨h1, h2⟩ := run_dl T cl hf h0 hw
    exact ⟨_, h2, by rw [← e, h1]⟩
  have hgl : ∀ z ∈ ord, gl (fo (lo z)) = gl z := fun z hz => T.g _ (hf z hz).1 z hz (hf z hz).2
  -- a run of the new table is the place of the lot
  have hrun : ∀ (w : Wd) (j l : Nat), Ltk k w → ls[j]? = some l → ls[run (stp (lrows k (dl d lo fo) ls)) j w]? = some (run (dl d lo fo) l w) := by
    intro w
    induction w with
    | nil => intro j l _ h; exact h
    | cons u w ih =>
      intro j l hw h
      have hu := hw u (by simp)
      have hl : l ∈ ls := List.mem_of_getElem? h
      rw [run_cons, run_cons, stp_lrows h hu]
      exact ih _ _ (fun c hc => hw c (by simp [hc])) (ix_get (hcl l hl u hu))
  have hE : ∀ j, j ∈ ((List.range told.length).filter fun j => gl (fo (ls.getD j 0))) ↔ ∃ l, ls[j]? = some l ∧ gl (fo l) = true := fun j => by
    rw [List.mem_filter, List.mem_range, htl]
    constructor
    · rintro ⟨h1, h2⟩
      refine ⟨ls[j], List.getElem?_eq_some_iff.mpr ⟨h1, rfl⟩, ?_⟩
      rw [List.getD_eq_getElem?_getD, List.getElem?_eq_getElem h1] at h2
      exact h2
    · rintro ⟨l, h1, h2⟩
      obtain ⟨h3, h4⟩ := List.getElem?_eq_some_iff.mp h1
      refine ⟨h3, ?_⟩
      rw [List.getD_eq_getElem?_getD, h1]
      exact h2
  have hacc : ∀ (w : Wd) (j z : Nat), Ltk k w → z ∈ ord → ls[j]? = some (lo z) → (run (stp (lrows k (dl d lo fo) ls)) j w ∈ ((List.range told.length).filter fun j => gl (fo (ls.getD j 0))) ↔ gl (run d z w) = true) := fun w j z hw hz hj => by
    obtain ⟨h1, h2⟩ := run_dl T cl hf hz hw
    have h3 := hrun w j _ hw hj
    rw [h1] at h3
    rw [hE]
    constructor
    · rintro ⟨l, h4, h5⟩
      rw [h3] at h4
      cases h4
      rw [← hgl _ h2]
      exact h5
    · exact fun h => ⟨_, h3, by rw [hgl _ h2]; exact h⟩
  have tabL : Tab k (lrows k (dl d lo fo) ls).length (lrows k (dl d lo fo) ls) := by
    refine ⟨rfl, by rw [hlen, ← htl]; exact B.len_pos, fun j r hr => ?_⟩
    unfold lrows at hr
    rw [List.getElem?_map] at hr
    cases q : ls[j]? with
    | none => rw [q] at hr; cases hr
    | some l =>
      rw [q] at hr
      have er : lrow k (dl d lo fo) ls l = r := Option.some.inj hr
      subst er
      refine ⟨by unfold lrow; simp, fun x hx => ?_⟩
      unfold lrow at hx
      obtain ⟨u, hu, e⟩ := List.mem_map.mp hx
      rw [← e, hlen]
      exact ix_lt (hcl l (List.mem_of_getElem? q) u (List.mem_range.mp hu))
  refine ⟨tabL, fun e he => ?_, ?_, fun w hw => ?_, fun a b ha hb h => ?_, fun a ha => ?_, fun a u ha hu y hy => ?_⟩
  · obtain ⟨l, h1, _⟩ := (hE e).mp he
    rw [hlen]
    exact (List.getElem?_eq_some_iff.mp h1).1
  · exact List.Pairwise.filter _ List.pairwise_lt_range
  · have z := hacc w 0 0 hw h0 ls0
    cases q : gl (run d 0 w) with
    | true => exact decide_eq_true (z.mpr q)
    | false =>
      refine decide_eq_false fun c => ?_
      have z2 := z.mp c
      rw [q] at z2
      exact Bool.noConfusion z2
  · rw [hlen] at ha hb
    obtain ⟨y, hy, ey⟩ := hord ls[a] (List.getElem_mem ha)
    obtain ⟨z, hz, ez⟩ := hord ls[b] (List.getElem_mem hb)
    have ja : ls[a]? = some (lo y) := List.getElem?_eq_some_iff.mpr ⟨ha, ey.symm⟩
    have jb : ls[b]? = some (lo z) := List.getElem?_eq_some_iff.mpr ⟨hb, ez.symm⟩
    have el : lo y = lo z := Classical.byContradiction fun ne => by
      obtain ⟨w, hw, hg⟩ := T.s y hy z hz ne
      have h1 := hacc w a y hw hy ja
      have h2 := hacc w b z hw hz jb
      have h3 := h w hw
      rw [h1, h2] at h3
      exact hg (Bool.eq_iff_iff.mpr h3)
    rw [← el] at jb
    exact (List.getElem?_inj ha nd).mp (ja.trans jb.symm)
  · rw [hlen] at ha
    obtain ⟨w, hw, e⟩ := hof ls[a] (List.getElem_mem ha)
    refine ⟨w, hw, ?_⟩
    have h3 := hrun w 0 _ hw ls0
    rw [e] at h3
    have hlt : run (stp (lrows k (dl d lo fo) ls)) 0 w < ls.length := (List.getElem?_eq_some_iff.mp h3).1
    exact (List.getElem?_inj hlt nd).mp (h3.trans (List.getElem?_eq_some_iff.mpr ⟨ha, rfl⟩).symm)
  · rw [hlen] at ha
    have ja : ls[a]? = some ls[a] := List.getElem?_eq_some_iff.mpr ⟨ha, rfl⟩
    rw [stp_lrows ja hu] at hy
    have hlt := Nat.lt_trans hy (ix_lt (hcl ls[a] (List.getElem_mem ha) u hu))
    have jy : told[y]? = some told[y] := List.getElem?_eq_some_iff.mpr ⟨by rw [htl]; exact hlt, rfl⟩
    have ly : ls[y]? = some (told[y]'(by rw [htl]; exact hlt)).1 := gt _ _ jy
    rcases B.bd _ (List.mem_of_getElem? jy) with e | ⟨j, u', p, hp, hu', c, e⟩
    · left
      rw [e] at ly
      exact (List.getElem?_inj hlt nd).mp (ly.trans ls0.symm)
    · right
      have lj : ls[j]? = some p.1 := gt _ _ hp
      have ey : stp (lrows k (dl d lo fo) ls) j u' = y := by
        rw [stp_lrows lj hu']
        have e1 : (told[y]'(by rw [htl]; exact hlt)).1 = dl d lo fo p.1 u' := by rw [e]
        rw [e1] at ly
        exact ix_of nd ly
      refine ⟨j, u', hu', ?_, ey⟩
      -- the cell that gives y stands ahead of the cell that gives more: its word is less
      have hj : j < ls.length := (List.getElem?_eq_some_iff.mp lj).1
      -- words of the places
      have wa : told[a]? = some (told[a]'(by rw [htl]; exact ha)) := List.getElem?_eq_some_iff.mpr ⟨by rw [htl]; exact ha, rfl⟩
      have la : (told[a]'(by rw [htl]; exact ha)).1 = ls[a] := by
        have q : ls[a]? = some (told[a]'(by rw [htl]; exact ha)).1 := gt _ _ wa
        rw [ja] at q
        exact (Option.some.inj q).symm
      obtain ⟨q, hq, e1, e2⟩ := B.cl a _ u wa hu (.inl (by rw [htl] at hi; omega))
      rw [la] at e1
      obtain ⟨x, hx, ex⟩ := List.mem_iff_getElem.mp hq
      have lx : ls[x]? = some (dl d lo fo ls[a] u) := by
        have z := gt x q (List.getElem?_eq_some_iff.mpr ⟨hx, ex⟩)
        rw [e1] at z
        exact z
      have exx : ix (dl d lo fo ls[a] u) ls = x := ix_of nd lx
      rw [exx] at hy
      have hlt2 : slt (told[y]'(by rw [htl]; exact hlt)).2 q.2 := B.lt_of_ix jy (List.getElem?_eq_some_iff.mpr ⟨hx, ex⟩) hy
      rw [e] at hlt2
      have h4 : slt (p.2 ++ [u']) ((told[a]'(by rw [htl]; exact ha)).2 ++ [u]) := slt_sle hlt2 e2
      -- so (j, u') comes ahead of (a, u)
      rcases Nat.lt_trichotomy j a with g | g | g
      · exact .inl g
      · subst g
        rw [hp] at wa
        have ep : p = (told[j]'(by rw [htl]; exact ha)) := Option.some.inj wa
        rcases Nat.lt_or_ge u' u with g' | g'
        · exact .inr ⟨rfl, g'⟩
        · exfalso
          rw [← ep] at h4
          rcases Nat.lt_or_ge u u' with g2 | g2
          · exact slt_irrefl _ (slt_trans h4 (slt_last g2))
          · have : u = u' := by omega
            subst this
            exact slt_irrefl _ h4
      · exfalso
        exact slt_irrefl _ (slt_trans h4 (slt_snoc (B.lt_of_ix wa hp g)))
end
end K18
end
section
/-! K3: contexts, their order, the search by levels. Plain Lean. -/
namespace K18
abbrev Cw := Wd × Wd
def tot (c : Cw) : Nat := c.1.length + c.2.length
def clt (c d : Cw) : Prop := tot c < tot d ∨ (tot c = tot d ∧ (slt c.1 d.1 ∨ (c.1 = d.1 ∧ slt c.2 d.2)))
def cle (c d : Cw) : Prop := clt c d ∨ c = d
theorem clt_irrefl (c : Cw) : ¬ clt c c := fun h => by
  rcases h with h | ⟨_, h | ⟨_, h⟩⟩
  · omega
  · exact slt_irrefl _ h
  · exact slt_irrefl _ h
theorem clt_trans {a b c : Cw} (h : clt a b) (h' : clt b c) : clt a c := by
  rcases h with h | ⟨e, h⟩
  · rcases h' with h' | ⟨e', _⟩
    · exact .inl (by omega)
    · exact .inl (by omega)
  · rcases h' with h' | ⟨e', h'⟩
    · exact .inl (by omega)
    · refine .inr ⟨by omega, ?_⟩
      rcases h with h | ⟨f, h⟩ <;> rcases h' with h' | ⟨f', h'⟩
      · exact .inl (slt_trans h h')
      · exact .inl (f' ▸ h)
      · exact .inl (f ▸ h')
      · exact .inr ⟨f.trans f', slt_trans h h'⟩
theorem cle_refl (c : Cw) : cle c c := .inr rfl
theorem cle_trans {a b c : Cw} (h : cle a b) (h' : cle b c) : cle a c := by
  rcases h with h | h
  · rcases h' with h' | h'
    · exact .inl (clt_trans h h')
    · exact .inl (h' ▸ h)
  · exact h ▸ h'
theorem cle_anti {a b : Cw} (h : cle a b) (h' : cle b a) : a = b := by
  rcases h with h | h
  · rcases h' with h' | h'
    · exact absurd (clt_trans h h') (clt_irrefl _)
    · exact h'.symm
  · exact h
theorem clt_tri (a b : Cw) : clt a b ∨ a = b ∨ clt b a := by
  rcases Nat.lt_trichotomy (tot a) (tot b) with h | h | h
  · exact .inl (.inl h)
  · rcases slt_tri a.1 b.1 with g | g | g
    · exact .inl (.inr ⟨h, .inl g⟩)
    · rcases slt_tri a.2 b.2 with f | f | f
      · exact .inl (.inr ⟨h, .inr ⟨g, f⟩⟩)
      · exact .inr (.inl (Prod.ext g f))
      · exact .inr (.inr (.inr ⟨h.symm, .inr ⟨g.symm, f⟩⟩))
    · exact .inr (.inr (.inr ⟨h.symm, .inl g⟩))
  · exact .inr (.inr (.inl h))
theorem not_clt {a b : Cw} (h : ¬ clt a b) : cle b a := by
  rcases clt_tri a b with g | g | g
  · exact absurd g h
  · exact .inr g.symm
  · exact .inl g
/-- least words make a least context -/
theorem cle_of {a b x y : Wd} (h : sle a b) (h' : sle x y) : cle (a, x) (b, y) := by
  have l1 := sle_len h
  have l2 := sle_len h'
  rcases Nat.lt_or_ge (a.length + x.length) (b.length + y.length) with g | g
  · exact .inl (.inl g)
  · have e : tot (a, x) = tot (b, y) := by
      show a.length + x.length = b.length + y.length
      omega
    rcases h with h | h
    · exact .inl (.inr ⟨e, .inl h⟩)
    · rcases h' with h' | h'
      · exact .inl (.inr ⟨e, .inr ⟨h, h'⟩⟩)
      · exact .inr (by rw [h, h'])
def CL (k : Nat) (c : Cw) : Prop := Ltk k c.1 ∧ Ltk k c.2
/-- the least context that has a thing -/
def LeastC (k : Nat) (P : Cw → Bool) : Option Cw → Prop
  | none => ∀ c, CL k c → P c = false
  | some c => CL k c ∧ P c = true ∧ ∀ d, CL k d → P d = true → cle c d
theorem LeastC.uniq {k : Nat} {P P' : Cw → Bool} {o o' : Option Cw} (e : ∀ c, CL k c → P c = P' c) (h : LeastC k P o) (h' : LeastC k P' o') : o = o' := by
  cases o with
  | none =>
    cases o' with
    | none => rfl
    | some d =>
      obtain ⟨h1, h2, _⟩ := h'
      have := h d h1
      rw [e d h1, h2] at this
      cases this
  | some c =>
    obtain ⟨g1, g2, g3⟩ := h
    cases o' with
    | none =>
      have := h' c g1
      rw [← e c g1, g2] at this
      cases this
    | some d =>
      obtain ⟨h1, h2, h3⟩ := h'
      exact congrArg some (cle_anti (g3 d h1 (by rw [e d h1]; exact h2)) (h3 c g1 (by rw [← e c g1]; exact g2)))

/-! ### the search by levels -/
def heads (ws : List Wd) (s : Nat) : List Cw := (ws.filter fun w => decide (w.length = s)).map fun w => (w, [])
def exts (k : Nat) (fr : List Cw) : List Cw := fr.flatMap fun e => (List.range k).map fun v => (e.1, e.2 ++ [v])
structure Hds {α : Type} (k : Nat) (pr : Cw → α) (dd : α → Nat → α) (ws : List Wd) : Prop where
  srt : ws.Pairwise slt
  ltk : ∀ w ∈ ws, Ltk k w
  cov : ∀ a, Ltk k a → ∃ w ∈ ws, sle w a ∧ pr (w, []) = pr (a, [])
  step : ∀ a t v, pr (a, t ++ [v]) = dd (pr (a, t)) v
structure SInv {α : Type} (k : Nat) (pr : Cw → α) (g : α → Bool) (ws : List Wd) (seen : List α) (here : List Cw) (s : Nat) : Prop where
  j1 : ∀ c, CL k c → tot c < s → pr c ∈ seen
  j2 : ∀ c, CL k c → tot c = s → pr c ∈ seen ∨ ∃ e ∈ here ++ heads ws s, pr e = pr c ∧ cle e c
  j3 : ∀ p ∈ seen, g p = false
  j5 : ∀ p ∈ seen, ∃ c, CL k c ∧ tot c < s ∧ pr c = p
  srt : here.Pairwise clt
  mem : ∀ e ∈ here, CL k e ∧ tot e = s ∧ e.1.length < s
section
variable {α : Type} {k : Nat} {pr : Cw → α} {dd : α → Nat → α} {g : α → Bool} {ws : List Wd} {seen : List α} {here : List Cw} {s : Nat}
theorem heads_mem {e : Cw} : e ∈ heads ws s ↔ e.1 ∈ ws ∧ e.1.length = s ∧ e.2 = [] := by
  unfold heads
  rw [List.mem_map]
  constructor
  · rintro ⟨w, hw, rfl⟩
    have := List.mem_filter.mp hw
    exact ⟨this.1, of_decide_eq_true this.2, rfl⟩
  · rintro ⟨h1, h2, h3⟩
    exact ⟨e.1, List.mem_filter.mpr ⟨h1, decide_eq_true h2⟩, Prod.ext rfl h3.symm⟩
theorem SInv.begin (D : Hds k pr dd ws) : SInv k pr g ws [] [] 0 where
  j1 := fun c _ h => by omega
  j2 := fun c hc h => by
    have h1 : c.1 = [] := List.length_eq_zero_iff.mp (by unfold tot at h; omega)
    have h2 : c.2 = [] := List.length_eq_zero_iff.mp (by unfold tot at h; omega)
    obtain ⟨w, hw, hs, hp⟩ := D.cov [] Ltk.nil
    have hw0 : w = [] := List.length_eq_zero_iff.mp (by have := sle_len hs; simpa using this)
    refine .inr ⟨(w, []), by simpa using heads_mem.mpr ⟨hw, by rw [hw0]; rfl, rfl⟩, ?_, .inr ?_⟩
    · rw [hp]
      exact congrArg pr (Prod.ext h1.symm h2.symm)
    · rw [hw0]
      exact Prod.ext h1.symm h2.symm
  j3 := fun p h => nomatch h
  j5 := fun p h => nomatch h
  srt := .nil
  mem := fun e h => nomatch h
/-- what is looked through at this level -/
theorem SInv.full (I : SInv k pr g ws seen here s) (D : Hds k pr dd ws) : (here ++ heads ws s).Pairwise clt ∧ ∀ e ∈ here ++ heads ws s, CL k e ∧ tot e = s := by
  refine ⟨List.pairwise_append.mpr ⟨I.srt, ?_, fun a ha b hb => ?_⟩, fun e he => ?_⟩
  · unfold heads
    rw [List.pairwise_map]
    refine List.Pairwise.imp_of_mem (fun {a b} ha hb h => ?_) (D.srt.filter _)
    have e1 := of_decide_eq_true (List.mem_filter.mp ha).2
    have e2 := of_decide_eq_true (List.mem_filter.mp hb).2
    exact .inr ⟨by show a.length + 0 = b.length + 0; omega, .inl h⟩
  · obtain ⟨_, h2, h3⟩ := I.mem a ha
    obtain ⟨_, h5, h6⟩ := heads_mem.mp hb
    exact .inr ⟨by unfold tot at *; rw [h6]; simp; omega, .inl (.inl (by omega))⟩
  · rcases List.mem_append.mp he with h | h
    · exact ⟨(I.mem e h).1, (I.mem e h).2.1⟩
    · obtain ⟨h1, h2, h3⟩ := heads_mem.mp h
      exact ⟨⟨D.ltk _ h1, by rw [h3]; exact Ltk.nil⟩, by unfold tot; rw [h3]; simpa using h2⟩
end
/-- the look through -/
structure Scan {α : Type} (pr : Cw → α) (g : α → Bool) (seen : List α) (full : List Cw) (i : Nat) (seen2 : List α) (fr : List Cw) : Prop where
  old : ∀ p ∈ seen, p ∈ seen2
  all : ∀ e ∈ full.take i, pr e ∈ seen ∨ ∃ e1 ∈ fr, pr e1 = pr e ∧ cle e1 e
  of : ∀ p ∈ seen2, p ∈ seen ∨ ∃ e ∈ fr, pr e = p
  fs : ∀ e ∈ fr, pr e ∈ seen2
  sub : fr.Sublist (full.take i)
  no : ∀ p ∈ seen2, g p = false
section
variable {α : Type} {k : Nat} {pr : Cw → α} {dd : α → Nat → α} {g : α → Bool} {ws : List Wd} {seen seen2 : List α} {here full fr : List Cw} {s i : Nat} {e : Cw}
theorem Scan.begin (I : SInv k pr g ws seen here s) : Scan pr g seen full 0 seen [] where
  old := fun _ h => h
  all := fun e h => by simp at h
  of := fun p h => .inl h
  fs := fun e h => nomatch h
  sub := by simp
  no := I.j3
theorem take_one {i : Nat} (h : full[i]? = some e) : full.take (i + 1) = full.take i ++ [e] := by
  rw [List.take_add_one, h]
  rfl
theorem Scan.skip (C : Scan pr g seen full i seen2 fr) (srt : full.Pairwise clt) (h : full[i]? = some e) (hs : pr e ∈ seen2) : Scan pr g seen full (i + 1) seen2 fr where
  old := C.old
  all := fun d hd => by
    rw [take_one h] at hd
    rcases List.mem_append.mp hd with hd | hd
    · exact C.all d hd
    · rw [List.mem_singleton.mp hd]
      rcases C.of _ hs with z | ⟨e1, h1, h2⟩
      · exact .inl z
      · refine .inr ⟨e1, h1, h2, ?_⟩
        obtain ⟨j, hj, ej⟩ := List.mem_iff_getElem.mp (C.sub.subset h1)
        have hj' : j < i := by rw [List.length_take] at hj; omega
        rw [List.getElem_take] at ej
        obtain ⟨hi, ei⟩ := List.getElem?_eq_some_iff.mp h
        have z := List.pairwise_iff_getElem.mp srt j i (by omega) hi hj'
        rw [ej, ei] at z
        exact .inl z
  of := C.of
  fs := C.fs
  sub := by
    rw [take_one h]
    exact C.sub.trans (List.sublist_append_left _ _)
  no := C.no
theorem Scan.add (C : Scan pr g seen full i seen2 fr) (h : full[i]? = some e) (hg : g (pr e) = false) : Scan pr g seen full (i + 1) (seen2 ++ [pr e]) (fr ++ [e]) where
  old := fun p hp => List.mem_append_left _ (C.old p hp)
  all := fun d hd => by
    rw [take_one h] at hd
    rcases List.mem_append.mp hd with hd | hd
    · rcases C.all d hd with z | ⟨e1, h1, h2⟩
      · exact .inl z
      · exact .inr ⟨e1, List.mem_append_left _ h1, h2⟩
    · rw [List.mem_singleton.mp hd]
      exact .inr ⟨e, by simp, rfl, cle_refl _⟩
  of := fun p hp => by
    rcases List.mem_append.mp hp with hp | hp
    · rcases C.of p hp with z | ⟨e1, h1, h2⟩
      · exact .inl z
      · exact .inr ⟨e1, List.mem_append_left _ h1, h2⟩
    · exact .inr ⟨e, by simp, (List.mem_singleton.mp hp).symm⟩
  fs := fun d hd => by
    rcases List.mem_append.mp hd with hd | hd
    · exact List.mem_append_left _ (C.fs d hd)
    · rw [List.mem_singleton.mp hd]
      simp
  sub := by
    rw [take_one h]
    exact C.sub.append (List.Sublist.refl _)
  no := fun p hp => by
    rcases List.mem_append.mp hp with hp | hp
    · exact C.no p hp
    · rw [List.mem_singleton.mp hp]
      exact hg
/-- a wanted pair that is new: this is the least context -/
theorem Scan.found (C : Scan pr g seen (here ++ heads ws s) i seen2 fr) (I : SInv k pr g ws seen here s) (D : Hds k pr dd ws) (h : (here ++ heads ws s)[i]? = some e) (hg : g (pr e) = true) : LeastC k (fun c => g (pr c)) (some e) := by
  obtain ⟨srt, mem⟩ := I.full D
  have he := mem e (List.mem_of_getElem? h)
  refine ⟨he.1, hg, fun d hd hgd => ?_⟩
  have hgd : g (pr d) = true := hgd
  rcases Nat.lt_trichotomy (tot d) s with q | q | q
  · have := I.j3 _ (I.j1 d hd q)
    rw [hgd] at this
    cases this
  · rcases I.j2 d hd q with z | ⟨e', h1, h2, h3⟩
    · have := I.j3 _ z
      rw [hgd] at this
      cases this
    · refine cle_trans ?_ h3
      obtain ⟨j, hj, ej⟩ := List.mem_iff_getElem.mp h1
      obtain ⟨hi, ei⟩ := List.getElem?_eq_some_iff.mp h
      rcases Nat.lt_trichotomy i j with c | c | c
      · have z := List.pairwise_iff_getElem.mp srt i j hi hj c
        rw [ei, ej] at z
        exact .inl z
      · subst c
        exact .inr (ei.symm.trans ej)
      · exfalso
        have hm : e' ∈ (here ++ heads ws s).take i := by
          rw [List.mem_iff_getElem]
          exact ⟨j, by rw [List.length_take]; omega, by rw [List.getElem_take]; exact ej⟩
        have hno : g (pr e') = false := by
          rcases C.all e' hm with z | ⟨e1, g1, g2, _⟩
          · exact I.j3 _ z
          · rw [← g2]
            exact C.no _ (C.fs e1 g1)
        rw [h2, hgd] at hno
        cases hno
  · exact .inl (.inl (by rw [he.2]; exact q))
theorem exts_mem {e : Cw} : e ∈ exts k fr ↔ ∃ d ∈ fr, ∃ v, v < k ∧ e = (d.1, d.2 ++ [v]) := by
  unfold exts
  rw [List.mem_flatMap]
  constructor
  · rintro ⟨d, hd, h⟩
    obtain ⟨v, hv, e⟩ := List.mem_map.mp h
    exact ⟨d, hd, v, List.mem_range.mp hv, e.symm⟩
  · rintro ⟨d, hd, v, hv, e⟩
    exact ⟨d, hd, List.mem_map.mpr ⟨v, List.mem_range.mpr hv, e.symm⟩⟩
theorem clt_ext {c d : Cw} {u v : Nat} (h : clt c d) (e : tot c = tot d) : clt (c.1, c.2 ++ [u]) (d.1, d.2 ++ [v]) := by
  rcases h with h | ⟨_, h⟩
  · omega
  · refine .inr ⟨by unfold tot at *; simp; omega, ?_⟩
    rcases h with h | ⟨f, h⟩
    · exact .inl h
    · exact .inr ⟨f, slt_snoc h⟩
theorem exts_srt (k : Nat) {fr : List Cw} (srt : fr.Pairwise clt) (ht : ∀ e ∈ fr, tot e = s) : (exts k fr).Pairwise clt := by
  induction fr with
  | nil => exact .nil
  | cons d fr ih =>
    obtain ⟨h1, h2⟩ := List.pairwise_cons.mp srt
    show (((List.range k).map fun v => (d.1, d.2 ++ [v])) ++ exts k fr).Pairwise clt
    refine List.pairwise_append.mpr ⟨?_, ih h2 fun e he => ht e (by simp [he]), fun a ha b hb => ?_⟩
    · rw [List.pairwise_map]
      exact List.Pairwise.imp (fun {u v} h => .inr ⟨by unfold tot; simp, .inr ⟨rfl, slt_last h⟩⟩) List.pairwise_lt_range
    · obtain ⟨v, _, rfl⟩ := List.mem_map.mp ha
      obtain ⟨e, he, u, _, rfl⟩ := exts_mem.mp hb
      exact clt_ext (h1 e he) (by rw [ht d (by simp), ht e (by simp [he])])
theorem Scan.next (C : Scan pr g seen (here ++ heads ws s) i seen2 fr) (hi : (here ++ heads ws s).length ≤ i) (I : SInv k pr g ws seen here s) (D : Hds k pr dd ws) : SInv k pr g ws seen2 (exts k fr) (s + 1) := by
  obtain ⟨srt, mem⟩ := I.full D
  have C1 := C.all
  have C2 := C.sub
  rw [List.take_of_length_le hi] at C1 C2
  have frm : ∀ e ∈ fr, CL k e ∧ tot e = s := fun e he => mem e (C2.subset he)
  have at_s : ∀ c, CL k c → tot c = s → pr c ∈ seen ∨ ∃ e1 ∈ fr, pr e1 = pr c ∧ cle e1 c := fun c hc hs => by
    rcases I.j2 c hc hs with z | ⟨e, h1, h2, h3⟩
    · exact .inl z
    · rcases C1 e h1 with z | ⟨e1, g1, g2, g3⟩
      · exact .inl (by rw [← h2]; exact z)
      · exact .inr ⟨e1, g1, g2.trans h2, cle_trans g3 h3⟩
  have j1' : ∀ c, CL k c → tot c < s + 1 → pr c ∈ seen2 := fun c hc hs => by
    rcases Nat.lt_or_ge (tot c) s with q | q
    · exact C.old _ (I.j1 c hc q)
    · rcases at_s c hc (by omega) with z | ⟨e1, g1, g2, _⟩
      · exact C.old _ z
      · rw [← g2]
        exact C.fs e1 g1
  refine ⟨j1', fun c hc hs => ?_, C.no, fun p hp => ?_, exts_srt k (List.Pairwise.sublist C2 srt) fun e he => (frm e he).2, fun e he => ?_⟩
  · obtain ⟨a, t⟩ := c
    rcases snoc_cases t with ht | ⟨t', v, ht⟩
    · subst ht
      obtain ⟨w, hw, hle, hp⟩ := D.cov a hc.1
      rcases Nat.lt_or_ge w.length (s + 1) with q | q
      · left
        rw [← hp]
        exact j1' (w, []) ⟨D.ltk w hw, Ltk.nil⟩ (by unfold tot; simpa using q)
      · right
        have hl := sle_len hle
        have hs' : a.length = s + 1 := by unfold tot at hs; simpa using hs
        exact ⟨(w, []), List.mem_append_right _ (heads_mem.mpr ⟨hw, by show w.length = s + 1; omega, rfl⟩), hp, cle_of hle (sle_refl _)⟩
    · subst ht
      have hv : v < k := hc.2 v (by simp)
      have hc' : CL k (a, t') := ⟨hc.1, hc.2.left⟩
      have hs' : tot (a, t') = s := by unfold tot at *; simp at hs; simp; omega
      rcases at_s (a, t') hc' hs' with z | ⟨e1, g1, g2, g3⟩
      · left
        obtain ⟨c0, h1, h2, h3⟩ := I.j5 _ z
        have : pr (a, t' ++ [v]) = pr (c0.1, c0.2 ++ [v]) := by
          rw [D.step, D.step, ← h3]
        rw [this]
        exact j1' _ ⟨h1.1, h1.2.snoc hv⟩ (by unfold tot at *; simp; omega)
      · right
        refine ⟨(e1.1, e1.2 ++ [v]), List.mem_append_left _ (exts_mem.mpr ⟨e1, g1, v, hv, rfl⟩), ?_, ?_⟩
        · rw [D.step, D.step]
          exact congrArg (fun x => dd x v) g2
        · rcases g3 with g3 | g3
          · exact .inl (clt_ext g3 ((frm e1 g1).2.trans hs'.symm))
          · exact .inr (by rw [g3])
  · rcases C.of p hp with z | ⟨e, he, h⟩
    · obtain ⟨c, h1, h2, h3⟩ := I.j5 p z
      exact ⟨c, h1, by omega, h3⟩
    · exact ⟨e, (frm e he).1, by have := (frm e he).2; omega, h⟩
  · obtain ⟨d, hd, v, hv, rfl⟩ := exts_mem.mp he
    obtain ⟨h1, h2⟩ := frm d hd
    refine ⟨⟨h1.1, h1.2.snoc hv⟩, by unfold tot at *; simp; omega, ?_⟩
    unfold tot at h2
    show d.1.length < s + 1
    omega
/-- nothing left: there is none -/
theorem SInv.stop (I : SInv k pr g ws seen [] s) (D : Hds k pr dd ws) (hl : ∀ w ∈ ws, w.length < s) : LeastC k (fun c => g (pr c)) none := by
  have hh : heads ws s = [] := List.eq_nil_iff_forall_not_mem.mpr fun e he => by
    obtain ⟨h1, h2, _⟩ := heads_mem.mp he
    have := hl _ h1
    omega
  have key : ∀ n c, tot c = n → CL k c → pr c ∈ seen := by
    intro n
    induction n using Nat.strongRecOn with
    | ind n ih =>
      intro c hn hc
      obtain ⟨a, t⟩ := c
      rcases snoc_cases t with ht | ⟨t', v, ht⟩
      · subst ht
        obtain ⟨w, hw, hle, hp⟩ := D.cov a hc.1
        rw [← hp]
        exact I.j1 (w, []) ⟨D.ltk w hw, Ltk.nil⟩ (by unfold tot; simpa using hl w hw)
      · subst ht
        have hv : v < k := hc.2 v (by simp)
        have z := ih (tot (a, t')) (by unfold tot at *; simp at hn; simp; omega) (a, t') rfl ⟨hc.1, hc.2.left⟩
        obtain ⟨c0, h1, h2, h3⟩ := I.j5 _ z
        have e : pr (a, t' ++ [v]) = pr (c0.1, c0.2 ++ [v]) := by
          rw [D.step, D.step, ← h3]
        rw [e]
        have hc1 : CL k (c0.1, c0.2 ++ [v]) := ⟨h1.1, h1.2.snoc hv⟩
        have ht1 : tot (c0.1, c0.2 ++ [v]) = tot c0 + 1 := by unfold tot; simp; omega
        rcases Nat.lt_or_ge (tot c0 + 1) s with q | q
        · exact I.j1 _ hc1 (by omega)
        · rcases I.j2 _ hc1 (by omega) with z | ⟨e, h1, _⟩
          · exact z
          · rw [hh] at h1
            simp at h1
  exact fun c hc => I.j3 _ (key _ c rfl hc)
end
end K18
end
section
set_option maxRecDepth 100000
set_option maxHeartbeats 0
namespace K18
open PySem PySem.Spec PyProof.Rows L2
def top (i : Nat) : Stmt := PySem.Challenge.pw_handcarried_k18_whole_contexts.main.body.getD i (.Pass ⟨0, 0, 0, 0⟩)
/-! ### the head -/
def dd (i : Nat) (x : Str) : He.DefD := ⟨(x, none), x, x, defArgs (top i), defBody (top i), defScope (top i), [], []⟩
def dm (i j : Nat) (c m q : Str) (dfl : List He.Dv := []) : He.DefD := ⟨(c, some m), m, q, defArgs (inClass (top i) j), defBody (inClass (top i) j), defScope (inClass (top i) j), dfl, []⟩
def fn1 : List He.DefD := [dd 12 "is_integer", dd 13 "deep", dd 14 "is_tuple", dd 15 "made_of", dd 16 "ascending", dd 17 "is_signs", dd 18 "check_signs_of", dd 19 "check_paper", dd 20 "values_of",
  dd 22 "least_papers", dd 23 "goes_on", dd 24 "least_context", dd 27 "sign_classes", dd 30 "found_order", dd 31 "lots_alike", dd 32 "least_form", dd 35 "is_rows", dd 36 "is_goals",
  dm 25 0 "Blind" "__init__" "Blind.__init__", dm 25 1 "Blind" "__bool__" "Blind.__bool__", dm 26 0 "Seeing" "__init__" "Seeing.__init__", dm 26 1 "Seeing" "__bool__" "Seeing.__bool__",
  dm 39 0 "Walk" "__init__" "Walk.__init__", dm 39 3 "Walk" "standing" "Walk.standing" [.int 0], dm 39 4 "Walk" "reached" "Walk.reached", dm 39 8 "Walk" "__len__" "Walk.__len__"]
def fn2 : List He.DefD := [dd 41 "_law_bag_of", dd 42 "_law_pick", dd 43 "_law_one_of", dd 44 "_law_mixed", dd 45 "_law_signs_of", dd 46 "_law_paper_of", dd 47 "_law_papers_of", dd 48 "_law_longer", dd 49 "_law_sum",
  dd 50 "_law_rows_of", dd 51 "_law_goals", dd 52 "_law_led", dd 53 "_law_listed", dd 54 "_law_no_list", dd 55 "_law_same_tuple", dd 56 "_law_chain", dd 57 "_law_sum_rows", dd 58 "_law_dressed", dd 59 "_law_drawn_walk",
  dd 60 "_law_alike_papers", dd 61 "_law_two_papers", dd 62 "_law_aheads", dd 63 "_law_after_of", dd 64 "_law_context", dd 65 "_law_told_of", dd 66 "_law_asked", dd 67 "_law_refused", dd 68 "_law_refusals", dd 69 "law"]
def fn : List He.DefD := fn1 ++ fn2
def fa1 : List He.Fa := [.glo "is_integer", .glo "deep", .glo "is_tuple", .glo "made_of", .glo "ascending", .glo "is_signs", .glo "check_signs_of", .glo "check_paper", .glo "values_of",
  .glo "least_papers", .glo "goes_on", .glo "least_context", .glo "sign_classes", .glo "found_order", .glo "lots_alike", .glo "least_form", .glo "is_rows", .glo "is_goals",
  .glo "Blind", .glo "Seeing", .glo "Walk", .glo "BadPaper", .glo "CarryError", .glo "Malformed"]
def fa2 : List He.Fa := [.glo "_law_bag_of", .glo "_law_pick", .glo "_law_one_of", .glo "_law_mixed", .glo "_law_signs_of", .glo "_law_paper_of", .glo "_law_papers_of", .glo "_law_longer", .glo "_law_sum",
  .glo "_law_rows_of", .glo "_law_goals", .glo "_law_led", .glo "_law_listed", .glo "_law_no_list", .glo "_law_same_tuple", .glo "_law_chain", .glo "_law_sum_rows", .glo "_law_dressed", .glo "_law_drawn_walk",
  .glo "_law_alike_papers", .glo "_law_two_papers", .glo "_law_aheads", .glo "_law_after_of", .glo "_law_context", .glo "_law_told_of", .glo "_law_asked", .glo "_law_refused", .glo "_law_refusals", .glo "law"]
def fa3 : List He.Fa := [.free "len", .free "isinstance", .free "int", .free "bool", .free "list", .free "tuple", .free "str", .free "all", .free "max", .free "min", .free "range", .free "sum", .free "abs", .free "repr", .free "ValueError", .free "super",
  .str "SIGNS" "0123456789ABCDEFGHIJKLMNOPQRSTUVWXYZ", .int "MOST_SIGNS" 60, .int "MOST_STANDINGS" 150]
def fa4 : List He.Fa := [.cls "Blind", .cls "Seeing", .cls "Walk", .mkr "Blind", .mkr "Seeing", .mkr "Walk", .noat "Blind" "context", .noat "Seeing" "context", .noat "Walk" "signs", .noat "Walk" "rows", .noat "Walk" "goals",
  .meth "Blind" "__bool__", .meth "Seeing" "__bool__", .meth "Walk" "standing", .meth "Walk" "reached", .meth "Walk" "__len__", .exm "BadPaper" "CarryError" true]
def fa : List He.Fa := fa1 ++ fa2 ++ fa3 ++ fa4
abbrev R : PySem.W.OpenRow := PySem.W.OpenLaw.row PySem.Challenge.rw_handcarried_k18_whole_contexts
abbrev hk : PySem.W.Hook := He.hookD 6 fa fn
def ob (s : PySem.W.SharedT) : He.AlD := He.obsDG 6 fa fn (HandSHeadRun.getT s)
theorem ob_eq (s : PySem.W.SharedT) : ob s = hk.obs s.abs := He.obsDG_eq (HandSHeadRun.getT_eq s)
def ls1 : List PySem.Str := ["_wall", "__name__", "CarryError", "Malformed", "BadSigns", "BadPaper", "BadWalk", "TooMany", "Unlike", "SIGNS", "MOST_SIGNS", "is_integer", "deep", "is_tuple", "made_of", "ascending"]
def ls2 : List PySem.Str := ["is_signs", "check_signs_of", "check_paper", "values_of", "least_papers", "goes_on", "least_context", "Blind", "Seeing", "sign_classes", "MOST_STANDINGS", "found_order", "lots_alike", "least_form", "product_of", "is_rows"]
def ls3 : List PySem.Str := ["is_goals", "walk_from", "put_together", "Walk", "_law_bag_of", "_law_pick", "_law_one_of", "_law_mixed", "_law_signs_of", "_law_paper_of", "_law_papers_of", "_law_longer", "_law_sum", "_law_rows_of", "_law_goals", "_law_led"]
def ls4 : List PySem.Str := ["_law_listed", "_law_no_list", "_law_same_tuple", "_law_chain", "_law_sum_rows", "_law_dressed", "_law_drawn_walk", "_law_alike_papers", "_law_two_papers", "_law_aheads", "_law_after_of", "_law_context", "_law_told_of", "_law_asked", "_law_refused", "_law_refusals"]
def ls : List PySem.Str := ls1 ++ ls2 ++ ls3 ++ ls4
end K18
end
section
set_option maxRecDepth 100000
set_option maxHeartbeats 0
namespace K18
open PySem PySem.Spec PyProof.Rows L2
/-! ### the head, further: an own error whose __init__ calls super().__init__ -/
abbrev PW : Program := PySem.Challenge.pw_handcarried_k18_whole_contexts
abbrev bpC (K : PySem.W.Frag) : Addr := He.ga K "BadPaper"
abbrev bpI (K : PySem.W.Frag) : Addr := He.ma K (He.ga K "BadPaper") "__init__"
def bpCell (K : PySem.W.Frag) : Addr := match K.lookup (bpI K) with
  | some ⟨_, _, .func fd, _⟩ => (match fd.closure with | [(_, cc)] => cc | _ => 0)
  | _ => 0
def bpCode (K : PySem.W.Frag) : Addr := match K.lookup (bpI K) with
  | some ⟨_, _, .func fd, _⟩ => (match fd.code with | .ref c => c | _ => 0)
  | _ => 0
def fileB : List Value → Bool
  | _ :: _ :: .str file _ :: _ => ((PW.main.file : Str) == file)
  | _ => false
def isRef : Value → Bool
  | .ref _ => true
  | _ => false
abbrev BpV : Type := Option (Str × Str × Arguments × FuncBody × Scope × Addr × List Str × Value × Addr)
def bpObs (K : PySem.W.Frag) : BpV := match K.lookup (bpI K) with
  | some ⟨_, _, .func fd, _⟩ => some (fd.name, fd.qualname, fd.params, fd.body, fd.scope, fd.globals, fd.closure.map (·.1), fd.defaults, fd.builtins)
  | _ => none
abbrev sBP : Stmt := inClass (top 5) 0
def bpVal : BpV := some ("__init__", "BadPaper.__init__", defArgs sBP, .stmts (defBody sBP), defScope sBP, mainGlobals, ["__class__"], .none, builtinsNs)
def bpB1 : List (PySem.W.Frag → Bool) := [
  fun K => PySem.W.excInitIn K (bpC K) PySem.HandSPX.veTail "ValueError.__new__",
  fun K => (match PySem.W.clsIn K (bpC K) with | some cd => PySem.HandSPX.refsVE cd.mro && cd.hasDict | none => false),
  fun K => He.eqO (PySem.W.findIn K (.ref (bpC K)) "__setattr__") (some (some (.builtin "object.__setattr__"))),
  fun K => He.eqO (PySem.W.findIn K (.ref (bpC K)) "__getattribute__") (some (some (.builtin "BaseException.__getattribute__"))),
  fun K => He.eqO (PySem.W.findIn K (.ref (bpC K)) "__getattr__") (some none),
  fun K => He.eqO (PySem.W.findIn K (.ref (bpC K)) "paper") (some none),
  fun K => He.eqO (PySem.W.findIn K (.ref (bpC K)) "__init__") (some (some (.ref (bpI K)))),
  fun K => decide (PySem.W.typeIn K (.ref (bpI K)) = some (.type "function")),
  fun K => PySem.W.keepIn K (.ref (bpC K)),
  fun K => decide (PySem.W.subIn K (.ref (bpC K)) (.type "BaseException") = some true),
  fun K => decide (PySem.W.typeIn K (.ref (bpC K)) = some (.type "type")),
  fun K => PySem.W.hasDictIn K (bpC K)]
def bpB2 : List (PySem.W.Frag → Bool) := [
  fun K => He.eqO (PySem.W.findIn K (.ref (bpC K)) "__class__") (some (some (.builtin "object.__class__"))),
  fun K => decide (PySem.W.specialIn K (.builtin "object.__class__") "__get__" = some (some (.builtin "getset_descriptor.__get__"))),
  fun K => decide (PySem.W.takesIn K (.builtin "object.__class__") = some true),
  fun K => decide (PySem.W.mroIn K (bpC K) (.type "object") = some true),
  fun K => decide (PySem.W.kitOne K (.ref (bpC K)) (.ref (bpC K)) = some true),
  fun K => decide (PySem.W.kitOne K (.ref (bpC K)) (.ref (He.ga K "Malformed")) = some true),
  fun K => decide (PySem.W.kitOne K (.ref (bpC K)) (.type "ValueError") = some true),
  fun K => decide (PySem.W.mroIn K (bpC K) (.ref (bpC K)) = some true),
  fun K => He.eqO (PySem.W.ks_superIn K (bpC K) (bpC K) "__init__") (some (some (.builtin "ValueError.__init__"))),
  fun K => He.eqO (PySem.W.nsIn K cStatics "thirdparty.any") (some none),
  fun K => decide (PySem.W.subIn K (.ref (bpC K)) (.type "ValueError") = some true)]
def bpB3 : List (PySem.W.Frag → Bool) := [
  fun K => PySem.W.codeIn K (.ref (bpCode K)) "BadPaper.__init__",
  fun K => (match K.lookup (bpI K) with | some ⟨_, _, .func fd, _⟩ => isRef fd.code | _ => false),
  fun K => (match K.lookup (bpCode K) with | some ⟨_, _, .fields vs, _⟩ => fileB (vs.toList) | _ => false),
  fun K => (match K.lookup (bpCell K) with | some ⟨_, _, .cell (some (.ref D)), _⟩ => Nat.beq D (bpC K) | _ => false),
  fun K => decide (PySem.W.exmOne K (.ref (bpC K)) (.ref (He.ga K "CarryError")) = some true)]
def bpB : List (PySem.W.Frag → Bool) := bpB1 ++ (bpB2 ++ bpB3)
abbrev AlB : Type := He.AlD × (BpV × Bool)
def frB (g : Addr → Option Obj) : PySem.W.Frag := He.frG g (cStatics :: He.asD g 4)
def obsB (g : Addr → Option Obj) : AlB := (He.obsD fa fn (frB g), bpObs (frB g), bpB.all fun f => f (frB g))
def valB : AlB := (He.valD fn, bpVal, true)
def SaysB (K : PySem.W.Frag) : Prop := He.SaysD fa fn K ∧ bpObs K = bpVal ∧ (bpB.all fun f => f K) = true
def hkB : PySem.W.Hook where
  α := AlB
  obs := fun s => obsB s.heap.get?
  val := fun _ => valB
  says := fun _ h => ∃ K : PySem.W.Frag, K.In h ∧ SaysB K
  of := fun _ _ e => ⟨_, He.frG_in, congrArg (fun z : AlB => z.1) e, congrArg (fun z : AlB => z.2.1) e, congrArg (fun z : AlB => z.2.2) e⟩
  keeps := fun _ _ _ ⟨K, hK, c⟩ k => ⟨K, PySem.W.Frag.In.keeps hK k, c⟩
def obB (s : PySem.W.SharedT) : AlB := obsB (HandSHeadRun.getT s)
theorem obB_eq (s : PySem.W.SharedT) : obB s = hkB.obs s.abs := by
  have e : HandSHeadRun.getT s = s.abs.heap.get? := funext fun a => HandSHeadRun.getT_eq s a
  show obsB (HandSHeadRun.getT s) = obsB s.abs.heap.get?
  rw [e]
end K18
end
section
set_option maxRecDepth 100000
set_option maxHeartbeats 0
namespace K18
open PySem PySem.Spec PyProof.Rows L2
/-- the run of the top; what is looked at behind it is told in two theorems: less memory at a time -/
noncomputable abbrev endB (w : World) (os : OsState) : Option PySem.W.SharedT := HandSHeadRun.endF (HandSHeadRun.stepQ (HandSHeadRun.denQ HandSHeadRun.tabQ) R.prog w) 20000 R.prog w os
theorem runB1 (w : World) (os : OsState) : (endB w os).map (fun s => (HandSHeadRun.looksF R.prog (PySem.W.boot_heap w.params) s.abs, HandSHeadRun.seenQ (PySem.W.view R.prog [69]) ls (PySem.importedModules R.prog.main.body) (fun s => PySem.W.xlAt (PySem.W.view R.prog [69]) [] s && PySem.W.recOk R.toRowW.records s) s.abs)) = some (true, PySem.W.openGood (PySem.W.view R.prog [69]) ls) := by kernel_rfl
theorem runB2 (w : World) (os : OsState) : (endB w os).map obB = some (hkB.val w) := by kernel_rfl
theorem two_looks {A B C D : Type} {e : Option A} {f : A → B} {g : A → C} {h : A → D} {b : B} {c : C} {d : D} (p : e.map (fun s => (f s, g s)) = some (b, c)) (q : e.map h = some d) : e.map (fun s => (f s, g s, h s)) = some (b, c, d) := by
  cases e with
  | none => cases p
  | some s =>
    simp only [Option.map_some, Option.some.injEq, Prod.mk.injEq] at p q ⊢
    exact ⟨p.1, p.2, q⟩
theorem runB (w : World) : HandSHeadRun.RunEq R (PySem.W.view R.prog [69]) hkB obB 20000 ls w := fun os => two_looks (runB1 w os) (runB2 w os)
end K18
end
section
set_option maxRecDepth 100000
set_option maxHeartbeats 0
open PySem PySem.W PySem.Calls PyProof.Rows
theorem K18.headB (hc : PySem.W.WalkO (view (OpenLaw.row PySem.Challenge.rw_handcarried_k18_whole_contexts).prog [69]) K18.ls (PySem.W.XL (view (OpenLaw.row PySem.Challenge.rw_handcarried_k18_whole_contexts).prog [69]) []) K18.hkB.says
      (OpenLaw.row PySem.Challenge.rw_handcarried_k18_whole_contexts).toRowW (HandSHeadRun.topDef (OpenLaw.row PySem.Challenge.rw_handcarried_k18_whole_contexts).prog 69) [] fun f vs => PySem.call f vs) :
    PySem.Challenge.rw_handcarried_k18_whole_contexts.Holds := by
  w_on; o_law
  refine HandSHeadRun.head_any (r := OpenLaw.row PySem.Challenge.rw_handcarried_k18_whole_contexts) (q := view (OpenLaw.row PySem.Challenge.rw_handcarried_k18_whole_contexts).prog [69]) (H := K18.hkB) (ob := K18.obB) (M := 20000) (loose := K18.ls) (d := HandSHeadRun.topDef (OpenLaw.row PySem.Challenge.rw_handcarried_k18_whole_contexts).prog 69) (kwd := []) K18.obB_eq
    (by kernel_rfl) (fun s => by kernel_rfl) K18.runB (by kernel_rfl) (by kernel_rfl) (by kernel_rfl) (by rfl) (by first | assumption | decide +kernel) (by decide +kernel) ⟨rfl, rfl, rfl, rfl, rfl, by decide +kernel⟩ ?hw hc
  case hw => w_witness2
end
section
set_option maxRecDepth 100000
set_option maxHeartbeats 4000000
/-! XE: an own error BadPaper(paper) whose __init__ is super().__init__(text); self.paper = paper. -/
namespace K18
open PySem PySem.Spec PyProof.Rows L2
/-- what the written part says of BadPaper -/
structure Bp (P : Program) (K : PySem.W.Frag) : Prop where
  ini : PySem.W.excInitIn K (bpC K) PySem.HandSPX.veTail "ValueError.__new__" = true
  mro : ∃ cd, PySem.W.clsIn K (bpC K) = some cd ∧ PySem.HandSPX.refsVE cd.mro = true ∧ cd.hasDict = true
  sa : PySem.W.findIn K (.ref (bpC K)) "__setattr__" = some (some (.builtin "object.__setattr__"))
  ga : PySem.W.findIn K (.ref (bpC K)) "__getattribute__" = some (some (.builtin "BaseException.__getattribute__"))
  gg : PySem.W.findIn K (.ref (bpC K)) "__getattr__" = some none
  noN : PySem.W.findIn K (.ref (bpC K)) "paper" = some none
  iC : PySem.W.findIn K (.ref (bpC K)) "__init__" = some (some (.ref (bpI K)))
  tC : PySem.W.typeIn K (.ref (bpI K)) = some (.type "function")
  kC : PySem.W.keepIn K (.ref (bpC K)) = true
  exC : PySem.W.subIn K (.ref (bpC K)) (.type "BaseException") = some true
  tyC : PySem.W.typeIn K (.ref (bpC K)) = some (.type "type")
  hdC : PySem.W.hasDictIn K (bpC K) = true
  is : ExcC K (bpC K)
  k1 : PySem.W.kitOne K (.ref (bpC K)) (.ref (bpC K)) = some true
  k2 : PySem.W.kitOne K (.ref (bpC K)) (.ref (He.ga K "Malformed")) = some true
  k3 : PySem.W.kitOne K (.ref (bpC K)) (.type "ValueError") = some true
  self : PySem.W.mroIn K (bpC K) (.ref (bpC K)) = some true
  sup : PySem.W.ks_superIn K (bpC K) (bpC K) "__init__" = some (some (.builtin "ValueError.__init__"))
  opq : PySem.W.nsIn K cStatics "thirdparty.any" = some none
  ve : PySem.W.subIn K (.ref (bpC K)) (.type "ValueError") = some true
  te : PySem.W.exmOne K (.ref (bpC K)) (.ref (He.ga K "CarryError")) = some true
  fn : ∃ (oc : Value) (od : Option Addr) (kV doc pm : Value) (an : Option Addr) (cda : Addr) (ct : Value) (osl : Array (Option Value)) (cc : Addr), K.lookup (bpI K) = some ⟨oc, od, .func (PySem.W.ksFn "__init__" "BadPaper.__init__" (defArgs sBP) (defBody sBP) (defScope sBP) .none kV doc pm an (.ref cda) ct cc), osl⟩ ∧
    PySem.W.codeIn K (.ref cda) "BadPaper.__init__" = true ∧
    (∃ (ccl : Value) (cdd : Option Addr) (vs : Array Value) (ccs : Array (Option Value)) (file : Str) (tf : Tok), K.lookup cda = some ⟨ccl, cdd, .fields vs, ccs⟩ ∧ vs[2]? = some (.str file tf) ∧ ((P.main.file : Str) == file) = true) ∧
    ∃ (cl : Value) (cld : Option Addr) (csl : Array (Option Value)), K.lookup cc = some ⟨cl, cld, .cell (some (.ref (bpC K))), csl⟩
  top : (P.main.scope.names.lookup ("super" : Str)).isSome = false
theorem dec_ok {p : Prop} [Decidable p] (h : decide p = true) : p := of_decide_eq_true h
theorem bpCode_of {K : PySem.W.Frag} {oc : Value} {od : Option Addr} {fd : FuncData} {osl : Array (Option Value)} {c : Addr} (q : K.lookup (bpI K) = some ⟨oc, od, .func fd, osl⟩) (e : fd.code = .ref c) : bpCode K = c := by
  unfold bpCode
  rw [q]
  show (match fd.code with | .ref c => c | _ => 0) = c
  rw [e]
theorem bpCell_of {K : PySem.W.Frag} {oc : Value} {od : Option Addr} {fd : FuncData} {osl : Array (Option Value)} {x : Str} {c : Addr} (q : K.lookup (bpI K) = some ⟨oc, od, .func fd, osl⟩) (e : fd.closure = [(x, c)]) : bpCell K = c := by
  unfold bpCell
  rw [q]
  show (match fd.closure with | [(_, cc)] => cc | _ => 0) = c
  rw [e]
theorem bp_of {K : PySem.W.Frag} (h : SaysB K) : Bp PW K := by
  obtain ⟨_, hv, hb⟩ := h
  have f : ∀ (i : Nat) {g : PySem.W.Frag → Bool}, bpB[i]? = some g → g K = true := fun i g e => List.all_eq_true.mp hb g (List.mem_of_getElem? e)
  have m1 := f 1 rfl
  have c1 := f 24 rfl
  have c2 := f 25 rfl
  have c3 := f 26 rfl
  have c0 := f 23 rfl
  refine ⟨f 0 rfl, ?_, He.eqO_ok (f 2 rfl), He.eqO_ok (f 3 rfl), He.eqO_ok (f 4 rfl), He.eqO_ok (f 5 rfl), He.eqO_ok (f 6 rfl), dec_ok (f 7 rfl), f 8 rfl, dec_ok (f 9 rfl), dec_ok (f 10 rfl), f 11 rfl,
    ⟨He.eqO_ok (f 3 rfl), He.eqO_ok (f 4 rfl), dec_ok (f 9 rfl), f 11 rfl, He.eqO_ok (f 12 rfl), dec_ok (f 13 rfl), dec_ok (f 14 rfl), dec_ok (f 15 rfl)⟩, dec_ok (f 16 rfl), dec_ok (f 17 rfl), dec_ok (f 18 rfl), dec_ok (f 19 rfl), He.eqO_ok (f 20 rfl), He.eqO_ok (f 21 rfl), dec_ok (f 22 rfl), dec_ok (f 27 rfl), ?_, by decide +kernel⟩
  · cases e : PySem.W.clsIn K (bpC K) with
    | none =>
      simp only [e] at m1
      cases m1
    | some cd =>
      simp only [e] at m1
      obtain ⟨h1, h2⟩ := Bool.and_eq_true_iff.mp m1
      exact ⟨cd, rfl, h1, h2⟩
  · unfold bpObs at hv
    cases q : K.lookup (bpI K) with
    | none =>
      simp only [q] at c1
      cases c1
    | some o =>
      obtain ⟨oc, od, dt, osl⟩ := o
      simp only [q] at c1 hv
      cases dt with
      | func fd =>
        obtain ⟨n1, n2, n3, n4, n5, n6, n7, n8, n9, n10, n11, n12, n13, n14, n15⟩ := fd
        have e2 : (some (n1, n2, n3, n4, n5, n6, n7.map (·.1), n8, n15) : BpV) = bpVal := hv
        unfold bpVal at e2
        simp only [Option.some.injEq, Prod.mk.injEq] at e2
        obtain ⟨h1, h2, h3, h4, h5, h6, h7, h8, h9⟩ := e2
        have c1' : isRef n13 = true := c1
        cases n13 with
        | ref cda =>
          match n7, h7 with
          | [(x, cc)], h7 =>
            have hx : x = "__class__" := (List.cons.inj h7).1
            subst h1 h2 h3 h4 h5 h6 h8 h9 hx
            have qc' : bpCode K = cda := bpCode_of q rfl
            have ql' : bpCell K = cc := bpCell_of q rfl
            rw [qc'] at c0 c2
            rw [ql'] at c3
            refine ⟨oc, od, n9, n10, n11, n12, cda, n14, osl, cc, rfl, c0, ?_, ?_⟩
            · cases q2 : K.lookup cda with
              | none =>
                simp only [q2] at c2
                cases c2
              | some o2 =>
                obtain ⟨a1, a2, dt2, a4⟩ := o2
                simp only [q2] at c2
                cases dt2 with
                | fields vs =>
                  have c2' : fileB vs.toList = true := c2
                  obtain ⟨l⟩ := vs
                  match l, c2' with
                  | _ :: _ :: .str file tf :: r, c2' => exact ⟨a1, a2, _, a4, file, tf, rfl, rfl, c2'⟩
                | _ => cases c2
            · cases q2 : K.lookup cc with
              | none =>
                simp only [q2] at c3
                cases c3
              | some o2 =>
                obtain ⟨a1, a2, dt2, a4⟩ := o2
                simp only [q2] at c3
                cases dt2 with
                | cell v =>
                  cases v with
                  | none => cases c3
                  | some v =>
                    cases v with
                    | ref D =>
                      have : Nat.beq D (bpC K) = true := c3
                      rw [Nat.eq_of_beq_eq_true this]
                      exact ⟨a1, a2, a4, rfl⟩
                    | _ => cases c3
                | _ => cases c3
        | _ => cases c1'
      | _ => cases c1
end K18
end
section
set_option maxRecDepth 100000
set_option maxHeartbeats 4000000
/-! XF: BadPaper(paper) made and raised. -/
namespace K18
open PySem PySem.Spec PyProof.Rows PySem.Calls PySem.W PySem.HandSPX
/-! ### the text of __init__ -/
def eA (p1 p2 : Pos) : Arguments := { posonlyargs := [], args := [{ arg := "self", annotation := none, pos := p1 }, { arg := "paper", annotation := none, pos := p2 }], vararg := none, kwonlyargs := [], kw_defaults := [], kwarg := none, defaults := [] }
def eB (z : Str) (j : Nat) (q1 q4 q6 q7 q8 q9 q10 : Pos) : List Stmt := [.Expr (.Call (.Attribute (.Call (.Name "super" q1) [] [] ⟨17, 8, 17, 15⟩) "__init__" ⟨17, 8, 17, 24⟩) [.Constant (.str z) j q4] [] ⟨17, 8, 17, 44⟩) q6, .Assign [.Attribute (.Name "self" q7) "paper" q8] (.Name "paper" q9) q10]
def eS : Scope := { kind := .function, names := [(PySem.Str.ofString "self", .local), (PySem.Str.ofString "paper", .local), (PySem.Str.ofString "__class__", .free), (PySem.Str.ofString "super", .globalImplicit)], isGenerator := false, isCoroutine := false, more := [] }
theorem sBP_text : ∃ p1 p2 z j q1 q4 q6 q7 q8 q9 q10, L2.defArgs sBP = eA p1 p2 ∧ L2.defBody sBP = eB z j q1 q4 q6 q7 q8 q9 q10 ∧ L2.defScope sBP = eS := ⟨_, _, _, _, _, _, _, _, _, _, _, rfl, rfl, rfl⟩
/-- what __init__ leaves of a fresh exception at x -/
structure BpEnd (h h' : Heap) (x C dx t1 : Addr) (v : Value) : Prop where
  keep : ∀ b o, b ≠ x → h.get? b = some o → h'.get? b = some o
  obj : h'.get? x = some { cls := .ref C, dict := some dx, data := .fields #[.ref t1, .none, .none, .none, .bool false, .none] }
  dbig : h.objs.size ≤ dx
  dne : dx ≠ x
  ns : h'.Ns1 dx (fun y => if y = "paper" then some v else none)
/-- a made BadPaper -/
structure BpMade (h h' : Heap) (e C d : Addr) (v : Value) : Prop where
  keep : ∀ b o, h.get? b = some o → h'.get? b = some o
  new : h.objs.size ≤ e
  obj : ∃ oe vs, h'.get? e = some oe ∧ oe.cls = .ref C ∧ oe.dict = some d ∧ oe.data = .fields vs ∧ vs[1]? = some .none
  dbig : h.objs.size ≤ d
  dne : d ≠ e
  ns : h'.Ns1 d (fun y => if y = "paper" then some v else none)
section
variable {M : Model} {A : Around} {E : Value → Shared → Prop} {s : Shared}
theorem cw1 {i : String} {pos : Pos} {u x : Addr} {env : Env} {e : Expr} {rest : List Expr} {Q : Value → Shared → Prop}
    (h : wpAny M A (spliced (backTo pos (starEach (e :: rest) env))) (fun vs s₁ => KxsAt i u x s₁.heap ∧ wpAny M A (call (.ref u) vs) Q E s₁) E s)
    (he : starEach (e :: rest) env = (false, eval e env) :: starEach rest env := by rfl) (hplain : (backTo pos (starEach rest env)).any (·.1) = false := by rfl) :
    wpAny M A (callWith pos (.ref u) [] (backTo pos (starEach (e :: rest) env)) []) Q E s := by
  rw [he] at h ⊢
  refine kxs_callWith (i := i) (x := x) (by show (false || (backTo pos (starEach rest env)).any (·.1)) = false; rw [hplain]; rfl) ?_
  exact evalArgs_plain h
theorem ldK {q : Str} {scope : Scope} {L f : Addr} {cd : Value} {cc : Addr} {m : Str → Option Value} {x : Str} {pos : Pos} {v : Value} {Q : Value → Shared → Prop} (hn : s.heap.Ns L m) (hv : m x = some v) (h : Q v s)
    (hk : scope.kind = .function := by rfl) (hl : (ksEnv q scope L f cd cc).kindOf x = some .local := by rfl) (hd : (x == ("__debug__" : Str)) = false := by decide) :
    wpAny M A (eval (.Name x pos) (ksEnv q scope L f cd cc)) Q E s := wpAny_Name (wpAny_loadName_local hk hl hn hv h) hd
end
section
variable {prog : Program} {w : World} {A : Around} {E : Value → Shared → Prop} {h : Heap} {g : Array GenState} {d : Drawn} {t : Nat} {os : OsState}
variable {nm q : Str} {C N : Addr} {bs bm : List Value} {hdct : Bool} {sn : List Str} {sub : List Value} {ab : Bool} {col : Option Bool} {dd : Option Addr} {k0 k1 k2 k3 k5 : Option Value}
theorem call_mw {u e t0 : Addr} {rest : List Value} {Q : Value → Shared → Prop}
    (hC : h.get? C = some (excClassObj nm q C N bs bm hdct sn sub ab col dd k0 k1 k2 k3 k5 "ValueError.__new__")) (he : h.get? e = some (excO C t0)) (hu : h.get? u = some (kxs_mw "ValueError.__init__" e)) (hrest : rest.length ≤ sizeLine)
    (hq : ∀ h' t1, (∀ b o, b ≠ e → h.get? b = some o → h'.get? b = some o) → h'.get? e = some (excO C t1) → Q .none ⟨h', g, d, t, os⟩) :
    wpAny (model prog w) A (call (.ref u) rest) Q E ⟨h, g, d, t, os⟩ := by
  refine wpAny_call (codeAny_of_tree ?_)
  show wpAny _ A.in1 (callAny (.ref u) ⟨rest, []⟩) _ _ _
  simp only [callAny]
  refine wpAny_bind (wpAny_load hu ?_)
  simp only [kxs_mw, show (Value.type "method-wrapper" == Value.type "method" || Value.type "method-wrapper" == Value.type "builtin_function_or_method" || Value.type "method-wrapper" == Value.type "method-wrapper") = true by decide, if_true]
  refine KFB.if_so (by decide) ?_
  refine wpAny_bind (check_bound_init F.excBase_ValueError.toExcCallFacts hC he rfl ?_)
  refine wpAny_bind (wpAny_pure (wpAny_pure ?_))
  refine ⟨Code.quiet_builtin _ (by decide +kernel), codeAny_builtin F.excBase_ValueError.initEntry ?_⟩
  rw [Around.under_plainId F.excBase_ValueError.init.plain _]
  wp_walk
  refine hq _ h.objs.size (fun b o hb ho => ?_) ?_
  · rw [Heap.get?_update_other _ _ (Ne.symm hb)]
    exact Heap.get?_push_of_some _ ho
  · rw [Heap.get?_update_self _ (Heap.get?_push_of_some _ he) rfl]
    rfl
end
section
variable {prog : Program} {w : World} {A : Around} {E : Value → Shared → Prop} {R : Result → Shared → Prop} {s : Shared} {K : Frag} {mg : Str → Option Value} {base : Heap}
theorem bp_init (T : Bp prog K) (Mo : L2.Mod K mg base) (hsu : mg "super" = none) {x t0 : Addr} {v : Value} (kb : ∀ b o, base.get? b = some o → s.heap.get? b = some o) (hx : s.heap.get? x = some (excO (bpC K) t0)) (hnx : K.lookup x = none) (hroom : A.depth < recursionLimit)
    (hq : ∀ h' tk dx t1, BpEnd s.heap h' x (bpC K) dx t1 v → R (.ok (.ret .none)) { s with heap := h', toks := tk }) :
    codeAny (model prog w) A (.call (.ref (bpI K)) ⟨[.ref x, v], []⟩) R s := by
  obtain ⟨oc, od, kV, doc, pm, an, cda, ct, osl, cc, ho, hcd, ⟨ccl, cdd, vs, ccs, file, tf, hcda, hvs, hfile⟩, cl, cld, csl, hcell⟩ := T.fn
  obtain ⟨p1, p2, z, j, q1, q4, q6, q7, q8, q9, q10, eA_, eB_, eS_⟩ := sBP_text
  rw [eA_, eB_, eS_] at ho
  clear eA_ eB_ eS_
  obtain ⟨cd, hclc, hmro, hhd⟩ := T.mro
  have X : K.In s.heap := Mo.kin.keeps kb
  have hlim : s.heap.NoLimit := Mo.nolimit.keeps kb
  have cl2 : ∀ {h : Heap}, K.In h → ∃ oD, h.get? (bpC K) = some oD ∧ oD.data = .cls cd := fun {h} X => by
    have hc := hclc
    unfold clsIn at hc
    split at hc
    · rename_i c dd' cd' sl ho
      cases hc
      exact ⟨_, X _ _ ho, rfl⟩
    · cases hc
  have hxC : x ≠ bpC K := fun e => by
    obtain ⟨oD, h1, h2⟩ := cl2 X
    rw [← e, hx] at h1
    cases h1
    cases h2
  refine ks_codeAny_call_defAt (fd := ksFn "__init__" "BadPaper.__init__" (eA p1 p2) (eB z j q1 q4 q6 q7 q8 q9 q10) eS .none kV doc pm an (.ref cda) ct cc) (body := eB z j q1 q4 q6 q7 q8 q9 q10) (binds := [("self", .ref x), ("paper", v)]) hroom (X _ _ ho) rfl hlim (codeRec_of X hcd) rfl
    (BindsTo.of_eq (by first | rfl | with_unfolding_all rfl)) (show ∀ x ∈ eS.names, x.2 ≠ NameKind.cell by decide) (fun y hy => by
      rcases List.mem_cons.mp hy with e | hy
      · rw [e]; rfl
      · rw [List.mem_singleton.mp hy]; rfl) (fun h₁ hns k => ?_)
  obtain ⟨hp, g, dr, tk, os⟩ := s
  have X₁ : K.In h₁ := X.keeps k
  have hx₁ := k _ _ hx
  have hLx : hp.objs.size ≠ x := Nat.ne_of_gt (Heap.lt_size hx)
  have kb₁ : ∀ b o, base.get? b = some o → h₁.get? b = some o := fun b o e => k _ _ (kb b o e)
  show PySem.wpAt (model prog w) (A.deeper (ksEnv "BadPaper.__init__" eS hp.objs.size (bpI K) (.ref cda) cc)) (.func (eB z j q1 q4 q6 q7 q8 q9 q10) (ksEnv "BadPaper.__init__" eS hp.objs.size (bpI K) (.ref cda) cc)) (execs (eB z j q1 q4 q6 q7 q8 q9 q10) (ksEnv "BadPaper.__init__" eS hp.objs.size (bpI K) (.ref cda) cc)) _ _ _
  obtain ⟨oD, hD1, hD2⟩ := cl2 X₁
  obtain ⟨mb, hmb, hmb2⟩ := Mo.blt
  refine ks_wpAt_execs_cons (ks_wpAt_Expr_any (ks_wpAt_MethodCall ?_))
  refine ks_wpAt_super_base (env := ksEnv "BadPaper.__init__" eS hp.objs.size (bpI K) (.ref cda) cc) (by rfl) (by rfl) (by decide) rfl (X₁ _ _ ho) rfl (ar := { arg := "self", annotation := none, pos := p1 }) rfl rfl (X₁ _ _ hcda) rfl hvs hfile T.top ?_
  refine ks_loadName_global (by rfl) (by rfl) (loadGlobal_builtin (env := ksEnv "BadPaper.__init__" eS hp.objs.size (bpI K) (.ref cda) cc) (Mo.glob.keeps kb₁) hsu (hmb.keeps kb₁) ((hmb2 _ (by decide)).trans (by decide +kernel)) ⟨rfl, ?_⟩)
  refine wpAny_loadName_free (by rfl) (by rfl) rfl ⟨_, X₁ _ _ hcell, rfl⟩ ?_
  refine wpAny_loadName_local (by rfl) (by rfl) hns (v := .ref x) (by first | rfl | with_unfolding_all rfl | kernel_rfl) ?_
  refine ks_wpAny_isType_cls hD1 hD2 ⟨rfl, ?_⟩
  refine ks_wpAny_call_super hD1 hD2 hx₁ rfl (fun c e => by cases e) (looks_mroIn X₁ T.self) (fun h₂ e₂ k₂ => ?_)
  have X₂ : K.In h₂ := X₁.keeps k₂
  have hx₂ := k₂ _ _ hx₁
  have I₂ : InstAt h₂ x (excO (bpC K) t0) (bpC K) none := ⟨hx₂, rfl, rfl, trivial⟩
  have hI : Looks (model prog w) h₂ (isInstance (.ref x) (.type "ValueError")) true := I₂.type.andThen (looks_subIn X₂ T.ve)
  have hsup := T.sup
  unfold ks_superIn at hsup
  rw [hclc] at hsup
  refine kxs_getMethod kxs_ValueError e₂ (looks_opaque X₂ T.opq) (l₀ := cd.mro) (fun A Q E s k q => wpAny_bind ((looks_clsIn X₂ hclc) A _ E s k (wpAny_pure q))) rfl X₂ hsup hI hxC (by decide) ?_
  refine cw1 (i := "ValueError.__init__") (x := x) ?_
  show wpAny _ _ (spliced [(false, eval (.Constant (.str z) j q4) _)]) _ _ _
  refine Calls.spliced_cons (Calls.Constant_str (Calls.spliced_nil ?_))
  have hu : (h₂.push (kxs_mw "ValueError.__init__" x)).get? h₂.objs.size = some (kxs_mw "ValueError.__init__" x) := Heap.get?_push_size _ rfl
  refine ⟨hu, ?_⟩
  have X₃ : K.In (h₂.push (kxs_mw "ValueError.__init__" x)) := X₂.keeps fun b o e => Heap.get?_push_of_some _ e
  have hx₃ : (h₂.push (kxs_mw "ValueError.__init__" x)).get? x = some (excO (bpC K) t0) := Heap.get?_push_of_some _ hx₂
  obtain ⟨nm, N, qn, bs, bm, hdct, sn, sub, ab, col, dd, k0, k1, k2, k3, k5, hC3, hT⟩ := excInit_of X₃ T.ini
  refine call_mw hC3 hx₃ hu (by show 1 ≤ sizeLine; rw [sizeLine_eq]; omega) fun h₄ t1 k₄ hx₄ => ?_
  have lt0 : ∀ b o, hp.get? b = some o → b ≠ x → h₄.get? b = some o := fun b o e ne => k₄ b o ne (Heap.get?_push_of_some _ (k₂ _ _ (k _ _ e)))
  have hns₄ : h₄.Ns hp.objs.size (fun y => List.lookup y ([(("self" : Str), Value.ref x), ("paper", v)] : List (Str × Value)).reverse) := by
    obtain ⟨oL, es, ep, hL, r⟩ := hns
    exact ⟨oL, es, ep, k₄ _ _ hLx (Heap.get?_push_of_some _ (k₂ _ _ hL)), r⟩
  have X₄ : K.In h₄ := fun b o e => k₄ b o (fun z => by rw [z, hnx] at e; cases e) (X₃ b o e)
  refine ks_wpAt_execs_cons (wpAt_of_wpAny (plainObj_wpAny_Assign_Attribute ?_))
  refine ldK (v := v) hns₄ (by first | rfl | with_unfolding_all rfl | kernel_rfl) (ldK (v := .ref x) hns₄ (by first | rfl | with_unfolding_all rfl | kernel_rfl) ?_)
  refine set_plain X₄ (ox := excO (bpC K) t1) (od := none) ⟨hx₄, rfl, rfl, trivial⟩ T.sa ?_
  refine exc_osa X₄ hx₄ hclc hmro hhd T.noN (fun h₅ tk₅ dx k₅ dn dne hx₅ hn₅ => ?_)
  show PySem.wpAt _ _ _ (execs [] _) _ _ _
  have z : hp.objs.size < h₄.objs.size := hns₄.lt
  exact wpAt_of_wpAny (wpAny_execs_nil (hq h₅ tk₅ dx t1 ⟨fun b o hb e => k₅ b o hb (lt0 b o e hb), hx₅, Nat.le_of_lt (Nat.lt_of_lt_of_le z dn), dne, hn₅⟩))
theorem bp_made (T : Bp prog K) (Mo : L2.Mod K mg base) (hsu : mg "super" = none) {v : Value} (kb : ∀ b o, base.get? b = some o → s.heap.get? b = some o) (hroom : A.depth + 1 < recursionLimit)
    (hq : ∀ h' tk e d, BpMade s.heap h' e (bpC K) d v → R (.ok (.ret (.ref e))) { s with heap := h', toks := tk }) :
    codeAny (model prog w) A (.call (.ref (bpC K)) ⟨[v], []⟩) R s := by
  obtain ⟨hp, g, dr, tk, os⟩ := s
  have X : K.In hp := Mo.kin.keeps kb
  have k : ∀ b o, hp.get? b = some o → ((hp.push (kdv_tup [v])).push (excO (bpC K) hp.objs.size)).get? b = some o := fun b o e => Heap.get?_push_of_some _ (Heap.get?_push_of_some _ e)
  have hget : ((hp.push (kdv_tup [v])).push (excO (bpC K) hp.objs.size)).get? (hp.objs.size + 1) = some (excO (bpC K) hp.objs.size) := by heap_get
  have hnx : K.lookup (hp.objs.size + 1) = none := by
    cases e : K.lookup (hp.objs.size + 1) with
    | none => rfl
    | some o =>
      have z : hp.get? (hp.objs.size + 1) = some o := X _ _ e
      exact absurd (Nat.lt_of_succ_lt (Heap.lt_size z)) (Nat.lt_irrefl _)
  obtain ⟨nm, N, qn, bs, bm, hdct, sn, sub, ab, col, dd, k0, k1, k2, k3, k5, hC, hT⟩ := excInit_of X T.ini
  refine call_own F.excBase_ValueError hT hC (looks_findIn X T.iC) (fun self => bind_fn X self T.tC) (by show 1 ≤ sizeLine; rw [sizeLine_eq]; omega) ?_
  refine bp_init (s := ⟨(hp.push (kdv_tup [v])).push (excO (bpC K) hp.objs.size), g, dr, tk, os⟩) T Mo hsu (fun b o e => k b o (kb b o e)) hget hnx ?_ fun h' tk' dx t1 ⟨k', hx, dn, dne, hns⟩ => ?_
  · show A.depth + 1 < recursionLimit
    exact hroom
  · have old : ∀ b o, hp.get? b = some o → h'.get? b = some o := fun b o e => k' b o (Nat.ne_of_lt (Nat.lt_succ_of_lt (Heap.lt_size e))) (k b o e)
    have z : hp.objs.size + 1 + 1 ≤ dx := by
      first
        | (simpa only [Heap.size_push] using dn)
        | exact dn
        | (have q := dn; rw [Heap.size_push, Heap.size_push] at q; exact q)
    exact ⟨rfl, hq h' tk' (hp.objs.size + 1) dx ⟨old, Nat.le_succ _, ⟨_, _, hx, rfl, rfl, rfl, rfl⟩, Nat.le_trans (Nat.le_trans (Nat.le_succ _) (Nat.le_succ _)) z, dne, hns⟩⟩
end
end K18
namespace K18
open PySem PySem.Spec PyProof.Rows L2
theorem relO_bp {v : V} {v' : Value} (r : RelV v v') (f : Str) : RelO (List.lookup f [(("paper" : Str), v)]) (if f = "paper" then some v' else none) := by
  by_cases hw : f = "paper"
  · subst hw
    rw [if_pos rfl]
    have q : List.lookup ("paper" : Str) [(("paper" : Str), v)] = some v := by simp [List.lookup]
    rw [q]
    exact r
  · rw [if_neg hw]
    have qw : (f == ("paper" : Str)) = false := by simpa using hw
    have q2 : List.lookup f [(("paper" : Str), v)] = none := by simp [List.lookup, qw]
    rw [q2]
    trivial
section
variable {X : Cx}
/-- BadPaper(e) -/
def tMkBp (C : Addr) (ta : TA) : L2.St → Hp → XK → Prop := fun σ H Q => ta σ H fun vs H1 => ∃ v, vs = [v] ∧ ∀ d, H1 d = none → Q (.ref C) (some d) (upd H1 d (.xd [(("paper" : Str), v)]))
theorem pmk_bp {a : Expr} {ta : TA} {p pos : Pos} {k : Nat} (T : Bp X.prog X.K) (hgC : X.mg "BadPaper" = some (.ref (bpC X.K))) (hsu : X.mg "super" = none) (hr : Room k X.A) (ha : PA X [a] ta) (hg : Gl X "BadPaper" := by rfl)
    (he : starEach (a :: []) X.env = (false, eval a X.env) :: starEach [] X.env := by rfl) (hpl : (backTo pos (starEach [] X.env)).any (·.1) = false := by rfl) :
    PMk X (.Call (.Name "BadPaper" p) [a] [] pos) (tMkBp (bpC X.K) ta) := by
  intro pins s σ H Q I h
  refine wpAny_Call_Name_kw (ld_glob I hg hgC ?_)
  refine PySem.W.callWith_K (h₀ := X.base) I.ok.mod.kin T.kC (thn (ha.run pos pins s σ H _ I h) fun us s1 hh => ?_) he hpl
  obtain ⟨vs, H1, I1, r1, v, ev, q1⟩ := hh
  subst ev
  refine ⟨I1.kIn, ?_⟩
  cases r1 with
  | cons rv rn =>
    rename_i v' us'
    cases rn
    show wpAny _ _ (call (.ref (bpC X.K)) [v']) _ _ _
    have kb := I1.bk
    obtain ⟨hp, g, dr, tk, os⟩ := s1
    refine wpAny_call (bp_made T I1.ok.mod hsu kb (by have := hr.dp; omega) fun h' tk' e d M => ?_)
    show MkP X pins σ Q (.ref e) ⟨h', g, dr, tk', os⟩
    obtain ⟨oe, fv, hoe, hc, hd, hdat, h1⟩ := M.obj
    have hns := M.ns
    obtain ⟨G', g1, g2⟩ := restrict h' fun b => decide (b ≠ e)
    have gk : ∀ b, b ≠ e → G'.get? b = h'.get? b := fun b hb => g1 b (decide_eq_true hb)
    have ge : G'.get? e = none := g2 e (by simp)
    have old : ∀ b o, hp.get? b = some o → G'.get? b = some o := fun b o q => (gk b (Nat.ne_of_lt (Nat.lt_of_lt_of_le (Heap.lt_size q) M.new))).trans (M.keep b o q)
    have ob : ObjOk X.prog X.w (upd H1 d (.xd [(("paper" : Str), v)])) G' d (.xd [(("paper" : Str), v)]) :=
      ⟨_, hns.at (fun o q => (gk d M.dne).trans q), fun f => relO_bp rv f⟩
    have J : Inv X pins σ (upd H1 d (.xd [(("paper" : Str), v)])) ⟨G', g, dr, tk', os⟩ := I1.laid (t' := tk') old M.dbig ob
    refine ⟨e, oe, fv, ⟨G', g, dr, tk', os⟩, _, .ref (bpC X.K), some d, rfl, J, fun b o q => ?_, ge, hoe, ⟨hc, hd⟩, hdat, h1, ?_, rfl, I1.bare, raises_own T.exC T.tyC, q1 d (I1.hok.fresh M.dbig)⟩
    · by_cases hb : b = e
      · have q' : G'.get? b = some o := q
        rw [hb, ge] at q'
        cases q'
      · exact (gk b hb).symm.trans q
    · rw [upd_ne (Ne.symm M.dne)]
      exact I1.hok.fresh M.new
/-- raise BadPaper(e) -/
def tRaiseBp (C : Addr) (W : WX) (ta : TA) : TS := fun _ σ H => tMkBp C ta σ H fun cls d H' => W cls d σ H'
theorem ps_raiseBp {a : Expr} {ta : TA} {W : WX} {p pos pos2 : Pos} {k : Nat} (hc : X.calm = true) (T : Bp X.prog X.K) (hgC : X.mg "BadPaper" = some (.ref (bpC X.K))) (hsu : X.mg "super" = none) (hr : Room k X.A) (tk : Takes X W) (ha : PA X [a] ta) (hg : Gl X "BadPaper" := by rfl)
    (he : starEach (a :: []) X.env = (false, eval a X.env) :: starEach [] X.env := by rfl) (hpl : (backTo pos (starEach [] X.env)).any (·.1) = false := by rfl) :
    PS X (.Raise (some (.Call (.Name "BadPaper" p) [a] [] pos)) none pos2) (tRaiseBp (bpC X.K) W ta) := ps_raise hc tk (pmk_bp T hgC hsu hr ha hg he hpl)
end
end K18
end
section
set_option maxRecDepth 100000
set_option maxHeartbeats 4000000
/-! W0: the facts of the head by their names; short words for calls; what stands and what stays. -/
namespace K18
open PySem PySem.Spec PyProof.Rows L2
/-- what the top has left -/
structure Tx (K : PySem.W.Frag) (mg : Str → Option Value) : Prop where
  c : He.SaysD fa fn K
  h : ∃ h : Heap, K.In h ∧ h.Ns mainGlobals mg
section
variable {K : PySem.W.Frag} {mg : Str → Option Value}
theorem Tx.glo (T : Tx K mg) {x : Str} (i : Nat) (e : fa[i]? = some (.glo x) := by rfl) : mg x = some (.ref (He.ga K x)) := by
  obtain ⟨h, X, G⟩ := T.h
  exact He.glo_ok X G (T.c.fact i e)
theorem Tx.free (T : Tx K mg) {x : Str} (i : Nat) (e : fa[i]? = some (.free x) := by rfl) : mg x = none := by
  obtain ⟨h, X, G⟩ := T.h
  exact He.free_ok X G (T.c.fact i e)
theorem Tx.str_ (T : Tx K mg) {x z : Str} (i : Nat) (e : fa[i]? = some (.str x z) := by rfl) : ∃ t, mg x = some (.str z t) := by
  obtain ⟨h, X, G⟩ := T.h
  exact He.str_ok X G (T.c.fact i e)
theorem Tx.int_ (T : Tx K mg) {x : Str} {z : Int} (i : Nat) (e : fa[i]? = some (.int x z) := by rfl) : ∃ t, mg x = some (.int z t) := by
  obtain ⟨h, X, G⟩ := T.h
  exact He.int_ok X G (T.c.fact i e)
theorem Tx.cls (T : Tx K mg) {x : Str} (i : Nat) (e : fa[i]? = some (.cls x) := by rfl) : Cls K (He.ga K x) := He.cls_ok (T.c.fact i e)
theorem Tx.mkr (T : Tx K mg) {x : Str} (i : Nat) (e : fa[i]? = some (.mkr x) := by rfl) : Mk K (He.ga K x) (He.ma K (He.ga K x) "__init__") := He.mkr_ok (T.c.fact i e)
theorem Tx.noat (T : Tx K mg) {x f : Str} (i : Nat) (e : fa[i]? = some (.noat x f) := by rfl) : NoAttr K (He.ga K x) f := He.noat_ok (T.c.fact i e)
theorem Tx.meth (T : Tx K mg) {x m : Str} (i : Nat) (e : fa[i]? = some (.meth x m) := by rfl) : Meth K (He.ga K x) m (He.ma K (He.ga K x) m) := He.meth_ok (T.c.fact i e)
abbrev s_is_integer : Stmt := top 12
abbrev s_deep : Stmt := top 13
abbrev s_is_tuple : Stmt := top 14
abbrev s_made_of : Stmt := top 15
abbrev s_ascending : Stmt := top 16
abbrev s_is_signs : Stmt := top 17
abbrev s_check_signs_of : Stmt := top 18
abbrev s_check_paper : Stmt := top 19
abbrev s_values_of : Stmt := top 20
abbrev s_least_papers : Stmt := top 22
abbrev s_goes_on : Stmt := top 23
abbrev s_least_context : Stmt := top 24
abbrev s_sign_classes : Stmt := top 27
abbrev s_found_order : Stmt := top 30
abbrev s_lots_alike : Stmt := top 31
abbrev s_least_form : Stmt := top 32
abbrev s_is_rows : Stmt := top 35
abbrev s_is_goals : Stmt := top 36
abbrev s_Blind___init__ : Stmt := inClass (top 25) 0
abbrev s_Blind___bool__ : Stmt := inClass (top 25) 1
abbrev s_Seeing___init__ : Stmt := inClass (top 26) 0
abbrev s_Seeing___bool__ : Stmt := inClass (top 26) 1
abbrev s_Walk___init__ : Stmt := inClass (top 39) 0
abbrev s_Walk_standing : Stmt := inClass (top 39) 3
abbrev s_Walk_reached : Stmt := inClass (top 39) 4
abbrev s_Walk___len__ : Stmt := inClass (top 39) 8
abbrev s__law_bag_of : Stmt := top 41
abbrev s__law_pick : Stmt := top 42
abbrev s__law_one_of : Stmt := top 43
abbrev s__law_mixed : Stmt := top 44
abbrev s__law_signs_of : Stmt := top 45
abbrev s__law_paper_of : Stmt := top 46
abbrev s__law_papers_of : Stmt := top 47
abbrev s__law_longer : Stmt := top 48
abbrev s__law_sum : Stmt := top 49
abbrev s__law_rows_of : Stmt := top 50
abbrev s__law_goals : Stmt := top 51
abbrev s__law_led : Stmt := top 52
abbrev s__law_listed : Stmt := top 53
abbrev s__law_no_list : Stmt := top 54
abbrev s__law_same_tuple : Stmt := top 55
abbrev s__law_chain : Stmt := top 56
abbrev s__law_sum_rows : Stmt := top 57
abbrev s__law_dressed : Stmt := top 58
abbrev s__law_drawn_walk : Stmt := top 59
abbrev s__law_alike_papers : Stmt := top 60
abbrev s__law_two_papers : Stmt := top 61
abbrev s__law_aheads : Stmt := top 62
abbrev s__law_after_of : Stmt := top 63
abbrev s__law_context : Stmt := top 64
abbrev s__law_told_of : Stmt := top 65
abbrev s__law_asked : Stmt := top 66
abbrev s__law_refused : Stmt := top 67
abbrev s__law_refusals : Stmt := top 68
abbrev s_law : Stmt := top 69
theorem d_is_integer (T : Tx K mg) : ∃ fd, FunD K "is_integer" "is_integer" (defArgs s_is_integer) (defBody s_is_integer) (defScope s_is_integer) [] [] (He.fAd K ("is_integer", none)) fd := T.c.def_ 0 rfl
theorem d_deep (T : Tx K mg) : ∃ fd, FunD K "deep" "deep" (defArgs s_deep) (defBody s_deep) (defScope s_deep) [] [] (He.fAd K ("deep", none)) fd := T.c.def_ 1 rfl
theorem d_is_tuple (T : Tx K mg) : ∃ fd, FunD K "is_tuple" "is_tuple" (defArgs s_is_tuple) (defBody s_is_tuple) (defScope s_is_tuple) [] [] (He.fAd K ("is_tuple", none)) fd := T.c.def_ 2 rfl
theorem d_made_of (T : Tx K mg) : ∃ fd, FunD K "made_of" "made_of" (defArgs s_made_of) (defBody s_made_of) (defScope s_made_of) [] [] (He.fAd K ("made_of", none)) fd := T.c.def_ 3 rfl
theorem d_ascending (T : Tx K mg) : ∃ fd, FunD K "ascending" "ascending" (defArgs s_ascending) (defBody s_ascending) (defScope s_ascending) [] [] (He.fAd K ("ascending", none)) fd := T.c.def_ 4 rfl
theorem d_is_signs (T : Tx K mg) : ∃ fd, FunD K "is_signs" "is_signs" (defArgs s_is_signs) (defBody s_is_signs) (defScope s_is_signs) [] [] (He.fAd K ("is_signs", none)) fd := T.c.def_ 5 rfl
theorem d_check_signs_of (T : Tx K mg) : ∃ fd, FunD K "check_signs_of" "check_signs_of" (defArgs s_check_signs_of) (defBody s_check_signs_of) (defScope s_check_signs_of) [] [] (He.fAd K ("check_signs_of", none)) fd := T.c.def_ 6 rfl
theorem d_check_paper (T : Tx K mg) : ∃ fd, FunD K "check_paper" "check_paper" (defArgs s_check_paper) (defBody s_check_paper) (defScope s_check_paper) [] [] (He.fAd K ("check_paper", none)) fd := T.c.def_ 7 rfl
theorem d_values_of (T : Tx K mg) : ∃ fd, FunD K "values_of" "values_of" (defArgs s_values_of) (defBody s_values_of) (defScope s_values_of) [] [] (He.fAd K ("values_of", none)) fd := T.c.def_ 8 rfl
theorem d_least_papers (T : Tx K mg) : ∃ fd, FunD K "least_papers" "least_papers" (defArgs s_least_papers) (defBody s_least_papers) (defScope s_least_papers) [] [] (He.fAd K ("least_papers", none)) fd := T.c.def_ 9 rfl
theorem d_goes_on (T : Tx K mg) : ∃ fd, FunD K "goes_on" "goes_on" (defArgs s_goes_on) (defBody s_goes_on) (defScope s_goes_on) [] [] (He.fAd K ("goes_on", none)) fd := T.c.def_ 10 rfl
theorem d_least_context (T : Tx K mg) : ∃ fd, FunD K "least_context" "least_context" (defArgs s_least_context) (defBody s_least_context) (defScope s_least_context) [] [] (He.fAd K ("least_context", none)) fd := T.c.def_ 11 rfl
theorem d_sign_classes (T : Tx K mg) : ∃ fd, FunD K "sign_classes" "sign_classes" (defArgs s_sign_classes) (defBody s_sign_classes) (defScope s_sign_classes) [] [] (He.fAd K ("sign_classes", none)) fd := T.c.def_ 12 rfl
theorem d_found_order (T : Tx K mg) : ∃ fd, FunD K "found_order" "found_order" (defArgs s_found_order) (defBody s_found_order) (defScope s_found_order) [] [] (He.fAd K ("found_order", none)) fd := T.c.def_ 13 rfl
theorem d_lots_alike (T : Tx K mg) : ∃ fd, FunD K "lots_alike" "lots_alike" (defArgs s_lots_alike) (defBody s_lots_alike) (defScope s_lots_alike) [] [] (He.fAd K ("lots_alike", none)) fd := T.c.def_ 14 rfl
theorem d_least_form (T : Tx K mg) : ∃ fd, FunD K "least_form" "least_form" (defArgs s_least_form) (defBody s_least_form) (defScope s_least_form) [] [] (He.fAd K ("least_form", none)) fd := T.c.def_ 15 rfl
theorem d_is_rows (T : Tx K mg) : ∃ fd, FunD K "is_rows" "is_rows" (defArgs s_is_rows) (defBody s_is_rows) (defScope s_is_rows) [] [] (He.fAd K ("is_rows", none)) fd := T.c.def_ 16 rfl
theorem d_is_goals (T : Tx K mg) : ∃ fd, FunD K "is_goals" "is_goals" (defArgs s_is_goals) (defBody s_is_goals) (defScope s_is_goals) [] [] (He.fAd K ("is_goals", none)) fd := T.c.def_ 17 rfl
theorem d_Blind___init__ (T : Tx K mg) : ∃ fd, FunD K "__init__" "Blind.__init__" (defArgs s_Blind___init__) (defBody s_Blind___init__) (defScope s_Blind___init__) [] [] (He.fAd K ("Blind", some "__init__")) fd := T.c.def_ 18 rfl
theorem d_Blind___bool__ (T : Tx K mg) : ∃ fd, FunD K "__bool__" "Blind.__bool__" (defArgs s_Blind___bool__) (defBody s_Blind___bool__) (defScope s_Blind___bool__) [] [] (He.fAd K ("Blind", some "__bool__")) fd := T.c.def_ 19 rfl
theorem d_Seeing___init__ (T : Tx K mg) : ∃ fd, FunD K "__init__" "Seeing.__init__" (defArgs s_Seeing___init__) (defBody s_Seeing___init__) (defScope s_Seeing___init__) [] [] (He.fAd K ("Seeing", some "__init__")) fd := T.c.def_ 20 rfl
theorem d_Seeing___bool__ (T : Tx K mg) : ∃ fd, FunD K "__bool__" "Seeing.__bool__" (defArgs s_Seeing___bool__) (defBody s_Seeing___bool__) (defScope s_Seeing___bool__) [] [] (He.fAd K ("Seeing", some "__bool__")) fd := T.c.def_ 21 rfl
theorem d_Walk___init__ (T : Tx K mg) : ∃ fd, FunD K "__init__" "Walk.__init__" (defArgs s_Walk___init__) (defBody s_Walk___init__) (defScope s_Walk___init__) [] [] (He.fAd K ("Walk", some "__init__")) fd := T.c.def_ 22 rfl
theorem d_Walk_standing (T : Tx K mg) : ∃ fd, FunD K "standing" "Walk.standing" (defArgs s_Walk_standing) (defBody s_Walk_standing) (defScope s_Walk_standing) [.int 0] [] (He.fAd K ("Walk", some "standing")) fd := T.c.def_ 23 rfl
theorem d_Walk_reached (T : Tx K mg) : ∃ fd, FunD K "reached" "Walk.reached" (defArgs s_Walk_reached) (defBody s_Walk_reached) (defScope s_Walk_reached) [] [] (He.fAd K ("Walk", some "reached")) fd := T.c.def_ 24 rfl
theorem d_Walk___len__ (T : Tx K mg) : ∃ fd, FunD K "__len__" "Walk.__len__" (defArgs s_Walk___len__) (defBody s_Walk___len__) (defScope s_Walk___len__) [] [] (He.fAd K ("Walk", some "__len__")) fd := T.c.def_ 25 rfl
theorem d__law_bag_of (T : Tx K mg) : ∃ fd, FunD K "_law_bag_of" "_law_bag_of" (defArgs s__law_bag_of) (defBody s__law_bag_of) (defScope s__law_bag_of) [] [] (He.fAd K ("_law_bag_of", none)) fd := T.c.def_ 26 rfl
theorem d__law_pick (T : Tx K mg) : ∃ fd, FunD K "_law_pick" "_law_pick" (defArgs s__law_pick) (defBody s__law_pick) (defScope s__law_pick) [] [] (He.fAd K ("_law_pick", none)) fd := T.c.def_ 27 rfl
theorem d__law_one_of (T : Tx K mg) : ∃ fd, FunD K "_law_one_of" "_law_one_of" (defArgs s__law_one_of) (defBody s__law_one_of) (defScope s__law_one_of) [] [] (He.fAd K ("_law_one_of", none)) fd := T.c.def_ 28 rfl
theorem d__law_mixed (T : Tx K mg) : ∃ fd, FunD K "_law_mixed" "_law_mixed" (defArgs s__law_mixed) (defBody s__law_mixed) (defScope s__law_mixed) [] [] (He.fAd K ("_law_mixed", none)) fd := T.c.def_ 29 rfl
theorem d__law_signs_of (T : Tx K mg) : ∃ fd, FunD K "_law_signs_of" "_law_signs_of" (defArgs s__law_signs_of) (defBody s__law_signs_of) (defScope s__law_signs_of) [] [] (He.fAd K ("_law_signs_of", none)) fd := T.c.def_ 30 rfl
theorem d__law_paper_of (T : Tx K mg) : ∃ fd, FunD K "_law_paper_of" "_law_paper_of" (defArgs s__law_paper_of) (defBody s__law_paper_of) (defScope s__law_paper_of) [] [] (He.fAd K ("_law_paper_of", none)) fd := T.c.def_ 31 rfl
theorem d__law_papers_of (T : Tx K mg) : ∃ fd, FunD K "_law_papers_of" "_law_papers_of" (defArgs s__law_papers_of) (defBody s__law_papers_of) (defScope s__law_papers_of) [] [] (He.fAd K ("_law_papers_of", none)) fd := T.c.def_ 32 rfl
theorem d__law_longer (T : Tx K mg) : ∃ fd, FunD K "_law_longer" "_law_longer" (defArgs s__law_longer) (defBody s__law_longer) (defScope s__law_longer) [] [] (He.fAd K ("_law_longer", none)) fd := T.c.def_ 33 rfl
theorem d__law_sum (T : Tx K mg) : ∃ fd, FunD K "_law_sum" "_law_sum" (defArgs s__law_sum) (defBody s__law_sum) (defScope s__law_sum) [] [] (He.fAd K ("_law_sum", none)) fd := T.c.def_ 34 rfl
theorem d__law_rows_of (T : Tx K mg) : ∃ fd, FunD K "_law_rows_of" "_law_rows_of" (defArgs s__law_rows_of) (defBody s__law_rows_of) (defScope s__law_rows_of) [] [] (He.fAd K ("_law_rows_of", none)) fd := T.c.def_ 35 rfl
theorem d__law_goals (T : Tx K mg) : ∃ fd, FunD K "_law_goals" "_law_goals" (defArgs s__law_goals) (defBody s__law_goals) (defScope s__law_goals) [] [] (He.fAd K ("_law_goals", none)) fd := T.c.def_ 36 rfl
theorem d__law_led (T : Tx K mg) : ∃ fd, FunD K "_law_led" "_law_led" (defArgs s__law_led) (defBody s__law_led) (defScope s__law_led) [] [] (He.fAd K ("_law_led", none)) fd := T.c.def_ 37 rfl
theorem d__law_listed (T : Tx K mg) : ∃ fd, FunD K "_law_listed" "_law_listed" (defArgs s__law_listed) (defBody s__law_listed) (defScope s__law_listed) [] [] (He.fAd K ("_law_listed", none)) fd := T.c.def_ 38 rfl
theorem d__law_no_list (T : Tx K mg) : ∃ fd, FunD K "_law_no_list" "_law_no_list" (defArgs s__law_no_list) (defBody s__law_no_list) (defScope s__law_no_list) [] [] (He.fAd K ("_law_no_list", none)) fd := T.c.def_ 39 rfl
theorem d__law_same_tuple (T : Tx K mg) : ∃ fd, FunD K "_law_same_tuple" "_law_same_tuple" (defArgs s__law_same_tuple) (defBody s__law_same_tuple) (defScope s__law_same_tuple) [] [] (He.fAd K ("_law_same_tuple", none)) fd := T.c.def_ 40 rfl
theorem d__law_chain (T : Tx K mg) : ∃ fd, FunD K "_law_chain" "_law_chain" (defArgs s__law_chain) (defBody s__law_chain) (defScope s__law_chain) [] [] (He.fAd K ("_law_chain", none)) fd := T.c.def_ 41 rfl
theorem d__law_sum_rows (T : Tx K mg) : ∃ fd, FunD K "_law_sum_rows" "_law_sum_rows" (defArgs s__law_sum_rows) (defBody s__law_sum_rows) (defScope s__law_sum_rows) [] [] (He.fAd K ("_law_sum_rows", none)) fd := T.c.def_ 42 rfl
theorem d__law_dressed (T : Tx K mg) : ∃ fd, FunD K "_law_dressed" "_law_dressed" (defArgs s__law_dressed) (defBody s__law_dressed) (defScope s__law_dressed) [] [] (He.fAd K ("_law_dressed", none)) fd := T.c.def_ 43 rfl
theorem d__law_drawn_walk (T : Tx K mg) : ∃ fd, FunD K "_law_drawn_walk" "_law_drawn_walk" (defArgs s__law_drawn_walk) (defBody s__law_drawn_walk) (defScope s__law_drawn_walk) [] [] (He.fAd K ("_law_drawn_walk", none)) fd := T.c.def_ 44 rfl
theorem d__law_alike_papers (T : Tx K mg) : ∃ fd, FunD K "_law_alike_papers" "_law_alike_papers" (defArgs s__law_alike_papers) (defBody s__law_alike_papers) (defScope s__law_alike_papers) [] [] (He.fAd K ("_law_alike_papers", none)) fd := T.c.def_ 45 rfl
theorem d__law_two_papers (T : Tx K mg) : ∃ fd, FunD K "_law_two_papers" "_law_two_papers" (defArgs s__law_two_papers) (defBody s__law_two_papers) (defScope s__law_two_papers) [] [] (He.fAd K ("_law_two_papers", none)) fd := T.c.def_ 46 rfl
theorem d__law_aheads (T : Tx K mg) : ∃ fd, FunD K "_law_aheads" "_law_aheads" (defArgs s__law_aheads) (defBody s__law_aheads) (defScope s__law_aheads) [] [] (He.fAd K ("_law_aheads", none)) fd := T.c.def_ 47 rfl
theorem d__law_after_of (T : Tx K mg) : ∃ fd, FunD K "_law_after_of" "_law_after_of" (defArgs s__law_after_of) (defBody s__law_after_of) (defScope s__law_after_of) [] [] (He.fAd K ("_law_after_of", none)) fd := T.c.def_ 48 rfl
theorem d__law_context (T : Tx K mg) : ∃ fd, FunD K "_law_context" "_law_context" (defArgs s__law_context) (defBody s__law_context) (defScope s__law_context) [] [] (He.fAd K ("_law_context", none)) fd := T.c.def_ 49 rfl
theorem d__law_told_of (T : Tx K mg) : ∃ fd, FunD K "_law_told_of" "_law_told_of" (defArgs s__law_told_of) (defBody s__law_told_of) (defScope s__law_told_of) [] [] (He.fAd K ("_law_told_of", none)) fd := T.c.def_ 50 rfl
theorem d__law_asked (T : Tx K mg) : ∃ fd, FunD K "_law_asked" "_law_asked" (defArgs s__law_asked) (defBody s__law_asked) (defScope s__law_asked) [] [] (He.fAd K ("_law_asked", none)) fd := T.c.def_ 51 rfl
theorem d__law_refused (T : Tx K mg) : ∃ fd, FunD K "_law_refused" "_law_refused" (defArgs s__law_refused) (defBody s__law_refused) (defScope s__law_refused) [] [] (He.fAd K ("_law_refused", none)) fd := T.c.def_ 52 rfl
theorem d__law_refusals (T : Tx K mg) : ∃ fd, FunD K "_law_refusals" "_law_refusals" (defArgs s__law_refusals) (defBody s__law_refusals) (defScope s__law_refusals) [] [] (He.fAd K ("_law_refusals", none)) fd := T.c.def_ 53 rfl
theorem d_law (T : Tx K mg) : ∃ fd, FunD K "law" "law" (defArgs s_law) (defBody s_law) (defScope s_law) [] [] (He.fAd K ("law", none)) fd := T.c.def_ 54 rfl
theorem g_is_integer (T : Tx K mg) : mg "is_integer" = some (.ref (He.ga K "is_integer")) := T.glo 0
theorem g_deep (T : Tx K mg) : mg "deep" = some (.ref (He.ga K "deep")) := T.glo 1
theorem g_is_tuple (T : Tx K mg) : mg "is_tuple" = some (.ref (He.ga K "is_tuple")) := T.glo 2
theorem g_made_of (T : Tx K mg) : mg "made_of" = some (.ref (He.ga K "made_of")) := T.glo 3
theorem g_ascending (T : Tx K mg) : mg "ascending" = some (.ref (He.ga K "ascending")) := T.glo 4
theorem g_is_signs (T : Tx K mg) : mg "is_signs" = some (.ref (He.ga K "is_signs")) := T.glo 5
theorem g_check_signs_of (T : Tx K mg) : mg "check_signs_of" = some (.ref (He.ga K "check_signs_of")) := T.glo 6
theorem g_check_paper (T : Tx K mg) : mg "check_paper" = some (.ref (He.ga K "check_paper")) := T.glo 7
theorem g_values_of (T : Tx K mg) : mg "values_of" = some (.ref (He.ga K "values_of")) := T.glo 8
theorem g_least_papers (T : Tx K mg) : mg "least_papers" = some (.ref (He.ga K "least_papers")) := T.glo 9
theorem g_goes_on (T : Tx K mg) : mg "goes_on" = some (.ref (He.ga K "goes_on")) := T.glo 10
theorem g_least_context (T : Tx K mg) : mg "least_context" = some (.ref (He.ga K "least_context")) := T.glo 11
theorem g_sign_classes (T : Tx K mg) : mg "sign_classes" = some (.ref (He.ga K "sign_classes")) := T.glo 12
theorem g_found_order (T : Tx K mg) : mg "found_order" = some (.ref (He.ga K "found_order")) := T.glo 13
theorem g_lots_alike (T : Tx K mg) : mg "lots_alike" = some (.ref (He.ga K "lots_alike")) := T.glo 14
theorem g_least_form (T : Tx K mg) : mg "least_form" = some (.ref (He.ga K "least_form")) := T.glo 15
theorem g_is_rows (T : Tx K mg) : mg "is_rows" = some (.ref (He.ga K "is_rows")) := T.glo 16
theorem g_is_goals (T : Tx K mg) : mg "is_goals" = some (.ref (He.ga K "is_goals")) := T.glo 17
theorem g_Blind (T : Tx K mg) : mg "Blind" = some (.ref (He.ga K "Blind")) := T.glo 18
theorem g_Seeing (T : Tx K mg) : mg "Seeing" = some (.ref (He.ga K "Seeing")) := T.glo 19
theorem g_Walk (T : Tx K mg) : mg "Walk" = some (.ref (He.ga K "Walk")) := T.glo 20
theorem g_BadPaper (T : Tx K mg) : mg "BadPaper" = some (.ref (He.ga K "BadPaper")) := T.glo 21
theorem g_CarryError (T : Tx K mg) : mg "CarryError" = some (.ref (He.ga K "CarryError")) := T.glo 22
theorem g_Malformed (T : Tx K mg) : mg "Malformed" = some (.ref (He.ga K "Malformed")) := T.glo 23
theorem g__law_bag_of (T : Tx K mg) : mg "_law_bag_of" = some (.ref (He.ga K "_law_bag_of")) := T.glo 24
theorem g__law_pick (T : Tx K mg) : mg "_law_pick" = some (.ref (He.ga K "_law_pick")) := T.glo 25
theorem g__law_one_of (T : Tx K mg) : mg "_law_one_of" = some (.ref (He.ga K "_law_one_of")) := T.glo 26
theorem g__law_mixed (T : Tx K mg) : mg "_law_mixed" = some (.ref (He.ga K "_law_mixed")) := T.glo 27
theorem g__law_signs_of (T : Tx K mg) : mg "_law_signs_of" = some (.ref (He.ga K "_law_signs_of")) := T.glo 28
theorem g__law_paper_of (T : Tx K mg) : mg "_law_paper_of" = some (.ref (He.ga K "_law_paper_of")) := T.glo 29
theorem g__law_papers_of (T : Tx K mg) : mg "_law_papers_of" = some (.ref (He.ga K "_law_papers_of")) := T.glo 30
theorem g__law_longer (T : Tx K mg) : mg "_law_longer" = some (.ref (He.ga K "_law_longer")) := T.glo 31
theorem g__law_sum (T : Tx K mg) : mg "_law_sum" = some (.ref (He.ga K "_law_sum")) := T.glo 32
theorem g__law_rows_of (T : Tx K mg) : mg "_law_rows_of" = some (.ref (He.ga K "_law_rows_of")) := T.glo 33
theorem g__law_goals (T : Tx K mg) : mg "_law_goals" = some (.ref (He.ga K "_law_goals")) := T.glo 34
theorem g__law_led (T : Tx K mg) : mg "_law_led" = some (.ref (He.ga K "_law_led")) := T.glo 35
theorem g__law_listed (T : Tx K mg) : mg "_law_listed" = some (.ref (He.ga K "_law_listed")) := T.glo 36
theorem g__law_no_list (T : Tx K mg) : mg "_law_no_list" = some (.ref (He.ga K "_law_no_list")) := T.glo 37
theorem g__law_same_tuple (T : Tx K mg) : mg "_law_same_tuple" = some (.ref (He.ga K "_law_same_tuple")) := T.glo 38
theorem g__law_chain (T : Tx K mg) : mg "_law_chain" = some (.ref (He.ga K "_law_chain")) := T.glo 39
theorem g__law_sum_rows (T : Tx K mg) : mg "_law_sum_rows" = some (.ref (He.ga K "_law_sum_rows")) := T.glo 40
theorem g__law_dressed (T : Tx K mg) : mg "_law_dressed" = some (.ref (He.ga K "_law_dressed")) := T.glo 41
theorem g__law_drawn_walk (T : Tx K mg) : mg "_law_drawn_walk" = some (.ref (He.ga K "_law_drawn_walk")) := T.glo 42
theorem g__law_alike_papers (T : Tx K mg) : mg "_law_alike_papers" = some (.ref (He.ga K "_law_alike_papers")) := T.glo 43
theorem g__law_two_papers (T : Tx K mg) : mg "_law_two_papers" = some (.ref (He.ga K "_law_two_papers")) := T.glo 44
theorem g__law_aheads (T : Tx K mg) : mg "_law_aheads" = some (.ref (He.ga K "_law_aheads")) := T.glo 45
theorem g__law_after_of (T : Tx K mg) : mg "_law_after_of" = some (.ref (He.ga K "_law_after_of")) := T.glo 46
theorem g__law_context (T : Tx K mg) : mg "_law_context" = some (.ref (He.ga K "_law_context")) := T.glo 47
theorem g__law_told_of (T : Tx K mg) : mg "_law_told_of" = some (.ref (He.ga K "_law_told_of")) := T.glo 48
theorem g__law_asked (T : Tx K mg) : mg "_law_asked" = some (.ref (He.ga K "_law_asked")) := T.glo 49
theorem g__law_refused (T : Tx K mg) : mg "_law_refused" = some (.ref (He.ga K "_law_refused")) := T.glo 50
theorem g__law_refusals (T : Tx K mg) : mg "_law_refusals" = some (.ref (He.ga K "_law_refusals")) := T.glo 51
theorem g_law (T : Tx K mg) : mg "law" = some (.ref (He.ga K "law")) := T.glo 52
theorem f_len (T : Tx K mg) : mg "len" = none := T.free 53
theorem f_isinstance (T : Tx K mg) : mg "isinstance" = none := T.free 54
theorem f_int (T : Tx K mg) : mg "int" = none := T.free 55
theorem f_bool (T : Tx K mg) : mg "bool" = none := T.free 56
theorem f_list (T : Tx K mg) : mg "list" = none := T.free 57
theorem f_tuple (T : Tx K mg) : mg "tuple" = none := T.free 58
theorem f_str (T : Tx K mg) : mg "str" = none := T.free 59
theorem f_all (T : Tx K mg) : mg "all" = none := T.free 60
theorem f_max (T : Tx K mg) : mg "max" = none := T.free 61
theorem f_min (T : Tx K mg) : mg "min" = none := T.free 62
theorem f_range (T : Tx K mg) : mg "range" = none := T.free 63
theorem f_sum (T : Tx K mg) : mg "sum" = none := T.free 64
theorem f_abs (T : Tx K mg) : mg "abs" = none := T.free 65
theorem f_repr (T : Tx K mg) : mg "repr" = none := T.free 66
theorem f_ValueError (T : Tx K mg) : mg "ValueError" = none := T.free 67
theorem f_super (T : Tx K mg) : mg "super" = none := T.free 68
theorem v_SIGNS (T : Tx K mg) : ∃ t, mg "SIGNS" = some (.str "0123456789ABCDEFGHIJKLMNOPQRSTUVWXYZ" t) := T.str_ 69
theorem v_MOST_SIGNS (T : Tx K mg) : ∃ t, mg "MOST_SIGNS" = some (.int 60 t) := T.int_ 70
theorem v_MOST_STANDINGS (T : Tx K mg) : ∃ t, mg "MOST_STANDINGS" = some (.int 150 t) := T.int_ 71
theorem c_Blind (T : Tx K mg) : Cls K (He.ga K "Blind") := T.cls 72
theorem c_Seeing (T : Tx K mg) : Cls K (He.ga K "Seeing") := T.cls 73
theorem c_Walk (T : Tx K mg) : Cls K (He.ga K "Walk") := T.cls 74
theorem k_Blind (T : Tx K mg) : Mk K (He.ga K "Blind") (He.ma K (He.ga K "Blind") "__init__") := T.mkr 75
theorem k_Seeing (T : Tx K mg) : Mk K (He.ga K "Seeing") (He.ma K (He.ga K "Seeing") "__init__") := T.mkr 76
theorem k_Walk (T : Tx K mg) : Mk K (He.ga K "Walk") (He.ma K (He.ga K "Walk") "__init__") := T.mkr 77
theorem n_Blind_context (T : Tx K mg) : NoAttr K (He.ga K "Blind") "context" := T.noat 78
theorem n_Seeing_context (T : Tx K mg) : NoAttr K (He.ga K "Seeing") "context" := T.noat 79
theorem n_Walk_signs (T : Tx K mg) : NoAttr K (He.ga K "Walk") "signs" := T.noat 80
theorem n_Walk_rows (T : Tx K mg) : NoAttr K (He.ga K "Walk") "rows" := T.noat 81
theorem n_Walk_goals (T : Tx K mg) : NoAttr K (He.ga K "Walk") "goals" := T.noat 82
theorem m_Blind___bool__ (T : Tx K mg) : Meth K (He.ga K "Blind") "__bool__" (He.ma K (He.ga K "Blind") "__bool__") := T.meth 83
theorem m_Seeing___bool__ (T : Tx K mg) : Meth K (He.ga K "Seeing") "__bool__" (He.ma K (He.ga K "Seeing") "__bool__") := T.meth 84
theorem m_Walk_standing (T : Tx K mg) : Meth K (He.ga K "Walk") "standing" (He.ma K (He.ga K "Walk") "standing") := T.meth 85
theorem m_Walk_reached (T : Tx K mg) : Meth K (He.ga K "Walk") "reached" (He.ma K (He.ga K "Walk") "reached") := T.meth 86
theorem m_Walk___len__ (T : Tx K mg) : Meth K (He.ga K "Walk") "__len__" (He.ma K (He.ga K "Walk") "__len__") := T.meth 87
end
/-! ### short words for calls -/
structure C1 (P : Program) (w : World) (K : PySem.W.Frag) (mg : Str → Option Value) (base : Heap) (CX : CXT) (k : Nat) (x : Str) (ps : List Str) (sp : Sp) : Prop where
  ex : ∃ (f : Addr) (fd : FuncData), FnOk P w K mg base CX k f fd ps sp ∧ mg x = some (.ref f) ∧ PySem.W.keepIn K (.ref f) = true ∧ Binds K fd ps []
/-- a method -/
structure M1 (P : Program) (w : World) (K : PySem.W.Frag) (mg : Str → Option Value) (base : Heap) (CX : CXT) (k : Nat) (C : Addr) (x : Str) (ps : List Str) (sp : Sp) : Prop where
  ex : ∃ (f : Addr) (fd : FuncData), FnOk P w K mg base CX k f fd ps sp ∧ Meth K C x f ∧ Cls K C ∧ Binds K fd ps []
/-- a class's __init__ -/
structure I1 (P : Program) (w : World) (K : PySem.W.Frag) (mg : Str → Option Value) (base : Heap) (CX : CXT) (k : Nat) (x : Str) (ps : List Str) (sp : Sp) : Prop where
  ex : ∃ (f : Addr) (fd : FuncData), FnOk P w K mg base CX k f fd ps sp ∧ Mk K (He.ga K x) f ∧ mg x = some (.ref (He.ga K x)) ∧ Binds K fd ps []
section
variable {X : Cx} {e : Expr} {es : List Expr} {t : TA} {k : Nat} {x m : Str} {ps : List Str} {sp : Sp} {p pos apos : Pos} {C : Addr} {o : Expr} {to : TE}
theorem pe_c1 (F : C1 X.prog X.w X.K X.mg X.base CX0 k x ps sp) (hr : Room k X.A) (hg : Gl X x) (ha : PA X (e :: es) t) (hdb : (x == ("__debug__" : Str)) = false := by decide)
    (he : starEach (e :: es) X.env = (false, eval e X.env) :: starEach es X.env := by rfl) (hpl : (backTo pos (starEach es X.env)).any (·.1) = false := by rfl) : PE X (.Call (.Name x p) (e :: es) [] pos) (tCall sp [] E0 t) := by
  obtain ⟨f, fd, F, hm, hk, hb⟩ := F.ex
  exact pe_call F hr hg hm hk hb .nil pass0 ha hdb he hpl
theorem pe_mk1 (F : I1 X.prog X.w X.K X.mg X.base CX0 k x ps sp) (hr : Room (k + 1) X.A) (hg : Gl X x) (ha : PA X (e :: es) t) (hdb : (x == ("__debug__" : Str)) = false := by decide)
    (he : starEach (e :: es) X.env = (false, eval e X.env) :: starEach es X.env := by rfl) (hpl : (backTo pos (starEach es X.env)).any (·.1) = false := by rfl) : PE X (.Call (.Name x p) (e :: es) [] pos) (tMake (He.ga X.K x) sp [] E0 t) := by
  obtain ⟨f, fd, F, hM, hm, hb⟩ := F.ex
  exact pe_make hM F hr hg hm hb .nil pass0 ha hdb he hpl
theorem pe_m1 {pl : Sem Bool} (F : M1 X.prog X.w X.K X.mg X.base CX0 k C m ps sp) (hr : Room k X.A) (ho : PE X o to) (ha : PA X (e :: es) t)
    (hst : starEach (e :: es) X.env = (false, eval e X.env) :: starEach es X.env := by rfl) (hpl : (backTo pos (starEach es X.env)).any (·.1) = false := by rfl)
    (ht : eval (.Call (.Attribute o m apos) (e :: es) [] pos) X.env = (do
      let ov ← eval o X.env
      standAt apos.atName
      let (f, first) ← holding [ov] (getMethod ov m pl)
      callWith pos f first (backTo pos (starEach (e :: es) X.env)) (backToKw pos (keywordEach [] X.env))) := by rfl) : PE X (.Call (.Attribute o m apos) (e :: es) [] pos) (tMeth C m sp [] E0 to t) := by
  obtain ⟨f, fd, F, hm, hc, hb⟩ := F.ex
  exact pe_meth ho hc hm F hr hb .nil pass0 ha hst hpl ht
end
section
variable {P : Program} {w : World} {K : PySem.W.Frag} {mg : Str → Option Value} {base : Heap} {CX : CXT} {k : Nat} {x c m qual : Str} {N ps : List Str} {sp : Sp} {pa : Arguments} {bd : List Stmt} {sc : Scope} {fd : FuncData}
theorem C1.mk1 (F : FunD K x qual pa bd sc [] [] (He.fAd K (x, none)) fd) (hm : mg x = some (.ref (He.ga K x)))
    (hb : ∀ (kV doc pm : Value) (an : Option Addr) (cdv ct : Value) (us : List Value), us.length = ps.length → bindArgs (PySem.W.fnOf x qual pa bd sc .none kV doc pm an cdv ct) ⟨us, []⟩ = pure (ps.zip us))
    (S : FnScope N ps sc) (len : ∀ vs H Q E, sp vs H Q E → vs.length = ps.length)
    (body : ∀ (cdv : Value) (A : Around) (outer : List Env) (s : Shared) (H : Hp) (vs : List V) (Q : VK) (E : XK), Room k (A.deeper (envOfC qual sc s.heap.objs.size (He.fAd K (x, none)) cdv)) → sp vs H Q E →
      ∃ t, PSs (cxOf CX P w K mg base N qual sc (He.fAd K (x, none)) cdv A outer s H E).nox bd t ∧ t { nx := fun _ H' => Q .non H', rt := Q } (start N vs) H) : C1 P w K mg base CX (k + 1) x ps sp :=
  ⟨_, fd, F.ok S len fun cdv A outer s H vs Q E hr h => let ⟨t, h1, h2⟩ := body cdv A outer s H vs Q E hr h; ⟨t, h1.nox, h2⟩, hm, F.kp, F.bindsN hb⟩
theorem M1.mk1 (F : FunD K m qual pa bd sc [] [] (He.fAd K (c, some m)) fd) (hm : Meth K (He.ga K c) m (He.ma K (He.ga K c) m)) (hc : Cls K (He.ga K c))
    (hb : ∀ (kV doc pm : Value) (an : Option Addr) (cdv ct : Value) (us : List Value), us.length = ps.length → bindArgs (PySem.W.fnOf m qual pa bd sc .none kV doc pm an cdv ct) ⟨us, []⟩ = pure (ps.zip us))
    (S : FnScope N ps sc) (len : ∀ vs H Q E, sp vs H Q E → vs.length = ps.length)
    (body : ∀ (cdv : Value) (A : Around) (outer : List Env) (s : Shared) (H : Hp) (vs : List V) (Q : VK) (E : XK), Room k (A.deeper (envOfC qual sc s.heap.objs.size (He.fAd K (c, some m)) cdv)) → sp vs H Q E →
      ∃ t, PSs (cxOf CX P w K mg base N qual sc (He.fAd K (c, some m)) cdv A outer s H E).nox bd t ∧ t { nx := fun _ H' => Q .non H', rt := Q } (start N vs) H) : M1 P w K mg base CX (k + 1) (He.ga K c) m ps sp :=
  ⟨_, fd, F.ok S len fun cdv A outer s H vs Q E hr h => let ⟨t, h1, h2⟩ := body cdv A outer s H vs Q E hr h; ⟨t, h1.nox, h2⟩, hm, hc, F.bindsN hb⟩
theorem I1.mk1 (F : FunD K "__init__" qual pa bd sc [] [] (He.fAd K (c, some "__init__")) fd) (hM : Mk K (He.ga K c) (He.ma K (He.ga K c) "__init__")) (hm : mg c = some (.ref (He.ga K c)))
    (hb : ∀ (kV doc pm : Value) (an : Option Addr) (cdv ct : Value) (us : List Value), us.length = ps.length → bindArgs (PySem.W.fnOf "__init__" qual pa bd sc .none kV doc pm an cdv ct) ⟨us, []⟩ = pure (ps.zip us))
    (S : FnScope N ps sc) (len : ∀ vs H Q E, sp vs H Q E → vs.length = ps.length)
    (body : ∀ (cdv : Value) (A : Around) (outer : List Env) (s : Shared) (H : Hp) (vs : List V) (Q : VK) (E : XK), Room k (A.deeper (envOfC qual sc s.heap.objs.size (He.fAd K (c, some "__init__")) cdv)) → sp vs H Q E →
      ∃ t, PSs (cxOf CX P w K mg base N qual sc (He.fAd K (c, some "__init__")) cdv A outer s H E).nox bd t ∧ t { nx := fun _ H' => Q .non H', rt := Q } (start N vs) H) : I1 P w K mg base CX (k + 1) c ps sp :=
  ⟨_, fd, F.ok S len fun cdv A outer s H vs Q E hr h => let ⟨t, h1, h2⟩ := body cdv A outer s H vs Q E hr h; ⟨t, h1.nox, h2⟩, hM, hm, F.bindsN hb⟩
end
theorem hu64_of {A : Around} {k : Nat} (hr : Room k A) : A.units + 65 < cLine := by
  have := hr.un
  omega
theorem hu64' {A : Around} {k : Nat} (hr : Room k A) : A.units + 64 < cLine := by
  have := hr.un
  omega

/-! ### what stays -/
/-- all but lists stays -/
def Kp (H H' : Hp) : Prop := ∀ b o, (∀ xs, o ≠ .lst xs) → H b = some o → H' b = some o
/-- all but the thing at a stays -/
def SB (a : Addr) (H H' : Hp) : Prop := ∀ b o, b ≠ a → H b = some o → H' b = some o
theorem Kp.refl (H : Hp) : Kp H H := fun _ _ _ h => h
theorem Kp.trans {H H1 H2 : Hp} (a : Kp H H1) (b : Kp H1 H2) : Kp H H2 := fun c o n h => b c o n (a c o n h)
theorem SB.refl (a : Addr) (H : Hp) : SB a H H := fun _ _ _ h => h
theorem SB.trans {a : Addr} {H H1 H2 : Hp} (x : SB a H H1) (y : SB a H1 H2) : SB a H H2 := fun c o n h => y c o n (x c o n h)
theorem same_sb {a : Addr} {H H' : Hp} (e : Same H H') : SB a H H' := fun c o _ h => e c o h
theorem same_kp {H H' : Hp} (e : Same H H') : Kp H H' := fun c o _ h => e c o h
theorem SB.kp {a : Addr} {H H' : Hp} {xs : List V} (e : SB a H H') (h : H a = some (.lst xs)) : Kp H H' := fun c o n hc => e c o (fun z => by
  rw [z, h] at hc
  exact n _ (Option.some.inj hc).symm) hc
theorem same_new {H : Hp} {p : Addr} {o : HO} (h : H p = none) : Same H (upd H p o) := fun a u e => by
  rw [upd_ne (ne_of_none e h)]
  exact e
/-- an object that H does not know may change -/
theorem same_mut {H H' : Hp} {p : Addr} {o : HO} (e : Same H H') (h : H p = none) : Same H (upd H' p o) := fun a u ha => by
  rw [upd_ne (ne_of_none ha h)]
  exact e a u ha
theorem SB.mut {a : Addr} {H H' : Hp} {p : Addr} {o : HO} (e : SB a H H') (h : p = a ∨ H p = none) : SB a H (upd H' p o) := fun b u n hb => by
  rw [upd_ne (fun z => by
    rcases h with h | h
    · exact n (z.trans h)
    · rw [z, h] at hb
      cases hb)]
  exact e b u n hb
theorem SB.free {a : Addr} {H H' : Hp} (e : SB a H H') {l : Addr} (ha : l ≠ a) (h : H' l = none) : H l = none := by
  cases q : H l with
  | none => rfl
  | some o =>
    rw [e l o ha q] at h
    cases h
theorem sqT_kp {K : PySem.W.Frag} {H H' : Hp} {a : Addr} {xs : List V} (e : Kp H H') (h : SqT K H a xs) : SqT K H' a xs := by
  rcases h with (h | ⟨o, h⟩) | h
  · exact .inl (.inl (e _ _ (fun _ z => by cases z) h))
  · exact .inl (.inr ⟨o, e _ _ (fun _ z => by cases z) h⟩)
  · exact .inr h
theorem sqT_same {K : PySem.W.Frag} {H H' : Hp} {a : Addr} {xs : List V} (e : Same H H') (h : SqT K H a xs) : SqT K H' a xs := sqT_kp (same_kp e) h
/-! ### readings, step by step -/
section
variable {σ : L2.St} {H : Hp} {Q : VK} {QB : Bool → Hp → Prop} {D : Ends} {t u : TS} {c ta tb tt : TT} {te tf tg tx : TE} {as : TA} {K : PySem.W.Frag}
theorem r_seq (h : t { D with nx := u D } σ H) : tSeq t u D σ H := h
theorem r_ifs (h : c σ H fun b H1 => if b = true then t D σ H1 else u D σ H1) : tIfS c t u D σ H := h
theorem r_ret (h : te σ H D.rt) : tRet te D σ H := h
theorem r_asg {g : TG} (h : te σ H fun x H1 => g x σ H1 D.nx) : tAsg te g D σ H := h
theorem r_drop (h : te σ H fun _ H1 => D.nx σ H1) : tDrop te D σ H := h
theorem r_next (h : D.nx σ H) : tNext D σ H := h
theorem r_name {i : Nat} {v : V} {Q : L2.St → Hp → Prop} (h : Q (σ.set i (some v)) H) : gName i v σ H Q := h
theorem r_var {i : Nat} {v : V} (e : σ[i]? = some (some v)) (h : Q v H) : tVar i σ H Q := ⟨v, e, h⟩
theorem r_c {v : V} (h : Q v H) : tC v σ H Q := h
theorem r_op {r : R2} (h : te σ H fun x H1 => tf σ H1 fun y H2 => r x y H2 Q) : tOp r te tf σ H Q := h
theorem r_cons {Q : List V → Hp → Prop} (h : te σ H fun x H1 => as σ H1 fun xs H2 => Q (x :: xs) H2) : tCons te as σ H Q := h
theorem r_nil {Q : List V → Hp → Prop} (h : Q [] H) : tNil σ H Q := h
theorem r_cb {r : List V → Hp → VK → Prop} (h : as σ H fun vs H1 => r vs H1 Q) : tCB r as σ H Q := h
theorem r_call {sp : Sp} {dvs : List V} {E : XK} (h : as σ H fun vs H1 => sp (vs ++ dvs) H1 Q E) : tCall sp dvs E as σ H Q := h
theorem r_make {C : Addr} {sp : Sp} {dvs : List V} {E : XK} (h : as σ H fun vs H1 => ∀ x dx, H1 x = none → H1 dx = none → dx ≠ x → sp (.ref x :: (vs ++ dvs)) (upd (upd H1 dx (.own x)) x (.ins C dx [])) (fun v H2 => v = .non ∧ Q (.ref x) H2) E) : tMake C sp dvs E as σ H Q := h
theorem r_B (h : te σ H fun x H1 => ∃ c, x = .bl c ∧ QB c H1) : tB te σ H QB := h
theorem r_test (h : te σ H fun x H1 => ∃ c, x = .bl c ∧ QB c H1) : tTest te σ H QB := h
theorem r_or (h : ta σ H fun c H1 => if c = true then QB true H1 else tb σ H1 QB) : tOr ta tb σ H QB := h
theorem r_and (h : ta σ H fun c H1 => if c = true then tb σ H1 QB else QB false H1) : tAnd ta tb σ H QB := h
theorem r_not (h : ta σ H fun c H1 => QB (!c) H1) : tNot ta σ H QB := h
theorem r_andV (h : te σ H fun x H1 => ∃ c, x = .bl c ∧ if c = true then tf σ H1 Q else Q (.bl false) H1) : tAndV te tf σ H Q := h
theorem r_orV (h : te σ H fun x H1 => ∃ c, x = .bl c ∧ if c = true then Q (.bl true) H1 else tf σ H1 Q) : tOrV te tf σ H Q := h
theorem r_notV (h : te σ H fun x H1 => ∃ c, x = .bl c ∧ Q (.bl (!c)) H1) : tNotV te σ H Q := h
theorem r_if (h : ta σ H fun c H1 => if c = true then te σ H1 Q else tf σ H1 Q) : tIf ta te tf σ H Q := h
theorem r_aug {i : Nat} {v : V} {ti : TIp} (e : σ[i]? = some (some v)) (h : te σ H fun y H1 => ti v y H1 fun z H2 => D.nx (σ.set i (some z)) H2) : tAug i te ti D σ H := ⟨v, e, h⟩
theorem r_ip {f : Int → Int → Int} {i j : Int} {Q : V → Hp → Prop} (h : Q (.int (f i j)) H) : ipI f (.int i) (.int j) H Q := ⟨i, j, rfl, rfl, h⟩
theorem r_I0 {g : Int → Int → V} {i j : Int} (h : Q (g i j) H) : rI0 g (.int i) (.int j) H Q := ⟨i, j, rfl, rfl, h⟩
theorem r_ex {b : Bool} {Pc : Bool → Prop} (h : Pc b) : ∃ c, V.bl b = V.bl c ∧ Pc c := ⟨b, rfl, h⟩
theorem r_eqI {i j : Int} (h : Q (.bl (decide (i = j))) H) : rEq (.int i) (.int j) H Q := ⟨rfl, by
  have e : decide (V.int i = V.int j) = decide (i = j) := by
    by_cases q : i = j
    · rw [q]; simp
    · rw [decide_eq_false q, decide_eq_false fun z => q (V.int.inj z)]
  rw [e]
  exact h⟩
theorem r_neI {i j : Int} (h : Q (.bl (!decide (i = j))) H) : rNe (.int i) (.int j) H Q := ⟨rfl, by
  have e : decide (V.int i = V.int j) = decide (i = j) := by
    by_cases q : i = j
    · rw [q]; simp
    · rw [decide_eq_false q, decide_eq_false fun z => q (V.int.inj z)]
  rw [e]
  exact h⟩
theorem r_eqB {i j : Bool} (h : Q (.bl (i == j)) H) : rEq (.bl i) (.bl j) H Q := ⟨rfl, by
  have e : decide (V.bl i = V.bl j) = (i == j) := by cases i <;> cases j <;> rfl
  rw [e]
  exact h⟩
theorem r_neB {i j : Bool} (h : Q (.bl (i != j)) H) : rNe (.bl i) (.bl j) H Q := ⟨rfl, by
  have e : (!decide (V.bl i = V.bl j)) = (i != j) := by cases i <;> cases j <;> rfl
  rw [e]
  exact h⟩
theorem r_isN {x : V} (h : Q (.bl (decide (x = .non))) H) : (fun x y H Q => y = V.non ∧ Q (V.bl (decide (x = V.non))) H : R2) x .non H Q := ⟨rfl, h⟩
theorem r_tup (h : as σ H fun xs H1 => xs.length ≤ sizeLine ∧ ∀ p, H1 p = none → Q (.ref p) (upd H1 p (.tup xs))) : tTup as σ H Q := h
theorem r_lst (h : as σ H fun xs H1 => xs.length ≤ sizeLine ∧ ∀ p, H1 p = none → Q (.ref p) (upd H1 p (.lst xs))) : tLst as σ H Q := h
theorem r_yes (h : QB true H) : tYes σ H QB := h
theorem r_gsub {to ti : TE} {s : TSet} {v : V} {Q : L2.St → Hp → Prop} (h : to σ H fun o H1 => ti σ H1 fun i H2 => s o i v H2 fun H3 => Q σ H3) : gSub to ti s v σ H Q := h
theorem r_dget (h : te σ H fun x H1 => tf σ H1 fun y H2 => ∃ a v, x = .ref a ∧ DGet H2 a y (some v) ∧ Q v H2) : tDGet te tf σ H Q := h
theorem r_sl {r : V → Option Int → Option Int → Hp → VK → Prop} {tl th : TO} (h : te σ H fun x H1 => tl σ H1 fun l H2 => th σ H2 fun u H3 => r x l u H3 Q) : tSl r te tl th σ H Q := h
theorem r_part {Q : Option Int → Hp → Prop} (h : te σ H fun x H1 => ∃ i, x = .int i ∧ Q (some i) H1) : tPart te σ H Q := h
theorem r_nopart {Q : Option Int → Hp → Prop} (h : Q none H) : tNoPart σ H Q := h
theorem r_chain {r r' : R2} (h : te σ H fun x H1 => tf σ H1 fun y H2 => r x y H2 fun z H3 => ∃ k, z = .bl k ∧ (if k = true then tg σ H3 fun w' H4 => r' y w' H4 Q else Q (.bl false) H3)) : tChain r r' te tf tg σ H Q := h
theorem r_bm {T : String} {r : V → List V → Hp → VK → Prop} (h : te σ H fun x H1 => tyV K T x H1 ∧ as σ H1 fun xs H2 => r x xs H2 Q) : tBM K T r te as σ H Q := h
theorem r_int1 {d : Int} {Pi : Int → Prop} {B : Prop} (h : Pi d) : (∃ i, [V.int d] = [V.int i] ∧ Pi i) ∨ B := .inl ⟨d, rfl, h⟩
theorem r_mod {i j : Int} (hj : 0 < j) (h : Q (.int (i % j)) H) : L2.rI (fun _ j => 0 < j) (fun i j => .int (i % j)) (.int i) (.int j) H Q := ⟨i, j, rfl, rfl, hj, h⟩
theorem r_mulR {i j : Int} (h1 : -18446744073709551616 < j) (h2 : j < 18446744073709551616) (h : Q (.int (i * j)) H) : L2.rI CMul (fun i j => .int (i * j)) (.int i) (.int j) H Q := ⟨i, j, rfl, rfl, .inr ⟨by omega, by omega⟩, h⟩
theorem r_mulL {i j : Int} (h1 : -18446744073709551616 < i) (h2 : i < 18446744073709551616) (h : Q (.int (i * j)) H) : L2.rI CMul (fun i j => .int (i * j)) (.int i) (.int j) H Q := ⟨i, j, rfl, rfl, .inl ⟨by omega, by omega⟩, h⟩
theorem r_fdivN {i j : Int} (h1 : j ≠ 0) (h2 : j.natAbs < 1073741824) (h : Q (.int (i.fdiv j)) H) : L2.rI CDivN (fun i j => .int (i.fdiv j)) (.int i) (.int j) H Q := ⟨i, j, rfl, rfl, ⟨h1, h2⟩, h⟩
theorem r_ixL {p : Addr} {xs : List V} {i : Int} {v : V} (hs : SqL K H p xs) (e : atI xs i = some v) (h : Q v H) : rIxL K (.ref p) (.int i) H Q := ⟨p, xs, i, v, rfl, rfl, hs, e, h⟩
theorem r_ixT {p : Addr} {xs : List V} {i : Int} {v : V} (hs : SqT K H p xs) (e : atI xs i = some v) (h : Q v H) : rIxT K (.ref p) (.int i) H Q := ⟨p, xs, i, v, rfl, rfl, hs, e, h⟩
theorem r_lenL {p : Addr} {xs : List V} {Pn : Int → Prop} {A : Addr → List V → Prop} (hs : SqL K H p xs) (h : Pn (xs.length : Int)) : ∃ q ys, [V.ref p] = [V.ref q] ∧ (SqL K H q ys ∨ A q ys) ∧ Pn (ys.length : Int) := ⟨p, xs, rfl, .inl hs, h⟩
theorem r_lenT {p : Addr} {xs : List V} {Pn : Int → Prop} {A : Addr → List V → Prop} (hs : SqT K H p xs) (h : Pn (xs.length : Int)) : ∃ q ys, [V.ref p] = [V.ref q] ∧ (A q ys ∨ SqT K H q ys) ∧ Pn (ys.length : Int) := ⟨p, xs, rfl, .inr hs, h⟩
theorem r_cat {x y : Str} (hl : x.length + y.length ≤ sizeLine) (h : Q (.str (x ++ y)) H) : ∃ i j, V.str x = V.str i ∧ V.str y = V.str j ∧ i.length + j.length ≤ sizeLine ∧ Q (.str (i ++ j)) H := ⟨x, y, rfl, rfl, hl, h⟩
theorem r_app {l : Addr} {xs : List V} {y : V} {A : Prop} (h0 : A) (hl : H l = some (.lst xs)) (hz : xs.length < sizeLine) (h : Q .non (upd H l (.lst (xs ++ [y])))) : rAppend (.ref l) [y] H Q := ⟨l, xs, y, rfl, rfl, hl, hz, h⟩
theorem r_setL {p : Addr} {xs : List V} {k : Int} {j : Nat} {v : V} {Q : Hp → Prop} (hl : H p = some (.lst xs)) (e : ixN xs.length k = some j) (h : Q (upd H p (.lst (xs.set j v)))) : rSetL (.ref p) (.int k) v H Q := ⟨p, xs, k, j, rfl, rfl, hl, e, h⟩
theorem r_tyL {l : Addr} {xs : List V} (h : H l = some (.lst xs)) : tyV K "list" (.ref l) H := .inl ⟨rfl, _, SqL.of h⟩
theorem iteT {A B : Prop} (h : A) : if true = true then A else B := L2.iteT h
theorem iteF {A B : Prop} (h : B) : if false = true then A else B := L2.iteF h
theorem iteNT {A B : Prop} (h : B) : if (!true) = true then A else B := L2.iteF h
theorem iteNF {A B : Prop} (h : A) : if (!false) = true then A else B := L2.iteT h
theorem iteB {A B : Prop} {b : Bool} (h1 : b = true → A) (h0 : b = false → B) : if b = true then A else B := by
  cases b with
  | true => exact L2.iteT (h1 rfl)
  | false => exact L2.iteF (h0 rfl)
theorem iteD {A B p : Prop} [Decidable p] (h1 : p → A) (h0 : ¬ p → B) : if decide p = true then A else B := iteB (fun h => h1 (of_decide_eq_true h)) fun h => h0 (of_decide_eq_false h)
theorem iteND {A B p : Prop} [Decidable p] (h1 : ¬ p → A) (h0 : p → B) : if (!decide p) = true then A else B := iteB (fun h => h1 (by simpa using h)) fun h => h0 (by simpa using h)
theorem ite_yes {A B : Prop} {b : Bool} (e : b = true) (h : A) : if b = true then A else B := by
  rw [if_pos e]
  exact h
theorem ite_no {A B : Prop} {b : Bool} (e : b = false) (h : B) : if b = true then A else B := by
  rw [e]
  exact L2.iteF h
end
end K18
end
section
set_option maxRecDepth 100000
set_option maxHeartbeats 4000000
local macro_rules | `(tactic| walk_at "go1") => `(tactic| first
  | (with_reducible refine K18.r_seq ?_) | (with_reducible refine K18.r_ifs ?_) | (with_reducible refine K18.r_ret ?_) | (with_reducible refine K18.r_asg ?_) | (with_reducible refine K18.r_drop ?_) | (with_reducible refine K18.r_next ?_)
  | (with_reducible refine K18.r_name ?_) | (with_reducible refine K18.r_var rfl ?_) | (with_reducible refine K18.r_c ?_) | (with_reducible refine K18.r_op ?_) | (with_reducible refine K18.r_cons ?_) | (with_reducible refine K18.r_nil ?_)
  | (with_reducible refine K18.r_cb ?_) | (with_reducible refine K18.r_call ?_) | (with_reducible refine K18.r_make ?_) | (with_reducible refine K18.r_B ?_) | (with_reducible refine K18.r_test ?_) | (with_reducible refine K18.r_or ?_) | (with_reducible refine K18.r_and ?_) | (with_reducible refine K18.r_not ?_)
  | (with_reducible refine K18.r_andV ?_) | (with_reducible refine K18.r_orV ?_) | (with_reducible refine K18.r_notV ?_) | (with_reducible refine K18.r_if ?_) | (with_reducible refine K18.r_aug rfl ?_) | (with_reducible refine K18.r_ip ?_)
  | (with_reducible refine K18.r_I0 ?_) | (with_reducible refine K18.r_int1 ?_) | (with_reducible refine K18.r_mod (by first | decide | omega) ?_) | (with_reducible refine K18.r_fdivN (by first | decide | omega) (by first | decide | omega) ?_) | (with_reducible refine K18.r_mulR (by first | decide | omega) (by first | decide | omega) ?_) | (with_reducible refine K18.r_mulL (by first | decide | omega) (by first | decide | omega) ?_) | (with_reducible refine K18.r_inG ?_) | (with_reducible refine K18.r_notInG ?_) | (with_reducible refine K18.r_ltS ?_) | (with_reducible refine K18.r_ex ?_) | (with_reducible refine K18.r_eqI ?_) | (with_reducible refine K18.r_neI ?_) | (with_reducible refine K18.r_eqB ?_) | (with_reducible refine K18.r_neB ?_) | (with_reducible refine K18.r_isN ?_)
  | (with_reducible refine K18.r_tup ?_) | (with_reducible refine K18.r_lst ?_) | (with_reducible refine K18.r_yes ?_) | (with_reducible refine K18.r_gsub ?_) | (with_reducible refine K18.r_dget ?_) | (with_reducible refine K18.r_sl ?_) | (with_reducible refine K18.r_part ?_) | (with_reducible refine K18.r_nopart ?_)
  | (with_reducible refine K18.r_chain ?_) | (with_reducible refine K18.r_bm ?_) | (with_reducible refine K18.iteT ?_) | (with_reducible refine K18.iteF ?_) | (with_reducible refine K18.iteNT ?_) | (with_reducible refine K18.iteNF ?_)
  | (with_reducible refine K18.r_for ?_) | (with_reducible refine K18.r_while ?_) | (with_reducible refine K18.r_lc ?_) | (with_reducible refine K18.r_iR1 ?_) | (with_reducible refine K18.r_iR2 ?_) | (with_reducible refine K18.r_iL ?_) | (with_reducible refine K18.r_iT ?_) | (with_reducible refine K18.r_iS ?_)
  | dsimp only [L2.start, List.map, List.replicate, List.length, List.cons_append, List.nil_append, List.append_nil, Nat.reduceAdd, Nat.reduceSub, List.set])
local macro_rules | `(tactic| walk_at "go") => `(tactic| repeat walk_at "go1")
namespace K18
open PySem PySem.Spec PyProof.Rows L2
/-! ### texts by their codes -/
def S (l : List Nat) : Str := ⟨l.toArray⟩
theorem S_list (l : List Nat) : (S l).cps.toList = l := rfl
theorem S_len (l : List Nat) : (S l).length = l.length := by
  show l.toArray.size = l.length
  simp
theorem S_size (l : List Nat) : (S l).cps.size = l.length := by
  show l.toArray.size = l.length
  simp
theorem S_app (a b : List Nat) : S a ++ S b = S (a ++ b) := by
  show (⟨a.toArray ++ b.toArray⟩ : Str) = ⟨(a ++ b).toArray⟩
  rw [List.append_toArray]
theorem S_inj {a b : List Nat} (e : S a = S b) : a = b := by
  have h : (S a).cps.toList = (S b).cps.toList := by rw [e]
  exact h
theorem S_of (z : Str) : z = S z.cps.toList := by
  obtain ⟨c⟩ := z
  show (⟨c⟩ : Str) = ⟨c.toList.toArray⟩
  simp
theorem S_nil : (S [] : Str) = "" := by rfl
theorem sl100 {n : Nat} (h : n ≤ 100000) : n ≤ sizeLine := Nat.le_trans h (by decide)
theorem sl100' {n : Nat} (h : n < 100000) : n < sizeLine := Nat.lt_of_lt_of_le h (by decide)

/-! ### walks -/
theorem walk_S {l : List Nat} : L2.Walk (Its (S l)) (l.map fun c => V.str (S [c])).length (fun _ => True) (YAt (l.map fun c => V.str (S [c]))) :=
  ⟨fun i _ hi _ => by
    show i < (S l).cps.size
    rw [S_size]
    simpa using hi, fun _ _ => by
    show (S l).cps.size ≤ _
    rw [S_size]
    simp, fun i H x H' hi _ y => by
    obtain ⟨e, c, h1, h2⟩ := y
    refine ⟨e, ?_⟩
    have h3 : l[i]? = some c := by
      have z : l.toArray[i]? = some c := h1
      simpa using z
    rw [List.getElem?_map, h3, h2]
    rfl⟩
theorem walk_R {lo : Int} {n : Nat} : L2.Walk (Itr lo n) ((List.range n).map fun i => V.int (lo + (i : Nat))).length (fun _ => True) (YAt ((List.range n).map fun i => V.int (lo + (i : Nat)))) :=
  ⟨fun i _ hi _ => by simpa [Itr] using hi, fun _ _ => by simp [Itr], fun i H x H' hi _ y => by
    obtain ⟨e, h⟩ := y
    refine ⟨e, ?_⟩
    have hi' : i < n := by simpa using hi
    rw [List.getElem?_map, List.getElem?_range hi', h]
    rfl⟩

/-! ### comprehensions of one for, no if -/
section
variable {J : It} {xs : List V} {G : Hp → Prop} {σ : L2.St} {j : Nat} {te : TE} {H1 : Hp} {D : Addr} {Qd : Hp → Prop}
theorem wipe1 (σ : L2.St) (j : Nat) (x : V) : wipe ((wipe σ [j]).set j (some x)) [j] = wipe σ [j] := by
  show ((σ.set j none).set j (some x)).set j none = σ.set j none
  rw [List.set_set, List.set_set]
theorem lc1 (hz : xs.length ≤ 100000) (w : L2.Walk J xs.length G (YAt xs)) (I : Nat → List V → Hp → Prop) (h0 : I 0 [] (upd H1 D (.lst []))) (hG : ∀ i ys H, i ≤ xs.length → I i ys H → G H)
    (hs : ∀ i x ys H, xs[i]? = some x → ys.length = i → I i ys H → H D = some (.lst ys) → ∀ Q : VK, (∀ y H4, H4 D = some (.lst ys) → I (i + 1) (ys ++ [y]) (upd H4 D (.lst (ys ++ [y]))) → Q y H4) → te ((σ.set j none).set j (some x)) H Q)
    (hd : ∀ ys H, ys.length = xs.length → I xs.length ys H → H D = some (.lst ys) → Qd H) :
    ∃ W : Nat → Nat → Hp → Prop, (∃ m, W 0 m (upd H1 D (.lst []))) ∧ ∀ i m H, W i m H →
      (J.stop i H ∧ Qd H) ∨ (J.go i H ∧ ∃ Nx : Hp → Prop, (∀ H', Nx H' → ∃ m', m' < m ∧ W (i + 1) m' H') ∧ ∀ x H', J.yld i H x H' → gName j x (wipe σ [j]) H' fun σ2 H2 => wipe σ2 [j] = wipe σ [j] ∧ tYes σ2 H2 fun b H3 =>
        if b = true then te σ2 H3 fun y H4 => ∃ acc, H4 D = some (.lst acc) ∧ acc.length < sizeLine ∧ Nx (upd H4 D (.lst (acc ++ [y]))) else Nx H3) := by
  refine L2.lc_it (σ := σ) w (fun i H => ∃ ys, ys.length = i ∧ I i ys H ∧ H D = some (.lst ys)) ⟨[], rfl, h0, upd_same⟩ (fun i H hi ⟨ys, _, h, _⟩ => hG i ys H hi h) ?_ (fun H ⟨ys, h1, h2, h3⟩ => hd ys H h1 h2 h3)
  rintro i x H H' hi ⟨ys, h1, h2, h3⟩ ⟨rfl, hx⟩
  refine ⟨wipe1 σ j x, ?_⟩
  refine r_yes ?_
  refine L2.iteT ?_
  refine hs i x ys _ hx h1 h2 h3 _ fun y H4 q1 q2 => ⟨ys, q1, sl100' (by omega), ys ++ [y], by simp [h1], q2, upd_same⟩
/-- each item makes, leaving all as it was, a thing that stands to it as Pe says -/
theorem lc_rel (hz : xs.length ≤ 100000) (hD : H1 D = none) (w : L2.Walk J xs.length G (YAt xs)) (hG : ∀ H, Same H1 H → G H) (Pe : V → V → Hp → Prop) (mono : ∀ x y H H', Same H H' → Pe x y H → Pe x y H')
    (he : ∀ (i : Nat) x H, xs[i]? = some x → Same H1 H → ∀ Q : VK, (∀ y H', Same H H' → Pe x y H' → Q y H') → te ((σ.set j none).set j (some x)) H Q)
    (hd : ∀ ys H, Same H1 H → H D = some (.lst ys) → Paired (fun x y => Pe x y H) xs ys → Qd H) (hpe : ∀ x y H o, Pe x y H → H D = some (.lst o) → ∀ o', Pe x y (upd H D (.lst o'))) :
    ∃ W : Nat → Nat → Hp → Prop, (∃ m, W 0 m (upd H1 D (.lst []))) ∧ ∀ i m H, W i m H →
      (J.stop i H ∧ Qd H) ∨ (J.go i H ∧ ∃ Nx : Hp → Prop, (∀ H', Nx H' → ∃ m', m' < m ∧ W (i + 1) m' H') ∧ ∀ x H', J.yld i H x H' → gName j x (wipe σ [j]) H' fun σ2 H2 => wipe σ2 [j] = wipe σ [j] ∧ tYes σ2 H2 fun b H3 =>
        if b = true then te σ2 H3 fun y H4 => ∃ acc, H4 D = some (.lst acc) ∧ acc.length < sizeLine ∧ Nx (upd H4 D (.lst (acc ++ [y]))) else Nx H3) := by
  refine lc1 hz w (fun i ys H => Same H1 H ∧ Paired (fun x y => Pe x y H) (xs.take i) ys) ⟨same_new hD, by rw [List.take_zero]; exact .nil⟩ (fun i ys H _ h => hG H h.1) ?_ ?_
  · rintro i x ys H hx _ ⟨s1, p⟩ hL Q k
    refine he i x H hx s1 Q fun y H4 s2 q => k y H4 (s2 _ _ hL) ⟨same_mut (s1.trans s2) hD, ?_⟩
    have e : xs.take (i + 1) = xs.take i ++ [x] := by
      obtain ⟨h1, h2⟩ := List.getElem?_eq_some_iff.mp hx
      rw [List.take_add_one, hx]
      rfl
    rw [e]
    exact Paired.snoc (Paired.mapP p fun x y z => hpe x y H4 ys (mono x y H H4 s2 z) (s2 _ _ hL) _) (hpe x y H4 ys q (s2 _ _ hL) _)
  · rintro ys H _ ⟨s1, p⟩ hL
    rw [List.take_length] at p
    exact hd ys H s1 hL p
/-- each item x makes f x -/
theorem lc_map (f : V → V) (hz : xs.length ≤ 100000) (hD : H1 D = none) (w : L2.Walk J xs.length G (YAt xs)) (hG : ∀ H, Same H1 H → G H)
    (he : ∀ (i : Nat) x H, xs[i]? = some x → Same H1 H → ∀ Q : VK, (∀ H', Same H H' → Q (f x) H') → te ((σ.set j none).set j (some x)) H Q)
    (hd : ∀ H, Same H1 H → H D = some (.lst (xs.map f)) → Qd H) :
    ∃ W : Nat → Nat → Hp → Prop, (∃ m, W 0 m (upd H1 D (.lst []))) ∧ ∀ i m H, W i m H →
      (J.stop i H ∧ Qd H) ∨ (J.go i H ∧ ∃ Nx : Hp → Prop, (∀ H', Nx H' → ∃ m', m' < m ∧ W (i + 1) m' H') ∧ ∀ x H', J.yld i H x H' → gName j x (wipe σ [j]) H' fun σ2 H2 => wipe σ2 [j] = wipe σ [j] ∧ tYes σ2 H2 fun b H3 =>
        if b = true then te σ2 H3 fun y H4 => ∃ acc, H4 D = some (.lst acc) ∧ acc.length < sizeLine ∧ Nx (upd H4 D (.lst (acc ++ [y]))) else Nx H3) := by
  refine lc_rel hz hD w hG (fun x y _ => y = f x) (fun _ _ _ _ _ h => h) (fun i x H hx s Q k => he i x H hx s Q fun H' s' => k _ H' s' rfl) (fun ys H s hL p => hd H s ?_) (fun _ _ _ _ h _ _ => h)
  have e : ys = xs.map f := by
    clear hd he hz w hL
    induction p with
    | nil => rfl
    | cons h t ih => rw [List.map_cons, h, ih]
  rw [← e]
  exact hL
end
/-! ### the like where the thing at a may change (the bag) -/
section
variable {J : It} {xs : List V} {G : Hp → Prop} {σ : L2.St} {j : Nat} {te : TE} {H1 : Hp} {D a : Addr} {Qd : Hp → Prop}
theorem lc_bag (B : Hp → Prop) (hB : ∀ H o, D ≠ a → B H → B (upd H D o)) (hz : xs.length ≤ 100000) (hD : H1 D = none) (hDa : D ≠ a) (hB1 : B H1) (w : L2.Walk J xs.length G (YAt xs)) (hG : ∀ H, SB a H1 H → G H) (Pe : V → V → Hp → Prop) (mono : ∀ x y H H', B H → SB a H H' → Pe x y H → Pe x y H')
    (he : ∀ (i : Nat) x H, xs[i]? = some x → SB a H1 H → B H → ∀ Q : VK, (∀ y H', SB a H H' → B H' → Pe x y H' → Q y H') → te ((σ.set j none).set j (some x)) H Q)
    (hd : ∀ ys H, SB a H1 H → B H → H D = some (.lst ys) → Paired (fun x y => Pe x y H) xs ys → Qd H) (hpe : ∀ x y H o, Pe x y H → H D = some (.lst o) → ∀ o', Pe x y (upd H D (.lst o'))) :
    ∃ W : Nat → Nat → Hp → Prop, (∃ m, W 0 m (upd H1 D (.lst []))) ∧ ∀ i m H, W i m H →
      (J.stop i H ∧ Qd H) ∨ (J.go i H ∧ ∃ Nx : Hp → Prop, (∀ H', Nx H' → ∃ m', m' < m ∧ W (i + 1) m' H') ∧ ∀ x H', J.yld i H x H' → gName j x (wipe σ [j]) H' fun σ2 H2 => wipe σ2 [j] = wipe σ [j] ∧ tYes σ2 H2 fun b H3 =>
        if b = true then te σ2 H3 fun y H4 => ∃ acc, H4 D = some (.lst acc) ∧ acc.length < sizeLine ∧ Nx (upd H4 D (.lst (acc ++ [y]))) else Nx H3) := by
  refine lc1 hz w (fun i ys H => SB a H1 H ∧ B H ∧ Paired (fun x y => Pe x y H) (xs.take i) ys) ⟨(SB.refl a H1).mut (.inr hD), hB _ _ hDa hB1, by rw [List.take_zero]; exact .nil⟩ (fun i ys H _ h => hG H h.1) ?_ ?_
  · rintro i x ys H hx _ ⟨s1, b, p⟩ hL Q k
    refine he i x H hx s1 b Q fun y H4 s2 b2 q => k y H4 (s2 _ _ hDa hL) ⟨(s1.trans s2).mut (.inr hD), hB _ _ hDa b2, ?_⟩
    have e : xs.take (i + 1) = xs.take i ++ [x] := by
      rw [List.take_add_one, hx]
      rfl
    rw [e]
    exact Paired.snoc (Paired.mapP p fun x y z => hpe x y H4 ys (mono x y H H4 b s2 z) (s2 _ _ hDa hL) _) (hpe x y H4 ys q (s2 _ _ hDa hL) _)
  · rintro ys H _ ⟨s1, b, p⟩ hL
    rw [List.take_length] at p
    exact hd ys H s1 b hL p
end
theorem paired_map {α : Type} {β : Type} {f : α → β} : ∀ {xs : List α} {ys : List β}, Paired (fun x y => y = f x) xs ys → ys = xs.map f
  | _, _, .nil => rfl
  | _, _, .cons h t => by rw [List.map_cons, h, paired_map t]

/-! ### rows of numbers -/
def rI (l : List Nat) : List V := l.map fun x : Nat => V.int ((x : Nat) : Int)
theorem rI_len (l : List Nat) : (rI l).length = l.length := by simp [rI]
theorem rI_get {l : List Nat} {i x : Nat} (h : l[i]? = some x) : (rI l)[i]? = some (.int (x : Int)) := by
  unfold rI
  rw [List.getElem?_map, h]
  rfl
def RowT (K : PySem.W.Frag) (H : Hp) (v : V) (r : List Nat) : Prop := ∃ a, v = .ref a ∧ SqT K H a (rI r)
def RowsT (K : PySem.W.Frag) (H : Hp) (v : V) (rows : List (List Nat)) : Prop := ∃ a vs, v = .ref a ∧ SqT K H a vs ∧ Paired (fun r v => RowT K H v r) rows vs
section
variable {K : PySem.W.Frag} {H H' : Hp} {v : V} {r : List Nat} {rows : List (List Nat)}
theorem RowT.kp (e : Kp H H') (h : RowT K H v r) : RowT K H' v r := let ⟨a, h1, h2⟩ := h; ⟨a, h1, sqT_kp e h2⟩
theorem RowsT.kp (e : Kp H H') (h : RowsT K H v rows) : RowsT K H' v rows := let ⟨a, vs, h1, h2, h3⟩ := h; ⟨a, vs, h1, sqT_kp e h2, Paired.mapP h3 fun _ _ z => z.kp e⟩
theorem paired_get {α β : Type} {F : α → β → Prop} : ∀ {l : List α} {m : List β} {i : Nat} {x : α}, Paired F l m → l[i]? = some x → ∃ y, m[i]? = some y ∧ F x y
  | _, _, _, _, .nil, h => by simp at h
  | _, _, 0, _, .cons r _, h => by
    simp at h
    subst h
    exact ⟨_, rfl, r⟩
  | _, _, i + 1, x, .cons _ t, h => by
    obtain ⟨y, h1, h2⟩ := paired_get (i := i) (x := x) t (by simpa using h)
    exact ⟨y, by simpa using h1, h2⟩
theorem paired_get' {α β : Type} {F : α → β → Prop} {l : List α} {m : List β} {i : Nat} {y : β} (p : Paired F l m) (h : m[i]? = some y) : ∃ x, l[i]? = some x ∧ F x y := by
  have hl := Paired.length p
  have hi : i < l.length := by
    rw [hl]
    exact (List.getElem?_eq_some_iff.mp h).1
  obtain ⟨y', h1, h2⟩ := paired_get p (List.getElem?_eq_some_iff.mpr ⟨hi, rfl⟩)
  rw [h] at h1
  cases h1
  exact ⟨_, List.getElem?_eq_some_iff.mpr ⟨hi, rfl⟩, h2⟩
end

/-! ### the bag: three numbers -/
def Bag (H : Hp) (a : Addr) : Prop := ∃ d s c : Int, H a = some (.lst [.int d, .int s, .int c])
theorem Bag.lst {H : Hp} {a : Addr} (h : Bag H a) : ∃ xs, H a = some (.lst xs) := let ⟨_, _, _, h⟩ := h; ⟨_, h⟩
theorem SB.bkp {a : Addr} {H H' : Hp} (e : SB a H H') (h : Bag H a) : Kp H H' := let ⟨_, h⟩ := h.lst; e.kp h
theorem Bag.same {H H' : Hp} {a : Addr} (h : Bag H a) (e : Same H H') : Bag H' a := let ⟨d, s, c, h⟩ := h; ⟨d, s, c, e _ _ h⟩
theorem Bag.upd {H : Hp} {a p : Addr} {o : HO} (h : Bag H a) (ne : p ≠ a) : Bag (upd H p o) a := let ⟨d, s, c, h⟩ := h; ⟨d, s, c, by rw [upd_ne (Ne.symm ne)]; exact h⟩
theorem Bag.ne {H : Hp} {a p : Addr} (h : Bag H a) (hp : H p = none) : p ≠ a := fun z => by
  obtain ⟨_, _, _, h⟩ := h
  rw [z, h] at hp
  cases hp
/-- what the caller of a drawing def knows behind it -/
def Drew (a : Addr) (H H' : Hp) : Prop := SB a H H' ∧ Bag H' a
theorem Drew.trans {a : Addr} {H H1 H2 : Hp} (x : Drew a H H1) (y : Drew a H1 H2) : Drew a H H2 := ⟨x.1.trans y.1, y.2⟩
theorem Drew.kp {a : Addr} {H H' : Hp} (x : Drew a H H') (h : Bag H a) : Kp H H' := x.1.bkp h
theorem Drew.refl {a : Addr} {H : Hp} (h : Bag H a) : Drew a H H := ⟨SB.refl a H, h⟩
theorem Drew.new {a p : Addr} {H H' : Hp} {o : HO} (x : Drew a H H') (h : Bag H a) (hp : H' p = none) : Drew a H (L2.upd H' p o) := by
  have ne := x.2.ne hp
  exact ⟨x.1.mut (.inr (x.1.free ne hp)), x.2.upd ne⟩
theorem Drew.mut {a p : Addr} {H H' : Hp} {o : HO} (x : Drew a H H') (ne : p ≠ a) (hp : H p = none) : Drew a H (L2.upd H' p o) := ⟨x.1.mut (.inr hp), x.2.upd ne⟩
theorem Drew.same {a : Addr} {H H1 H2 : Hp} (x : Drew a H H1) (e : Same H1 H2) : Drew a H H2 := ⟨x.1.trans (same_sb e), x.2.same e⟩
def spPick : Sp := fun vs H Q _ => ∃ (a : Addr) (n : Nat), vs = [.ref a, .int (n : Nat)] ∧ Bag H a ∧ 1 ≤ n ∧ n < 1073741824 ∧ ∀ (r : Nat) H', r < n → Drew a H H' → Q (.int ((r : Nat) : Int)) H'

theorem seqIx {r n : Nat} (h : r < n) : seqIndex? ((r : Nat) : Int) n = some r := by
  have e : ixN n ((r : Nat) : Int) = some r := by
    unfold ixN
    rw [if_pos (by omega), if_pos (by omega)]
    simp
  exact (ixN_seq e).1
theorem ixNn {r n : Nat} (h : r < n) : ixN n ((r : Nat) : Int) = some r := by
  unfold ixN
  rw [if_pos (by omega), if_pos (by omega)]
  simp
/-! ### papers, signs -/
def Pap (sg l : List Nat) : Prop := ∀ c ∈ l, c ∈ sg
def EV : List Nat := [48, 49, 50, 51, 52, 53, 54, 55, 56, 57, 65, 66, 67, 68, 69, 70, 71, 72, 73, 74, 75, 76, 77, 78, 79, 80, 81, 82, 83, 84, 85, 86, 87, 88, 89, 90]
theorem EV_str : ("0123456789ABCDEFGHIJKLMNOPQRSTUVWXYZ" : Str) = S EV := by decide +kernel
structure Sgn (sg : List Nat) : Prop where
  len : sg.length = 2 ∨ sg.length = 3
  asc : sg.Pairwise (· < ·)
  ev : ∀ c ∈ sg, c ∈ EV
theorem Pap.nil {sg : List Nat} : Pap sg [] := fun _ h => nomatch h
theorem Pap.app {sg l m : List Nat} (h : Pap sg l) (h' : Pap sg m) : Pap sg (l ++ m) := fun c hc => by
  rcases List.mem_append.mp hc with q | q
  · exact h c q
  · exact h' c q
theorem Pap.one {sg : List Nat} {c : Nat} (h : c ∈ sg) : Pap sg [c] := fun x hx => by
  rw [List.mem_singleton.mp hx]
  exact h
/-! ### loops and comprehensions, opened -/
def LcG (J : It) (g : TG) (tt : TT) (te : TE) (vs : List Nat) (σ : L2.St) (H1 : Hp) (D : Addr) (Qd : Hp → Prop) : Prop := ∃ W : Nat → Nat → Hp → Prop, (∃ m, W 0 m (upd H1 D (.lst []))) ∧ ∀ i m H, W i m H →
  (J.stop i H ∧ Qd H) ∨ (J.go i H ∧ ∃ Nx : Hp → Prop, (∀ H', Nx H' → ∃ m', m' < m ∧ W (i + 1) m' H') ∧ ∀ x H', J.yld i H x H' → g x (wipe σ vs) H' fun σ2 H2 => wipe σ2 vs = wipe σ vs ∧ tt σ2 H2 fun b H3 =>
    if b = true then te σ2 H3 fun y H4 => ∃ acc, H4 D = some (.lst acc) ∧ acc.length < sizeLine ∧ Nx (upd H4 D (.lst (acc ++ [y]))) else Nx H3)
def FoG (J : It) (g : TG) (tb : TS) (D : Ends) (σ : L2.St) (H1 : Hp) : Prop := ∃ W : Nat → Nat → L2.St → Hp → Prop, (∃ m, W 0 m σ H1) ∧ ∀ i m σ H, W i m σ H →
  (J.stop i H ∧ D.nx σ H) ∨ (J.go i H ∧ ∃ N : L2.St → Hp → Prop, (∀ σ' H', N σ' H' → ∃ m', m' < m ∧ W (i + 1) m' σ' H') ∧ ∀ x H', J.yld i H x H' → g x σ H' fun σ2 H2 => tb { D with nx := N, ct := N, bk := D.nx } σ2 H2)
def WhG (c : TT) (tb : TS) (D : Ends) (σ : L2.St) (H : Hp) : Prop := ∃ W : Nat → L2.St → Hp → Prop, (∃ m, W m σ H) ∧ ∀ m σ H, W m σ H → c σ H fun b H1 => if b = true then ∃ N : L2.St → Hp → Prop, (∀ σ' H', N σ' H' → ∃ m', m' < m ∧ W m' σ' H') ∧ tb { D with nx := N, ct := N, bk := D.nx } σ H1 else D.nx σ H1
section
variable {σ : L2.St} {H H1 : Hp} {Q : VK} {D : Ends} {tb : TS} {te tl : TE} {as : TA} {K : PySem.W.Frag} {g : TG} {j : Nat} {tt tc : TT} {vs : List Nat} {a : Addr} {xs : List V} {R : It → Hp → Prop}
theorem r_for {wi : TI} (h : wi σ H fun J H1 => FoG J g tb D σ H1) : tFor wi g tb D σ H := h
theorem r_while (h : WhG tc tb D σ H) : tWhile tc tb D σ H := h
theorem r_lc {wi : TI} (h : wi σ H fun J H1 => ∀ D, H1 D = none → LcG J g tt te vs σ H1 D (Q (.ref D))) : tLc wi g tt te vs σ H Q := h
theorem r_iR1 (h : as σ H fun vs H1 => ∃ j : Int, vs = [.int j] ∧ -(2 ^ 62) ≤ j ∧ j < 2 ^ 62 ∧ R (Itr 0 j.toNat) H1) : iRng1 as σ H R := h
theorem r_iR2 (h : as σ H fun vs H1 => ∃ i j : Int, vs = [.int i, .int j] ∧ (-(2 ^ 62) ≤ i ∧ i < 2 ^ 62 ∧ -(2 ^ 62) ≤ j ∧ j < 2 ^ 62) ∧ R (Itr i (j - i).toNat) H1) : iRng2 as σ H R := h
theorem r_iL (h : tl σ H fun x H1 => ∃ a, x = .ref a ∧ (∃ xs, SqL K H1 a xs) ∧ R (Itl K a) H1) : iList K tl σ H R := h
theorem r_iT (h : tl σ H fun x H1 => ∃ a, x = .ref a ∧ (∃ xs, SqT K H1 a xs) ∧ R (Itt K a) H1) : iTup K tl σ H R := h
theorem r_iS (h : tl σ H fun v H1 => ∃ x, v = .str x ∧ R (Its x) H1) : iStr tl σ H R := h
theorem fo_R {n : Nat} (Pv : Nat → L2.St → Hp → Prop) (h0 : Pv 0 σ H) (hs : ∀ (i : Nat) σ' H', i < n → Pv i σ' H' → tb { D with nx := Pv (i + 1), ct := Pv (i + 1), bk := D.nx } (σ'.set j (some (.int ((i : Nat) : Int)))) H')
    (hd : ∀ σ' H', Pv n σ' H' → D.nx σ' H') : FoG (Itr 0 ((n : Nat) : Int).toNat) (gName j) tb D σ H := by
  rw [show ((n : Nat) : Int).toNat = n by omega]
  refine for_range (lo := 0) (n := n) Pv h0 (fun i σ' H' hi p => ?_) hd
  have e0 : (0 : Int) + (i : Int) = (i : Int) := Int.zero_add _
  show tb { D with nx := Pv (i + 1), ct := Pv (i + 1), bk := D.nx } (σ'.set j (some (.int ((0 : Int) + (i : Int))))) H'
  rw [e0]
  exact hs i σ' H' hi p
/-- range(lo, hi), told by the number itself -/
theorem fo_R2 {lo n : Nat} (Pv : Nat → L2.St → Hp → Prop) (h0 : Pv lo σ H) (hle : lo ≤ n) (hs : ∀ (i : Nat) σ' H', lo ≤ i → i < n → Pv i σ' H' → tb { D with nx := Pv (i + 1), ct := Pv (i + 1), bk := D.nx } (σ'.set j (some (.int ((i : Nat) : Int)))) H')
    (hd : ∀ σ' H', Pv n σ' H' → D.nx σ' H') : FoG (Itr ((lo : Nat) : Int) (((n : Nat) : Int) - ((lo : Nat) : Int)).toNat) (gName j) tb D σ H := by
  rw [show (((n : Nat) : Int) - ((lo : Nat) : Int)).toNat = n - lo by omega]
  refine for_range (lo := ((lo : Nat) : Int)) (n := n - lo) (fun i => Pv (lo + i)) h0 (fun i σ' H' hi p => ?_) (fun σ' H' p => hd σ' H' (by
    have e : lo + (n - lo) = n := by omega
    rw [e] at p
    exact p))
  have e0 : ((lo : Nat) : Int) + (i : Int) = ((lo + i : Nat) : Int) := by omega
  show tb { D with nx := Pv (lo + (i + 1)), ct := Pv (lo + (i + 1)), bk := D.nx } (σ'.set j (some (.int (((lo : Nat) : Int) + (i : Int))))) H'
  rw [e0]
  exact hs (lo + i) σ' H' (by omega) (by omega) p
theorem fo_L (Pv : Nat → L2.St → Hp → Prop) (h0 : Pv 0 σ H) (hl : ∀ i σ H, i ≤ xs.length → Pv i σ H → SqL K H a xs) (hs : ∀ (i : Nat) x σ H, xs[i]? = some x → Pv i σ H → g x σ H fun σ2 H2 => tb { D with nx := Pv (i + 1), ct := Pv (i + 1), bk := D.nx } σ2 H2)
    (hd : ∀ σ H, Pv xs.length σ H → D.nx σ H) : FoG (Itl K a) g tb D σ H := for_list Pv h0 hl hs hd
theorem fo_T (Pv : Nat → L2.St → Hp → Prop) (h0 : Pv 0 σ H) (hl : ∀ i σ H, i ≤ xs.length → Pv i σ H → SqT K H a xs) (hs : ∀ (i : Nat) x σ H, xs[i]? = some x → Pv i σ H → g x σ H fun σ2 H2 => tb { D with nx := Pv (i + 1), ct := Pv (i + 1), bk := D.nx } σ2 H2)
    (hd : ∀ σ H, Pv xs.length σ H → D.nx σ H) : FoG (Itt K a) g tb D σ H := for_tup Pv h0 hl hs hd
theorem fo_S {l : List Nat} (Pv : Nat → L2.St → Hp → Prop) (h0 : Pv 0 σ H) (hs : ∀ (i : Nat) c σ H, l[i]? = some c → Pv i σ H → tb { D with nx := Pv (i + 1), ct := Pv (i + 1), bk := D.nx } (σ.set j (some (.str (S [c])))) H)
    (hd : ∀ σ H, Pv l.length σ H → D.nx σ H) : FoG (Its (S l)) (gName j) tb D σ H := by
  refine L2.for_it walk_S Pv h0 (fun _ _ _ _ _ => trivial) (fun i x σ H H' hi p y => ?_) (fun σ H p => hd σ H (by simpa using p))
  obtain ⟨rfl, y⟩ := y
  rw [List.getElem?_map] at y
  cases e : l[i]? with
  | none =>
    rw [e] at y
    cases y
  | some c =>
    rw [e] at y
    cases y
    exact hs i c σ _ e p
theorem lcg_rel {J : It} {G : Hp → Prop} (hz : xs.length ≤ 100000) {D : Addr} {Qd : Hp → Prop} (hD : H1 D = none) (w : L2.Walk J xs.length G (YAt xs)) (hG : ∀ H, Same H1 H → G H) (Pe : V → V → Hp → Prop) (mono : ∀ x y H H', Same H H' → Pe x y H → Pe x y H')
    (he : ∀ (i : Nat) x H, xs[i]? = some x → Same H1 H → ∀ Q : VK, (∀ y H', Same H H' → Pe x y H' → Q y H') → te ((σ.set j none).set j (some x)) H Q)
    (hd : ∀ ys H, Same H1 H → H D = some (.lst ys) → Paired (fun x y => Pe x y H) xs ys → Qd H) (hpe : ∀ x y H o, Pe x y H → H D = some (.lst o) → ∀ o', Pe x y (upd H D (.lst o'))) : LcG J (gName j) tYes te [j] σ H1 D Qd :=
  lc_rel hz hD w hG Pe mono he hd hpe
theorem lcg_map {J : It} {G : Hp → Prop} (f : V → V) (hz : xs.length ≤ 100000) {D : Addr} {Qd : Hp → Prop} (hD : H1 D = none) (w : L2.Walk J xs.length G (YAt xs)) (hG : ∀ H, Same H1 H → G H)
    (he : ∀ (i : Nat) x H, xs[i]? = some x → Same H1 H → ∀ Q : VK, (∀ H', Same H H' → Q (f x) H') → te ((σ.set j none).set j (some x)) H Q)
    (hd : ∀ H, Same H1 H → H D = some (.lst (xs.map f)) → Qd H) : LcG J (gName j) tYes te [j] σ H1 D Qd := lc_map f hz hD w hG he hd
/-- over a text -/
theorem lcg_S {l : List Nat} (f : Nat → V) (hz : l.length ≤ 100000) {D : Addr} {Qd : Hp → Prop} (hD : H1 D = none)
    (he : ∀ c H, c ∈ l → Same H1 H → ∀ Q : VK, (∀ H', Same H H' → Q (f c) H') → te ((σ.set j none).set j (some (.str (S [c])))) H Q)
    (hd : ∀ H, Same H1 H → H D = some (.lst (l.map f)) → Qd H) : LcG (Its (S l)) (gName j) tYes te [j] σ H1 D Qd := by
  refine lcg_rel (by simpa using hz) hD walk_S (fun _ _ => trivial) (fun x y _ => ∃ c, x = .str (S [c]) ∧ y = f c) (fun _ _ _ _ _ h => h) (fun i x H hx s Q k => ?_) (fun ys H s hL p => hd H s ?_) (fun _ _ _ _ h _ _ => h)
  · rw [List.getElem?_map] at hx
    cases e : l[i]? with
    | none =>
      rw [e] at hx
      cases hx
    | some c =>
      rw [e] at hx
      cases hx
      exact he c H (List.mem_of_getElem? e) s Q fun H' s' => k _ H' s' ⟨c, rfl, rfl⟩
  · have e : ∀ {l : List Nat} {ys : List V}, Paired (fun x y => ∃ c, x = V.str (S [c]) ∧ y = f c) (l.map fun c => V.str (S [c])) ys → ys = l.map f := by
      intro l
      induction l with
      | nil => intro ys p; cases p; rfl
      | cons c l ih =>
        intro ys p
        cases p with
        | cons h t =>
          obtain ⟨c', e1, e2⟩ := h
          have e3 : [c] = [c'] := S_inj (V.str.inj e1)
          cases e3
          rw [e2, ih t]
          rfl
    rw [← e p]
    exact hL
/-- over range(n) -/
theorem lcg_R {n : Nat} (f : Nat → V) (hz : n ≤ 100000) {D : Addr} {Qd : Hp → Prop} (hD : H1 D = none)
    (he : ∀ (i : Nat) H, i < n → Same H1 H → ∀ Q : VK, (∀ H', Same H H' → Q (f i) H') → te ((σ.set j none).set j (some (.int ((i : Nat) : Int)))) H Q)
    (hd : ∀ H, Same H1 H → H D = some (.lst ((List.range n).map f)) → Qd H) : LcG (Itr 0 ((n : Nat) : Int).toNat) (gName j) tYes te [j] σ H1 D Qd := by
  rw [show ((n : Nat) : Int).toNat = n by omega]
  refine lc1 (by simpa using hz) walk_R (fun i ys H => Same H1 H ∧ ys = (List.range i).map f) ⟨same_new hD, rfl⟩ (fun _ _ _ _ _ => trivial) ?_ ?_
  · rintro i x ys H hx hl ⟨s1, hy⟩ hL Q k
    have hi : i < n := by
      have := (List.getElem?_eq_some_iff.mp hx).1
      simpa using this
    rw [List.getElem?_map, List.getElem?_range hi] at hx
    cases hx
    have e0 : (0 : Int) + ((i : Nat) : Int) = ((i : Nat) : Int) := Int.zero_add _
    show te ((σ.set j none).set j (some (V.int ((0 : Int) + ((i : Nat) : Int))))) H Q
    rw [e0]
    refine he i H hi s1 Q fun H4 s2 => k _ H4 (s2 _ _ hL) ⟨same_mut (s1.trans s2) hD, ?_⟩
    rw [hy, List.range_succ, List.map_append]
    rfl
  · rintro ys H hl ⟨s1, hy⟩ hL
    refine hd H s1 ?_
    rw [hL, hy]
    simp
/-- over a list, a tuple that stands -/
theorem lcg_L (f : V → V) (hz : xs.length ≤ 100000) {D : Addr} {Qd : Hp → Prop} (hD : H1 D = none) (hs : SqL K H1 a xs)
    (he : ∀ (i : Nat) x H, xs[i]? = some x → Same H1 H → ∀ Q : VK, (∀ H', Same H H' → Q (f x) H') → te ((σ.set j none).set j (some x)) H Q)
    (hd : ∀ H, Same H1 H → H D = some (.lst (xs.map f)) → Qd H) : LcG (Itl K a) (gName j) tYes te [j] σ H1 D Qd := lcg_map f hz hD L2.walk_list (fun H s => s.seq hs) he hd
theorem lcg_T (f : V → V) (hz : xs.length ≤ 100000) {D : Addr} {Qd : Hp → Prop} (hD : H1 D = none) (hs : SqT K H1 a xs)
    (he : ∀ (i : Nat) x H, xs[i]? = some x → Same H1 H → ∀ Q : VK, (∀ H', Same H H' → Q (f x) H') → te ((σ.set j none).set j (some x)) H Q)
    (hd : ∀ H, Same H1 H → H D = some (.lst (xs.map f)) → Qd H) : LcG (Itt K a) (gName j) tYes te [j] σ H1 D Qd := lcg_map f hz hD L2.walk_tup (fun H s => sqT_same s hs) he hd
/-- with a bag, over range(n): each turn makes a thing as P says -/
theorem lcb_R {n : Nat} {a : Addr} (B : Bag H1 a) (Pe : V → Hp → Prop) (mono : ∀ y H H', Bag H a → SB a H H' → Pe y H → Pe y H') (hz : n ≤ 100000) {D : Addr} {Qd : Hp → Prop} (hD : H1 D = none) (hpe : ∀ y H o, Pe y H → H D = some (.lst o) → ∀ o', Pe y (upd H D (.lst o')))
    (he : ∀ (i : Nat) H, i < n → Drew a H1 H → (∃ acc, H D = some (.lst acc)) → ∀ Q : VK, (∀ y H', Drew a H H' → Pe y H' → Q y H') → te ((σ.set j none).set j (some (.int ((i : Nat) : Int)))) H Q)
    (hd : ∀ ys H, Drew a H1 H → H D = some (.lst ys) → ys.length = n → (∀ y ∈ ys, Pe y H) → Qd H) : LcG (Itr 0 ((n : Nat) : Int).toNat) (gName j) tYes te [j] σ H1 D Qd := by
  rw [show ((n : Nat) : Int).toNat = n by omega]
  have ne : D ≠ a := B.ne hD
  refine lc1 (by simpa using hz) walk_R (fun i ys H => Drew a H1 H ∧ ∀ y ∈ ys, Pe y H) ⟨(Drew.refl B).new B hD, fun _ h => nomatch h⟩ (fun _ _ _ _ _ => trivial) ?_ ?_
  · rintro i x ys H hx hl ⟨d1, hy⟩ hL Q k
    have hi : i < n := by
      have := (List.getElem?_eq_some_iff.mp hx).1
      simpa using this
    rw [List.getElem?_map, List.getElem?_range hi] at hx
    cases hx
    have e0 : (0 : Int) + ((i : Nat) : Int) = ((i : Nat) : Int) := Int.zero_add _
    show te ((σ.set j none).set j (some (V.int ((0 : Int) + ((i : Nat) : Int))))) H Q
    rw [e0]
    refine he i H hi d1 ⟨_, hL⟩ Q fun y H4 d2 q => k _ H4 (d2.1 _ _ ne hL) ⟨(d1.trans d2).mut ne hD, fun z hz => ?_⟩
    rcases List.mem_append.mp hz with h | h
    · exact hpe z H4 ys (mono z H H4 d1.2 d2.1 (hy z h)) (d2.1 _ _ ne hL) _
    · rw [List.mem_singleton.mp h]
      exact hpe y H4 ys q (d2.1 _ _ ne hL) _
  · rintro ys H hl ⟨d1, hy⟩ hL
    exact hd ys H d1 hL (by simpa using hl) hy
/-- the same over a text -/
theorem lcb_S {l : List Nat} {a : Addr} (B : Bag H1 a) (Pe : V → Hp → Prop) (mono : ∀ y H H', Bag H a → SB a H H' → Pe y H → Pe y H') (hz : l.length ≤ 100000) {D : Addr} {Qd : Hp → Prop} (hD : H1 D = none) (hpe : ∀ y H o, Pe y H → H D = some (.lst o) → ∀ o', Pe y (upd H D (.lst o')))
    (he : ∀ (c : Nat) H, c ∈ l → Drew a H1 H → (∃ acc, H D = some (.lst acc)) → ∀ Q : VK, (∀ y H', Drew a H H' → Pe y H' → Q y H') → te ((σ.set j none).set j (some (.str (S [c])))) H Q)
    (hd : ∀ ys H, Drew a H1 H → H D = some (.lst ys) → ys.length = l.length → (∀ y ∈ ys, Pe y H) → Qd H) : LcG (Its (S l)) (gName j) tYes te [j] σ H1 D Qd := by
  have ne : D ≠ a := B.ne hD
  refine lc1 (by simpa using hz) walk_S (fun i ys H => Drew a H1 H ∧ ∀ y ∈ ys, Pe y H) ⟨(Drew.refl B).new B hD, fun _ h => nomatch h⟩ (fun _ _ _ _ _ => trivial) ?_ ?_
  · rintro i x ys H hx hl ⟨d1, hy⟩ hL Q k
    rw [List.getElem?_map] at hx
    cases e : l[i]? with
    | none =>
      rw [e] at hx
      cases hx
    | some c =>
      rw [e] at hx
      cases hx
      refine he c H (List.mem_of_getElem? e) d1 ⟨_, hL⟩ Q fun y H4 d2 q => k _ H4 (d2.1 _ _ ne hL) ⟨(d1.trans d2).mut ne hD, fun z hz => ?_⟩
      rcases List.mem_append.mp hz with h | h
      · exact hpe z H4 ys (mono z H H4 d1.2 d2.1 (hy z h)) (d2.1 _ _ ne hL) _
      · rw [List.mem_singleton.mp h]
        exact hpe y H4 ys q (d2.1 _ _ ne hL) _
  · rintro ys H hl ⟨d1, hy⟩ hL
    exact hd ys H d1 hL (by simpa using hl) hy
end

def rCatS : R2 := fun x y H Q => ∃ i j, x = .str i ∧ y = .str j ∧ i.length + j.length ≤ sizeLine ∧ Q (.str (i ++ j)) H
theorem op_catS {X : Cx} : OpR X (binaryOp .Add) rCatS := op_add_str
def rLenQ (K : PySem.W.Frag) : List V → Hp → VK → Prop := fun xs H Q => ∃ p ys, xs = [.ref p] ∧ (SqL K H p ys ∨ SqT K H p ys) ∧ Q (.int ys.length) H
theorem call_lenQ {X : Cx} : CallR X (.builtin "len") (rLenQ X.K) := call_len_seq
def rLenZ : List V → Hp → VK → Prop := fun xs H Q => ∃ z, xs = [.str z] ∧ z.length ≤ sizeLine ∧ Q (.int z.length) H
theorem call_lenZ {X : Cx} : CallR X (.builtin "len") rLenZ := call_len_str
def rInG : R2 := fun x y H Q => ∃ (c : Nat) (z : Str), x = .str ⟨#[c]⟩ ∧ y = .str z ∧ Q (.bl (decide (c ∈ z.cps.toList))) H
theorem op_inG {X : Cx} : OpR X (compareOp .In) rInG := op_in_sign
def rNotInG : R2 := fun x y H Q => ∃ (c : Nat) (z : Str), x = .str ⟨#[c]⟩ ∧ y = .str z ∧ Q (.bl (!decide (c ∈ z.cps.toList))) H
theorem op_notInG {X : Cx} : OpR X (compareOp .NotIn) rNotInG := op_notIn_sign
def rLtS : R2 := fun x y H Q => ∃ i j, x = .str i ∧ y = .str j ∧ Q (.bl (decide (i.cps.toList < j.cps.toList))) H
theorem op_ltS {X : Cx} : OpR X (compareOp .Lt) rLtS := op_lt_str
theorem r_catS {H : Hp} {Q : VK} {a b : List Nat} (hl : a.length + b.length ≤ 100000) (h : Q (.str (S (a ++ b))) H) : rCatS (.str (S a)) (.str (S b)) H Q :=
  ⟨S a, S b, rfl, rfl, by rw [S_len, S_len]; exact sl100 hl, by rw [S_app]; exact h⟩
theorem r_lenQL {K : PySem.W.Frag} {H : Hp} {Q : VK} {p : Addr} {xs : List V} (hs : SqL K H p xs) (h : Q (.int ((xs.length : Nat) : Int)) H) : rLenQ K [.ref p] H Q := ⟨p, xs, rfl, .inl hs, h⟩
theorem r_lenQT {K : PySem.W.Frag} {H : Hp} {Q : VK} {p : Addr} {xs : List V} (hs : SqT K H p xs) (h : Q (.int ((xs.length : Nat) : Int)) H) : rLenQ K [.ref p] H Q := ⟨p, xs, rfl, .inr hs, h⟩
theorem r_lenZ {H : Hp} {Q : VK} {l : List Nat} (hz : l.length ≤ 100000) (h : Q (.int ((l.length : Nat) : Int)) H) : rLenZ [.str (S l)] H Q := ⟨S l, rfl, by rw [S_len]; exact sl100 hz, by rw [S_len]; exact h⟩
theorem r_inG {H : Hp} {Q : VK} {c : Nat} {l : List Nat} (h : Q (.bl (decide (c ∈ l))) H) : rInG (.str (S [c])) (.str (S l)) H Q := ⟨c, S l, rfl, rfl, h⟩
theorem r_notInG {H : Hp} {Q : VK} {c : Nat} {l : List Nat} (h : Q (.bl (!decide (c ∈ l))) H) : rNotInG (.str (S [c])) (.str (S l)) H Q := ⟨c, S l, rfl, rfl, h⟩
theorem r_ltS {H : Hp} {Q : VK} {a b : List Nat} (h : Q (.bl (decide (a < b))) H) : rLtS (.str (S a)) (.str (S b)) H Q := ⟨S a, S b, rfl, rfl, h⟩
theorem r_ixS {H : Hp} {Q : VK} {l : List Nat} {r : Nat} (h : r < l.length) (hz : l.length ≤ 100000) (hq : Q (.str (S [l[r]])) H) : rIxS (.str (S l)) (.int ((r : Nat) : Int)) H Q :=
  ⟨S l, _, l[r], rfl, rfl, by rw [S_len]; exact sl100 hz, by rw [S_list]; exact atI_nat (List.getElem?_eq_some_iff.mpr ⟨h, rfl⟩), hq⟩

theorem kp_updL {H : Hp} {D : Addr} {o o' : List V} (h : H D = some (.lst o)) : Kp H (upd H D (.lst o')) := fun b u n hb => by
  rw [upd_ne (fun z => by
    rw [z, h] at hb
    exact n _ (Option.some.inj hb).symm)]
  exact hb
theorem exists_paired {α β : Type} {F : α → β → Prop} : ∀ {ys : List β}, (∀ y ∈ ys, ∃ r, F r y) → ∃ rs, Paired F rs ys
  | [], _ => ⟨[], .nil⟩
  | y :: ys, h => by
    obtain ⟨r, hr⟩ := h y List.mem_cons_self
    obtain ⟨rs, hrs⟩ := exists_paired (F := F) (ys := ys) fun z hz => h z (List.mem_cons_of_mem _ hz)
    exact ⟨r :: rs, .cons hr hrs⟩
theorem exists_rI {P : Nat → Prop} : ∀ {ys : List V}, (∀ y ∈ ys, ∃ x : Nat, y = .int ((x : Nat) : Int) ∧ P x) → ∃ l, ys = rI l ∧ ∀ x ∈ l, P x
  | [], _ => ⟨[], rfl, fun _ h => nomatch h⟩
  | y :: ys, h => by
    obtain ⟨x, e, hx⟩ := h y List.mem_cons_self
    obtain ⟨l, e2, hl⟩ := exists_rI (P := P) (ys := ys) fun z hz => h z (List.mem_cons_of_mem _ hz)
    refine ⟨x :: l, by rw [e, e2]; rfl, fun z hz => ?_⟩
    rcases List.mem_cons.mp hz with q | q
    · rw [q]; exact hx
    · exact hl z q
/-- rows out of a list of row tuples -/
theorem rows_of_mem {K : PySem.W.Frag} {H : Hp} {k n : Nat} {ys : List V} (hn : 0 < n) (hl : ys.length = n) (h : ∀ y ∈ ys, ∃ r, RowT K H y r ∧ r.length = k ∧ ∀ x ∈ r, x < n) : ∃ rows, Tab k n rows ∧ Paired (fun r v => RowT K H v r) rows ys := by
  obtain ⟨rs, p⟩ := exists_paired (F := fun r y => RowT K H y r ∧ r.length = k ∧ ∀ x ∈ r, x < n) h
  refine ⟨rs, ⟨(Paired.length p).trans hl, hn, fun i r hr => ?_⟩, Paired.mapP p fun _ _ z => z.1⟩
  obtain ⟨y, _, z⟩ := paired_get p hr
  exact z.2

/-! ### rules with the written part told apart (for comprehensions within comprehensions) -/
section
variable {X : Cx} (K : PySem.W.Frag) (hK : X.K = K)
def rTupOf (K : PySem.W.Frag) : List V → Hp → VK → Prop := fun xs H Q => ∃ p ys, xs = [.ref p] ∧ ((SqL K H p ys ∧ ∀ l, H l = none → Q (.ref l) (upd H l (.tup ys))) ∨ (SqT K H p ys ∧ Q (.ref p) H))
def rLstOf (K : PySem.W.Frag) : List V → Hp → VK → Prop := fun xs H Q => ∃ p ys, xs = [.ref p] ∧ (SqL K H p ys ∨ SqT K H p ys) ∧ ∀ l, H l = none → Q (.ref l) (upd H l (.lst ys))
def rLenG (K : PySem.W.Frag) : List V → Hp → VK → Prop := fun xs H Q => ∃ x n, xs = [x] ∧ LenV K x H n ∧ Q (.int n) H
def tTruth (K : PySem.W.Frag) (ta : TE) : TT := fun σ H Q => ta σ H fun x H' => ∃ k, TruV K x H' k ∧ Q k H'
include hK
theorem ix_listK : IxR X (rIxL K) := hK ▸ ix_list
theorem ix_tupK : IxR X (rIxT K) := hK ▸ ix_tup
theorem ix_seqK : IxR X (rIx K) := hK ▸ ix_seq
theorem call_lenK : CallR X (.builtin "len") (rLenQ K) := hK ▸ call_lenQ
theorem call_lenGK : CallR X (.builtin "len") (rLenG K) := hK ▸ call_len
theorem call_tupleK : CallR X (.type "tuple") (rTupOf K) := hK ▸ call_tuple_of
theorem call_listK : CallR X (.type "list") (rLstOf K) := hK ▸ call_list_of
theorem call_isiK : CallR X (.builtin "isinstance") (rIsi K) := hK ▸ call_isi
theorem call_isiTK : CallR X (.builtin "isinstance") (rIsiT K) := hK ▸ call_isiT
theorem cr_allK (hc : X.calm = true) : CallR X (.builtin "all") (rAll K) := hK ▸ cr_all hc
theorem cr_sumK (hc : X.calm = true) : CallR X (.builtin "sum") (rSum K) := hK ▸ cr_sum hc
theorem cr_maxK (hc : X.calm = true) : CallR X (.builtin "max") (rMax K) := hK ▸ cr_max hc
theorem op_in_seqK : OpR X (compareOp .In) (rIn K false) := hK ▸ op_in_seq
theorem op_notIn_seqK : OpR X (compareOp .NotIn) (rIn K true) := hK ▸ op_notIn_seq
theorem op_catAK : OpR X (binaryOp .Add) (rCatA K) := hK ▸ op_catA
theorem op_eqDK (hu : X.A.units + 64 < cLine) : OpR X (compareOp .Eq) (rEqD K) := hK ▸ op_eqD hu
theorem op_neDK (hu : X.A.units + 64 < cLine) : OpR X (compareOp .NotEq) (rNeD K) := hK ▸ op_neD hu
theorem pi_listK {tg l : Expr} {tl : TE} (hl : PE X l tl) : PI X tg l (iList K tl) := hK ▸ pi_list hl
theorem pi_tupK {tg l : Expr} {tl : TE} (hl : PE X l tl) : PI X tg l (iTup K tl) := hK ▸ pi_tup hl
theorem pe_fldK {e : Expr} {ta : TE} {f : Str} {pos : Pos} (he : PE X e ta) (hb : attributeBase e f X.env (eval e X.env) = eval e X.env := by rfl) : PE X (.Attribute e f pos) (tFld K ta f) := hK ▸ pe_fld he hb
theorem pe_bmK {T : String} {name : Str} {id : String} {o e : Expr} {es : List Expr} {apos cpos : Pos} {r : V → List V → Hp → VK → Prop} {to : TE} {t : TA} (pa : PlainAttrs T) (slot : Slot T name id) (hty : typeOf (.builtin id) = pure (.type "method_descriptor")) (hm : MtR X id r) (ho : PE X o to) (ha : PA X (e :: es) t)
    (hbase : attributeBase o name X.env (eval o X.env) = eval o X.env := by rfl)
    (hfew : ((backTo cpos (starEach (e :: es) X.env)).all (fun x => !x.1) && (backToKw cpos (keywordEach [] X.env)).all (fun x => x.1.isSome)
      && decide ((e :: es).length + ([] : List Keyword).length + (if ([] : List Keyword).isEmpty then 0 else 1) < 30)) = true := by rfl)
    (hline : (apos.endLine == cpos.line) = true := by rfl) (hs : starEach (e :: es) X.env = (false, eval e X.env) :: starEach es X.env := by rfl) (hplain : (backTo cpos (starEach es X.env)).any (·.1) = false := by rfl) :
    PE X (.Call (.Attribute o name apos) (e :: es) [] cpos) (tBM K T r to t) := hK ▸ pe_bm pa slot hty hm ho ha hbase hfew hline hs hplain
theorem pt_truthK {a : Expr} {ta : TE} (ha : PE X a ta) (he : ∀ whole, isTrue a X.env whole = (do let v ← whole; standAt a.pos; holding [v] (truthy v))) : PT X a (tTruth K ta) := hK ▸ pt_truth ha he
theorem pg_tupK {es : List Expr} {k : Nat} {pos : Pos} {t : TGs} {n : Nat} (hc : X.calm = true) (h : PGs X es t) (hn : (assignEach es X.env).length = n := by rfl) (hst : (assignEach es X.env).findIdx? (·.1) = none := by rfl) : PG X (.Tuple es k pos) (gTup K n t) := hK ▸ pg_tup hc h hn hst
end
section
variable {H : Hp} {Q : VK} {K : PySem.W.Frag} {p : Addr} {xs : List V}
theorem r_tupL (hs : SqL K H p xs) (h : ∀ l, H l = none → Q (.ref l) (upd H l (.tup xs))) : rTupOf K [.ref p] H Q := ⟨p, xs, rfl, .inl ⟨hs, h⟩⟩
theorem r_tupT (hs : SqT K H p xs) (h : Q (.ref p) H) : rTupOf K [.ref p] H Q := ⟨p, xs, rfl, .inr ⟨hs, h⟩⟩
theorem r_lstL (hs : SqL K H p xs) (h : ∀ l, H l = none → Q (.ref l) (upd H l (.lst xs))) : rLstOf K [.ref p] H Q := ⟨p, xs, rfl, .inl hs, h⟩
theorem r_lstT (hs : SqT K H p xs) (h : ∀ l, H l = none → Q (.ref l) (upd H l (.lst xs))) : rLstOf K [.ref p] H Q := ⟨p, xs, rfl, .inr hs, h⟩
end
theorem r_app' {H : Hp} {Q : VK} {l : Addr} {xs : List V} {y : V} (hl : H l = some (.lst xs)) (hz : xs.length ≤ 50000) (h : Q .non (upd H l (.lst (xs ++ [y])))) : rAppend (.ref l) [y] H Q := ⟨l, xs, y, rfl, rfl, hl, sl100' (by omega), h⟩

end K18
end
section
set_option maxRecDepth 100000
set_option maxHeartbeats 4000000
local macro_rules | `(tactic| walk_at "go1") => `(tactic| first
  | (with_reducible refine K18.r_seq ?_) | (with_reducible refine K18.r_ifs ?_) | (with_reducible refine K18.r_ret ?_) | (with_reducible refine K18.r_asg ?_) | (with_reducible refine K18.r_drop ?_) | (with_reducible refine K18.r_next ?_)
  | (with_reducible refine K18.r_name ?_) | (with_reducible refine K18.r_var rfl ?_) | (with_reducible refine K18.r_c ?_) | (with_reducible refine K18.r_op ?_) | (with_reducible refine K18.r_cons ?_) | (with_reducible refine K18.r_nil ?_)
  | (with_reducible refine K18.r_cb ?_) | (with_reducible refine K18.r_call ?_) | (with_reducible refine K18.r_make ?_) | (with_reducible refine K18.r_B ?_) | (with_reducible refine K18.r_test ?_) | (with_reducible refine K18.r_or ?_) | (with_reducible refine K18.r_and ?_) | (with_reducible refine K18.r_not ?_)
  | (with_reducible refine K18.r_andV ?_) | (with_reducible refine K18.r_orV ?_) | (with_reducible refine K18.r_notV ?_) | (with_reducible refine K18.r_if ?_) | (with_reducible refine K18.r_aug rfl ?_) | (with_reducible refine K18.r_ip ?_)
  | (with_reducible refine K18.r_I0 ?_) | (with_reducible refine K18.r_int1 ?_) | (with_reducible refine K18.r_mod (by first | decide | omega) ?_) | (with_reducible refine K18.r_fdivN (by first | decide | omega) (by first | decide | omega) ?_) | (with_reducible refine K18.r_mulR (by first | decide | omega) (by first | decide | omega) ?_) | (with_reducible refine K18.r_mulL (by first | decide | omega) (by first | decide | omega) ?_) | (with_reducible refine K18.r_inG ?_) | (with_reducible refine K18.r_notInG ?_) | (with_reducible refine K18.r_ltS ?_) | (with_reducible refine K18.r_ex ?_) | (with_reducible refine K18.r_eqI ?_) | (with_reducible refine K18.r_neI ?_) | (with_reducible refine K18.r_eqB ?_) | (with_reducible refine K18.r_neB ?_) | (with_reducible refine K18.r_isN ?_)
  | (with_reducible refine K18.r_tup ?_) | (with_reducible refine K18.r_lst ?_) | (with_reducible refine K18.r_yes ?_) | (with_reducible refine K18.r_gsub ?_) | (with_reducible refine K18.r_dget ?_) | (with_reducible refine K18.r_sl ?_) | (with_reducible refine K18.r_part ?_) | (with_reducible refine K18.r_nopart ?_)
  | (with_reducible refine K18.r_chain ?_) | (with_reducible refine K18.r_bm ?_) | (with_reducible refine K18.iteT ?_) | (with_reducible refine K18.iteF ?_) | (with_reducible refine K18.iteNT ?_) | (with_reducible refine K18.iteNF ?_)
  | (with_reducible refine K18.r_for ?_) | (with_reducible refine K18.r_while ?_) | (with_reducible refine K18.r_lc ?_) | (with_reducible refine K18.r_iR1 ?_) | (with_reducible refine K18.r_iR2 ?_) | (with_reducible refine K18.r_iL ?_) | (with_reducible refine K18.r_iT ?_) | (with_reducible refine K18.r_iS ?_)
  | dsimp only [L2.start, List.map, List.replicate, List.length, List.cons_append, List.nil_append, List.append_nil, Nat.reduceAdd, Nat.reduceSub, List.set])
local macro_rules | `(tactic| walk_at "go") => `(tactic| repeat walk_at "go1")
namespace K18
open PySem PySem.Spec PyProof.Rows L2
section
variable {P : Program} {w : World} {K : PySem.W.Frag} {mg : Str → Option Value} {base : Heap}
def spIsInt : Sp := fun vs H Q _ => ∃ n lo hi : Int, vs = [.int n, .int lo, .int hi] ∧ Q (.bl (decide (lo ≤ n) && decide (n ≤ hi))) H
theorem sc_is_integer : FnScope ["thing", "low", "high"] ["thing", "low", "high"] (defScope s_is_integer) := ⟨rfl, rfl, rfl, by decide +kernel, rfl, by decide +kernel, by decide +kernel⟩
theorem ok_is_integer (T : Tx K mg) : C1 P w K mg base CX0 1 "is_integer" ["thing", "low", "high"] spIsInt := by
  obtain ⟨fd, F⟩ := d_is_integer T
  refine .mk1 F (g_is_integer T) (fun _ _ _ _ _ _ us hl => match us, hl with | [_, _, _], _ => rfl) sc_is_integer (fun vs H Q E h => ?_) (fun cdv A outer s H vs Q E hr h => ?_)
  · obtain ⟨n, lo, hi, rfl, k⟩ := h
    rfl
  obtain ⟨n, lo, hi, rfl, k⟩ := h
  have hu := hu_of hr
  have hu64 := hu64_of hr
  have hu6 := hu64' hr
  refine ⟨_, (pss_cons (ps_if (pw_or (pt_not (pt_val (pe_callB (call_isiK K (by rfl)) (by rfl) (f_isinstance T) (by decide +kernel) (pa_cons (pv 0) (pa_cons (pe_bltn (v := .ty "int") (by rfl) (f_int T) (by decide +kernel) rfl) pa_nil))))) (pw_or1 (pt_val (pe_callB (call_isiK K (by rfl)) (by rfl) (f_isinstance T) (by decide +kernel) (pa_cons (pv 0) (pa_cons (pe_bltn (v := .ty "bool") (by rfl) (f_bool T) (by decide +kernel) rfl) pa_nil)))))).pt (pss_one (ps_ret pe_bl)) pss_nil)
      (pss_one (ps_ret (pe_and (pe_cmpR op_ge (pv 0) (pv 1) (nomark _)) (pe_one (pe_or (pe_cmpR op_isN (pv 2) pe_non (nomark _)) (pe_one (pe_cmpR op_le (pv 0) (pv 2) (nomark _))))))))), ?_⟩
  walk_at "go"
  refine ⟨_, _, _, _, true, rfl, .ty _, .base (.int _), kit_ty (by decide +kernel), ?_⟩
  walk_at "go"
  refine ⟨_, _, _, _, false, rfl, .ty _, .base (.int _), kit_ty (by decide +kernel), ?_⟩
  walk_at "go"
  refine iteD (fun h => ?_) (fun h => ?_)
  · rw [decide_eq_true h, Bool.true_and] at k
    walk_at "go"
    refine ⟨rfl, ?_⟩
    walk_at "go"
    refine ite_no (by simp) ?_
    walk_at "go"
    exact k
  · rw [decide_eq_false h, Bool.false_and] at k
    exact k
theorem nat_mod {i : Int} {n : Nat} (h : 1 ≤ n) : ∃ r : Nat, r < n ∧ i % (n : Int) = (r : Int) := by
  have h1 : 0 ≤ i % (n : Int) := Int.emod_nonneg _ (by omega)
  have h2 : i % (n : Int) < n := Int.emod_lt_of_pos _ (by omega)
  exact ⟨(i % (n : Int)).toNat, by omega, by omega⟩
theorem sc__law_pick : FnScope ["_law_bag", "_law_many", "_law_digit", "_law_one", "_law_two"] ["_law_bag", "_law_many"] (defScope s__law_pick) := ⟨rfl, rfl, rfl, by decide +kernel, rfl, by decide +kernel, by decide +kernel⟩
theorem ok__law_pick (T : Tx K mg) : C1 P w K mg base CX0 1 "_law_pick" ["_law_bag", "_law_many"] spPick := by
  obtain ⟨fd, F⟩ := d__law_pick T
  refine .mk1 F (g__law_pick T) (fun _ _ _ _ _ _ us hl => match us, hl with | [_, _], _ => rfl) sc__law_pick (fun vs H Q E h => ?_) (fun cdv A outer s H vs Q E hr h => ?_)
  · obtain ⟨a, n, rfl, B, h1, h2, k⟩ := h
    rfl
  obtain ⟨a, n, rfl, B, h1, h2, k⟩ := h
  have hu := hu_of hr
  have hu64 := hu64_of hr
  have hu6 := hu64' hr
  refine ⟨_, (pss_cons (ps_if (pt_cmpR op_lt (pv 1) pe_int (nomark _)) (pss_one (ps_ret pe_int)) pss_nil)
      (pss_cons (ps_if (pt_cmpR op_gt (pe_ix (ix_listK K (by rfl)) (pv 0) pe_int (fun _ _ => rfl)) pe_int (nomark _)) (pss_cons (ps_set (i := 2) sc__law_pick.nd rfl (Or.inl rfl) (pe_op op_mod (pe_callTy call_int1 (by rfl) (f_int T) (by decide +kernel) (pa_cons (pe_ix (ix_listK K (by rfl)) (pv 0) pe_int (fun _ _ => rfl)) pa_nil)) (pv 1)))
      (pss_cons (ps_asg (pe_op op_fdivN (pe_ix (ix_listK K (by rfl)) (pv 0) pe_int (fun _ _ => rfl)) (pv 1)) (pg_sub (pv 0) pe_int set_list))
      (pss_one (ps_ret (pv 2))))) pss_nil)
      (pss_cons (ps_asg (pe_op op_add (pe_ix (ix_listK K (by rfl)) (pv 0) pe_int (fun _ _ => rfl)) pe_int) (pg_sub (pv 0) pe_int set_list))
      (pss_cons (ps_set (i := 3) sc__law_pick.nd rfl (Or.inl rfl) (pe_op op_mod (pe_callTy call_int1 (by rfl) (f_int T) (by decide +kernel) (pa_cons (pe_op op_add (pe_op op_mul (pe_ix (ix_listK K (by rfl)) (pv 0) pe_int (fun _ _ => rfl)) pe_int) (pe_op op_mul (pe_ix (ix_listK K (by rfl)) (pv 0) pe_int (fun _ _ => rfl)) pe_int)) pa_nil)) pe_int))
      (pss_cons (ps_set (i := 4) sc__law_pick.nd rfl (Or.inl rfl) (pe_op op_mod (pe_callTy call_int1 (by rfl) (f_int T) (by decide +kernel) (pa_cons (pe_op op_add (pe_op op_add (pe_op op_mul (pv 3) (pv 3)) (pe_ix (ix_listK K (by rfl)) (pv 0) pe_int (fun _ _ => rfl))) (pe_op op_mul (pe_ix (ix_listK K (by rfl)) (pv 0) pe_int (fun _ _ => rfl)) pe_int)) pa_nil)) pe_int))
      (pss_one (ps_ret (pe_op op_mod (pe_callTy call_int1 (by rfl) (f_int T) (by decide +kernel) (pa_cons (pe_op op_fdivN (pv 4) pe_int) pa_nil)) (pv 1))))))))), ?_⟩
  walk_at "go"
  obtain ⟨d, s', c, hb⟩ := id B
  refine iteD (fun h => ?_) (fun h => ?_)
  · have e : n = 1 := by omega
    walk_at "go"
    exact k 0 H (by omega) (Drew.refl B)
  walk_at "go"
  refine r_ixL (SqL.of hb) rfl ?_
  walk_at "go"
  refine iteD (fun hd => ?_) (fun hd => ?_)
  · walk_at "go"
    refine r_ixL (SqL.of hb) rfl ?_
    walk_at "go"
    refine r_ixL (SqL.of hb) rfl ?_
    walk_at "go"
    refine r_setL hb rfl ?_
    walk_at "go"
    obtain ⟨r, hr1, hr2⟩ := nat_mod (i := d) h1
    rw [hr2]
    exact k r _ hr1 ⟨(SB.refl a H).mut (.inl rfl), ⟨_, _, _, upd_same⟩⟩
  walk_at "go"
  refine r_ixL (SqL.of hb) rfl ?_
  walk_at "go"
  refine r_setL hb rfl ?_
  walk_at "go"
  have hb2 : (upd H a (.lst [V.int d, V.int s', V.int (c + 1)])) a = some (.lst [V.int d, V.int s', V.int (c + 1)]) := upd_same
  refine r_ixL (SqL.of hb2) rfl ?_
  walk_at "go"
  refine r_ixL (SqL.of hb2) rfl ?_
  walk_at "go"
  refine r_ixL (SqL.of hb2) rfl ?_
  walk_at "go"
  refine r_ixL (SqL.of hb2) rfl ?_
  walk_at "go"
  obtain ⟨r, hr1, hr2⟩ := nat_mod (i := ((((s' * 48271 + (c + 1) * 69621) % 2147483647 * ((s' * 48271 + (c + 1) * 69621) % 2147483647) + s' + (c + 1) * 1299709) % 1000000007).fdiv 5)) h1
  rw [hr2]
  exact k r _ hr1 ⟨(SB.refl a H).mut (.inl rfl), ⟨_, _, _, hb2⟩⟩

def spOneOf : Sp := fun vs H Q _ => ∃ (a : Addr) (v : V), vs = [.ref a, v] ∧ Bag H a ∧ ((∃ l, v = .str (S l) ∧ 0 < l.length ∧ l.length ≤ 1000 ∧ ∀ c H', c ∈ l → Drew a H H' → Q (.str (S [c])) H') ∨
  ∃ p xs, v = .ref p ∧ H p = some (.lst xs) ∧ p ≠ a ∧ 0 < xs.length ∧ xs.length ≤ 1000 ∧ ∀ x H', x ∈ xs → Drew a H H' → Q x H')
theorem sc__law_one_of : FnScope ["_law_bag", "_law_row"] ["_law_bag", "_law_row"] (defScope s__law_one_of) := ⟨rfl, rfl, rfl, by decide +kernel, rfl, by decide +kernel, by decide +kernel⟩
theorem ok__law_one_of (T : Tx K mg) : C1 P w K mg base CX0 2 "_law_one_of" ["_law_bag", "_law_row"] spOneOf := by
  obtain ⟨fd, F⟩ := d__law_one_of T
  refine .mk1 F (g__law_one_of T) (fun _ _ _ _ _ _ us hl => match us, hl with | [_, _], _ => rfl) sc__law_one_of (fun vs H Q E h => ?_) (fun cdv A outer s H vs Q E hr h => ?_)
  · obtain ⟨a, v, rfl, B, hc⟩ := h
    rfl
  obtain ⟨a, v, rfl, B, hc⟩ := h
  have hu := hu_of hr
  have hu64 := hu64_of hr
  have hu6 := hu64' hr
  refine ⟨_, (pss_one (ps_ret (pe_ix (ix_seqK K (by rfl)) (pv 1) (pe_c1 (ok__law_pick T) (hr.mono (by decide)) (by rfl) (pa_cons (pv 0) (pa_cons (pe_callB (call_lenGK K (by rfl)) (by rfl) (f_len T) PySem.boot_len (pa_cons (pv 1) pa_nil)) pa_nil))) (fun _ _ => rfl)))), ?_⟩
  walk_at "go"
  rcases hc with ⟨l, rfl, h0, h1, k⟩ | ⟨p, xs, rfl, hp, ne, h0, h1, k⟩
  · refine ⟨_, l.length, rfl, ⟨by rw [S_len]; exact sl100 (by omega), by rw [S_len]⟩, ?_⟩
    walk_at "go"
    refine ⟨a, l.length, rfl, B, by omega, by omega, fun r H1 hr1 d1 => ?_⟩
    have hg : l[r]? = some l[r] := List.getElem?_eq_some_iff.mpr ⟨hr1, rfl⟩
    exact .inr (.inr ⟨_, _, l[r], rfl, rfl, by rw [S_len]; exact sl100 (by omega), by rw [S_list]; exact atI_nat hg, k _ _ (List.getElem_mem hr1) d1⟩)
  · refine ⟨_, xs.length, rfl, .inl ⟨_, SqL.of hp, rfl⟩, ?_⟩
    walk_at "go"
    refine ⟨a, xs.length, rfl, B, by omega, by omega, fun r H1 hr1 d1 => ?_⟩
    have hg : xs[r]? = some xs[r] := List.getElem?_eq_some_iff.mpr ⟨hr1, rfl⟩
    exact .inl ⟨_, _, _, xs[r], rfl, rfl, SqL.of (d1.1 _ _ ne hp), atI_nat hg, k _ _ (List.getElem_mem hr1) d1⟩
end

end K18
end
section
set_option maxRecDepth 100000
set_option maxHeartbeats 4000000
local macro_rules | `(tactic| walk_at "go1") => `(tactic| first
  | (with_reducible refine K18.r_seq ?_) | (with_reducible refine K18.r_ifs ?_) | (with_reducible refine K18.r_ret ?_) | (with_reducible refine K18.r_asg ?_) | (with_reducible refine K18.r_drop ?_) | (with_reducible refine K18.r_next ?_)
  | (with_reducible refine K18.r_name ?_) | (with_reducible refine K18.r_var rfl ?_) | (with_reducible refine K18.r_c ?_) | (with_reducible refine K18.r_op ?_) | (with_reducible refine K18.r_cons ?_) | (with_reducible refine K18.r_nil ?_)
  | (with_reducible refine K18.r_cb ?_) | (with_reducible refine K18.r_call ?_) | (with_reducible refine K18.r_make ?_) | (with_reducible refine K18.r_B ?_) | (with_reducible refine K18.r_test ?_) | (with_reducible refine K18.r_or ?_) | (with_reducible refine K18.r_and ?_) | (with_reducible refine K18.r_not ?_)
  | (with_reducible refine K18.r_andV ?_) | (with_reducible refine K18.r_orV ?_) | (with_reducible refine K18.r_notV ?_) | (with_reducible refine K18.r_if ?_) | (with_reducible refine K18.r_aug rfl ?_) | (with_reducible refine K18.r_ip ?_)
  | (with_reducible refine K18.r_I0 ?_) | (with_reducible refine K18.r_int1 ?_) | (with_reducible refine K18.r_mod (by first | decide | omega) ?_) | (with_reducible refine K18.r_fdivN (by first | decide | omega) (by first | decide | omega) ?_) | (with_reducible refine K18.r_mulR (by first | decide | omega) (by first | decide | omega) ?_) | (with_reducible refine K18.r_mulL (by first | decide | omega) (by first | decide | omega) ?_) | (with_reducible refine K18.r_inG ?_) | (with_reducible refine K18.r_notInG ?_) | (with_reducible refine K18.r_ltS ?_) | (with_reducible refine K18.r_ex ?_) | (with_reducible refine K18.r_eqI ?_) | (with_reducible refine K18.r_neI ?_) | (with_reducible refine K18.r_eqB ?_) | (with_reducible refine K18.r_neB ?_) | (with_reducible refine K18.r_isN ?_)
  | (with_reducible refine K18.r_tup ?_) | (with_reducible refine K18.r_lst ?_) | (with_reducible refine K18.r_yes ?_) | (with_reducible refine K18.r_gsub ?_) | (with_reducible refine K18.r_dget ?_) | (with_reducible refine K18.r_sl ?_) | (with_reducible refine K18.r_part ?_) | (with_reducible refine K18.r_nopart ?_)
  | (with_reducible refine K18.r_chain ?_) | (with_reducible refine K18.r_bm ?_) | (with_reducible refine K18.iteT ?_) | (with_reducible refine K18.iteF ?_) | (with_reducible refine K18.iteNT ?_) | (with_reducible refine K18.iteNF ?_)
  | (with_reducible refine K18.r_for ?_) | (with_reducible refine K18.r_while ?_) | (with_reducible refine K18.r_lc ?_) | (with_reducible refine K18.r_iR1 ?_) | (with_reducible refine K18.r_iR2 ?_) | (with_reducible refine K18.r_iL ?_) | (with_reducible refine K18.r_iT ?_) | (with_reducible refine K18.r_iS ?_)
  | dsimp only [L2.start, List.map, List.replicate, List.length, List.cons_append, List.nil_append, List.append_nil, Nat.reduceAdd, Nat.reduceSub, List.set])
local macro_rules | `(tactic| walk_at "go") => `(tactic| repeat walk_at "go1")
namespace K18
open PySem PySem.Spec PyProof.Rows L2
section
variable {P : Program} {w : World} {K : PySem.W.Frag} {mg : Str → Option Value} {base : Heap}
def spMixed : Sp := fun vs H Q _ => ∃ (a q : Addr) (xs : List V), vs = [.ref a, .ref q] ∧ Bag H a ∧ H q = some (.lst xs) ∧ q ≠ a ∧ xs.length ≤ 1000 ∧
  ∀ p ys H', Drew a H H' → H p = none → p ≠ a → H' p = some (.lst ys) → ys.length = xs.length → (∀ y ∈ ys, y ∈ xs) → Q (.ref p) H'
theorem sc__law_mixed : FnScope ["_law_bag", "_law_row", "_law_left", "_law_told", "_law_k"] ["_law_bag", "_law_row"] (defScope s__law_mixed) := ⟨rfl, rfl, rfl, by decide +kernel, rfl, by decide +kernel, by decide +kernel⟩
theorem ok__law_mixed (T : Tx K mg) : C1 P w K mg base CX0 2 "_law_mixed" ["_law_bag", "_law_row"] spMixed := by
  obtain ⟨fd, F⟩ := d__law_mixed T
  refine .mk1 F (g__law_mixed T) (fun _ _ _ _ _ _ us hl => match us, hl with | [_, _], _ => rfl) sc__law_mixed (fun vs H Q E h => ?_) (fun cdv A outer s H vs Q E hr h => ?_)
  · obtain ⟨a, q, xs, rfl, B, hq, ne, hz, k⟩ := h
    rfl
  obtain ⟨a, q, xs, rfl, B, hq, ne, hz, k⟩ := h
  have hu := hu_of hr
  have hu64 := hu64_of hr
  have hu6 := hu64' hr
  refine ⟨_, (pss_cons (ps_set (i := 2) sc__law_mixed.nd rfl (Or.inl rfl) (pe_callTy (call_listK K (by rfl)) (by rfl) (f_list T) (by decide +kernel) (pa_cons (pv 1) pa_nil)))
      (pss_cons (ps_set (i := 3) sc__law_mixed.nd rfl (Or.inl rfl) (pe_lst pa_nil))
      (pss_cons (ps_for PassesOwn.never rfl (pi_range1 (by rfl) (f_range T) (pa_cons (pe_callB (call_lenK K (by rfl)) (by rfl) (f_len T) PySem.boot_len (pa_cons (pv 1) pa_nil)) pa_nil)) (pg_name (i := 4) sc__law_mixed.nd rfl (Or.inl rfl)) (pss_one (ps_expr (pe_bmK K (by rfl) PySem.F.plainAttrs_list PySem.F.slot_list_append PySem.F.type_list_append mt_append (pv 3) (pa_cons (pe_bmK K (by rfl) PySem.F.plainAttrs_list PySem.F.slot_list_pop PySem.F.type_list_pop mt_popAt (pv 2) (pa_cons (pe_c1 (ok__law_pick T) (hr.mono (by decide)) (by rfl) (pa_cons (pv 0) (pa_cons (pe_callB (call_lenK K (by rfl)) (by rfl) (f_len T) PySem.boot_len (pa_cons (pv 2) pa_nil)) pa_nil))) pa_nil)) pa_nil)))))
      (pss_one (ps_ret (pv 3)))))), ?_⟩
  walk_at "go"
  refine ⟨_, _, rfl, .inl (SqL.of hq), fun l hl => ?_⟩
  walk_at "go"
  refine ⟨Nat.zero_le _, fun t ht => ?_⟩
  walk_at "go"
  have la : l ≠ a := B.ne hl
  have tl : t ≠ l := fun z => by rw [z, upd_same] at ht; cases ht
  have ht0 : H t = none := by rw [upd_ne tl] at ht; exact ht
  have ta : t ≠ a := B.ne ht0
  have d0 : Drew a H (upd (upd H l (.lst xs)) t (.lst [])) := ((Drew.refl B).new B hl).new B ht
  have lq : l ≠ q := fun z => by rw [z, hq] at hl; cases hl
  have tq : t ≠ q := fun z => by rw [z, hq] at ht0; cases ht0
  refine r_lenQL (SqL.of (xs := xs) (by rw [upd_ne tq.symm, upd_ne lq.symm]; exact hq)) ?_
  walk_at "go"
  refine ⟨_, rfl, by omega, by omega, ?_⟩
  refine fo_R (n := xs.length) (fun i σ H' => ∃ (v : Option V) (lf ys : List V), σ = [some (.ref a), some (.ref q), some (.ref l), some (.ref t), v] ∧ Drew a H H' ∧ H' l = some (.lst lf) ∧ H' t = some (.lst ys) ∧ lf.length + i = xs.length ∧ ys.length = i ∧ (∀ y ∈ lf, y ∈ xs) ∧ ∀ y ∈ ys, y ∈ xs)
    ⟨_, xs, [], rfl, d0, by rw [upd_ne tl.symm, upd_same], upd_same, rfl, rfl, fun _ h => h, fun _ h => nomatch h⟩ ?_ ?_
  · rintro i σ' H' hi ⟨v, lf, ys, rfl, d, h1, h2, e1, e2, m1, m2⟩
    walk_at "go"
    refine ⟨r_tyL h2, ?_⟩
    walk_at "go"
    refine ⟨r_tyL h1, ?_⟩
    walk_at "go"
    refine r_lenQL (SqL.of h1) ?_
    walk_at "go"
    refine ⟨a, lf.length, rfl, d.2, by omega, by omega, fun r H2 hr2 d2 => ?_⟩
    walk_at "go"
    have g1 := d2.1 _ _ la h1
    have g2 := d2.1 _ _ ta h2
    refine ⟨l, lf, ((r : Nat) : Int), r, lf[r], rfl, rfl, g1, by omega, by omega, seqIx hr2, List.getElem?_eq_some_iff.mpr ⟨hr2, rfl⟩, ?_⟩
    walk_at "go"
    refine ⟨t, ys, lf[r], rfl, rfl, by rw [upd_ne tl]; exact g2, sl100' (by omega), ?_⟩
    walk_at "go"
    refine ⟨_, lf.eraseIdx r, ys ++ [lf[r]], rfl, ((d.trans d2).mut la hl).mut ta ht0, by rw [upd_ne tl.symm, upd_same], upd_same, ?_, by simp [e2], fun y hy => m1 y (List.mem_of_mem_eraseIdx hy), fun y hy => ?_⟩
    · rw [List.length_eraseIdx, if_pos hr2]
      omega
    · rcases List.mem_append.mp hy with h | h
      · exact m2 y h
      · rw [List.mem_singleton.mp h]
        exact m1 _ (List.getElem_mem hr2)
  · rintro σ' H' ⟨v, lf, ys, rfl, d, h1, h2, e1, e2, m1, m2⟩
    walk_at "go"
    exact k t ys H' d ht0 ta h2 e2 m2
def spSigns : Sp := fun vs H Q _ => ∃ a : Addr, vs = [.ref a, .int 3] ∧ Bag H a ∧ ∀ sg H', Sgn sg → Drew a H H' → Q (.str (S sg)) H'
theorem atI_mem {α : Type} {xs : List α} {r : Nat} (h : r < xs.length) : atI xs ((r : Nat) : Int) = some xs[r] := atI_nat (List.getElem?_eq_some_iff.mpr ⟨h, rfl⟩)
theorem EV_len : EV.length = 36 := rfl
theorem EV_asc : EV.Pairwise (· < ·) := by decide
theorem EV_lt {i j : Nat} (hj : j < EV.length) (h : i < j) : EV[i]'(by omega) < EV[j] := List.pairwise_iff_getElem.mp EV_asc i j (by omega) hj h
theorem nat_of_mem {l : List Nat} {v : V} (h : v ∈ rI l) : ∃ x : Nat, x ∈ l ∧ v = .int ((x : Nat) : Int) := by
  unfold rI at h
  obtain ⟨x, hx, e⟩ := List.mem_map.mp h
  exact ⟨x, hx, e.symm⟩
theorem sc__law_signs_of : FnScope ["_law_bag", "_law_most", "_law_many", "_law_every", "_law_at", "_law_told", "_law_k"] ["_law_bag", "_law_most"] (defScope s__law_signs_of) := ⟨rfl, rfl, rfl, by decide +kernel, rfl, by decide +kernel, by decide +kernel⟩
theorem ok__law_signs_of (T : Tx K mg) : C1 P w K mg base CX0 2 "_law_signs_of" ["_law_bag", "_law_most"] spSigns := by
  obtain ⟨fd, F⟩ := d__law_signs_of T
  refine .mk1 F (g__law_signs_of T) (fun _ _ _ _ _ _ us hl => match us, hl with | [_, _], _ => rfl) sc__law_signs_of (fun vs H Q E h => ?_) (fun cdv A outer s H vs Q E hr h => ?_)
  · obtain ⟨a, rfl, B, k⟩ := h
    rfl
  obtain ⟨a, rfl, B, k⟩ := h
  have hu := hu_of hr
  have hu64 := hu64_of hr
  have hu6 := hu64' hr
  refine ⟨_, (pss_cons (ps_set (i := 2) sc__law_signs_of.nd rfl (Or.inl rfl) (pe_callB (call_min2 rfl) (by rfl) (f_min T) (by decide +kernel) (pa_cons (pv 1) (pa_cons (pe_ix (ix_listK K (by rfl)) (pe_lst (pa_cons pe_int (pa_cons pe_int (pa_cons pe_int (pa_cons pe_int (pa_cons pe_int (pa_cons pe_int pa_nil))))))) (pe_c1 (ok__law_pick T) (hr.mono (by decide)) (by rfl) (pa_cons (pv 0) (pa_cons pe_int pa_nil))) (fun _ _ => rfl)) pa_nil))))
      (pss_cons (ps_set (i := 3) sc__law_signs_of.nd rfl (Or.inl rfl) pe_str)
      (pss_cons (ps_set (i := 4) sc__law_signs_of.nd rfl (Or.inl rfl) (pe_ix (ix_listK K (by rfl)) (pe_lst (pa_cons pe_int (pa_cons pe_int (pa_cons pe_int (pa_cons pe_int (pa_cons pe_int (pa_cons pe_int (pa_cons pe_int (pa_cons pe_int pa_nil))))))))) (pe_c1 (ok__law_pick T) (hr.mono (by decide)) (by rfl) (pa_cons (pv 0) (pa_cons pe_int pa_nil))) (fun _ _ => rfl)))
      (pss_cons (ps_set (i := 5) sc__law_signs_of.nd rfl (Or.inl rfl) (pe_ix ix_str (pv 3) (pv 4) (fun _ _ => rfl)))
      (pss_cons (ps_for PassesOwn.never rfl (pi_range1 (by rfl) (f_range T) (pa_cons (pe_op op_sub (pv 2) pe_int) pa_nil)) (pg_name (i := 6) sc__law_signs_of.nd rfl (Or.inl rfl)) (pss_cons (ps_set (i := 4) sc__law_signs_of.nd rfl (Or.inl rfl) (pe_op op_add (pe_op op_add (pv 4) pe_int) (pe_ix (ix_listK K (by rfl)) (pe_lst (pa_cons pe_int (pa_cons pe_int (pa_cons pe_int (pa_cons pe_int pa_nil))))) (pe_c1 (ok__law_pick T) (hr.mono (by decide)) (by rfl) (pa_cons (pv 0) (pa_cons pe_int pa_nil))) (fun _ _ => rfl))))
      (pss_one (ps_set (i := 5) sc__law_signs_of.nd rfl (Or.inl rfl) (pe_op op_catS (pv 5) (pe_ix ix_str (pv 3) (pv 4) (fun _ _ => rfl)))))))
      (pss_one (ps_ret (pv 5)))))))), ?_⟩
  walk_at "go"
  refine ⟨by decide, fun p hp => ?_⟩
  have pa := B.ne hp
  walk_at "go"
  refine ⟨a, 6, rfl, B.upd pa, by omega, by omega, fun r H1 hr1 d1 => ?_⟩
  have hp1 := d1.1 _ _ pa upd_same
  obtain ⟨x, hx, ex⟩ := nat_of_mem (l := [2, 2, 2, 3, 3, 4]) (v := ([V.int 2, V.int 2, V.int 2, V.int 3, V.int 3, V.int 4] : List V)[r]) (List.getElem_mem (by exact hr1))
  refine r_ixL (SqL.of hp1) (atI_mem hr1) ?_
  rw [ex]
  walk_at "go"
  refine ⟨_, _, rfl, ?_⟩
  obtain ⟨mm, em, hm⟩ : ∃ mm : Nat, (if ((x : Nat) : Int) < 3 then ((x : Nat) : Int) else 3) = ((mm : Nat) : Int) ∧ (mm = 2 ∨ mm = 3) := by
    simp only [List.mem_cons, List.not_mem_nil, or_false] at hx
    rcases hx with h | h | h | h | h | h <;> subst h
    · exact ⟨2, rfl, .inl rfl⟩
    · exact ⟨2, rfl, .inl rfl⟩
    · exact ⟨2, rfl, .inl rfl⟩
    · exact ⟨3, rfl, .inr rfl⟩
    · exact ⟨3, rfl, .inr rfl⟩
    · exact ⟨3, rfl, .inr rfl⟩
  rw [em]
  walk_at "go"
  refine ⟨by decide, fun p2 hp2 => ?_⟩
  have pa2 := d1.2.ne hp2
  walk_at "go"
  refine ⟨a, 8, rfl, d1.2.upd pa2, by omega, by omega, fun r2 H2 hr2 d2 => ?_⟩
  have hp3 := d2.1 _ _ pa2 upd_same
  obtain ⟨y, hy, ey⟩ := nat_of_mem (l := [0, 0, 0, 1, 8, 9, 10, 20]) (v := ([V.int 0, V.int 0, V.int 0, V.int 1, V.int 8, V.int 9, V.int 10, V.int 20] : List V)[r2]) (List.getElem_mem (by exact hr2))
  have hy20 : y ≤ 20 := by
    simp only [List.mem_cons, List.not_mem_nil, or_false] at hy
    omega
  refine r_ixL (SqL.of hp3) (atI_mem hr2) ?_
  rw [ey]
  walk_at "go"
  rw [EV_str]
  refine r_ixS (by rw [EV_len]; omega) (by decide) ?_
  walk_at "go"
  have dd : Drew a H H2 := (((Drew.refl B).new B hp).trans d1).trans (((Drew.refl d1.2).new d1.2 hp2).trans d2)
  refine ⟨_, rfl, by omega, by omega, ?_⟩
  rw [show ((mm : Nat) : Int) - 1 = ((mm - 1 : Nat) : Int) by omega]
  refine fo_R (n := mm - 1) (fun i σ H' => ∃ (v : Option V) (z : Nat) (sg : List Nat), σ = [some (.ref a), some (.int 3), some (.int ((mm : Nat) : Int)), some (.str (S EV)), some (.int ((z : Nat) : Int)), some (.str (S sg)), v] ∧ Drew a H H' ∧ sg.length = i + 1 ∧ z ≤ 20 + 2 * i ∧ sg.Pairwise (· < ·) ∧ (∀ c ∈ sg, c ∈ EV) ∧
      ∀ c ∈ sg, ∃ j : Nat, ∃ h : j < 36, j ≤ z ∧ c = EV[j]'(by rw [EV_len]; exact h))
    ⟨_, y, _, rfl, dd, rfl, by omega, by simp, fun c hc => ?_, fun c hc => ?_⟩ ?_ ?_
  · rw [List.mem_singleton.mp hc]
    exact List.getElem_mem _
  · exact ⟨y, by omega, Nat.le_refl _, List.mem_singleton.mp hc⟩
  · rintro i σ' H' hi ⟨v, z, sg, rfl, d, e, hz, h1, h2, h3⟩
    walk_at "go"
    refine ⟨by decide, fun p4 hp4 => ?_⟩
    have pa4 := d.2.ne hp4
    walk_at "go"
    refine ⟨a, 4, rfl, d.2.upd pa4, by omega, by omega, fun r4 H4 hr4 d4 => ?_⟩
    have hp5 := d4.1 _ _ pa4 upd_same
    obtain ⟨u, hu1, eu⟩ := nat_of_mem (l := [0, 0, 0, 1]) (v := ([V.int 0, V.int 0, V.int 0, V.int 1] : List V)[r4]) (List.getElem_mem (by exact hr4))
    have hu2 : u ≤ 1 := by
      simp only [List.mem_cons, List.not_mem_nil, or_false] at hu1
      omega
    refine r_ixL (SqL.of hp5) (atI_mem hr4) ?_
    rw [eu]
    walk_at "go"
    rw [show ((z : Nat) : Int) + 1 + ((u : Nat) : Int) = ((z + 1 + u : Nat) : Int) by omega]
    refine r_ixS (by rw [EV_len]; omega) (by decide) ?_
    walk_at "go"
    refine r_catS ?hl ?_
    case hl => simp; omega
    walk_at "go"
    refine ⟨_, z + 1 + u, sg ++ [EV[z + 1 + u]'(by rw [EV_len]; omega)], rfl, (((d.new B hp4)).trans d4), by simp [e], by omega, ?_, fun c hc => ?_, fun c hc => ?_⟩
    · refine List.pairwise_append.mpr ⟨h1, by simp, fun c hc c' hc' => ?_⟩
      rw [List.mem_singleton.mp hc']
      obtain ⟨j, hj, hjz, ej⟩ := h3 c hc
      rw [ej]
      exact EV_lt (by rw [EV_len]; omega) (by omega)
    · rcases List.mem_append.mp hc with h | h
      · exact h2 c h
      · rw [List.mem_singleton.mp h]
        exact List.getElem_mem _
    · rcases List.mem_append.mp hc with h | h
      · obtain ⟨j, hj, hjz, ej⟩ := h3 c h
        exact ⟨j, hj, by omega, ej⟩
      · exact ⟨z + 1 + u, by omega, Nat.le_refl _, List.mem_singleton.mp h⟩
  · rintro σ' H' ⟨v, z, sg, rfl, d, e, hz, h1, h2, h3⟩
    walk_at "go"
    exact k sg H' ⟨by omega, h1, h2⟩ d
def spPaper : Sp := fun vs H Q _ => ∃ (a : Addr) (sg : List Nat) (m : Nat), vs = [.ref a, .str (S sg), .int ((m : Nat) : Int)] ∧ Bag H a ∧ m ≤ 60 ∧ 0 < sg.length ∧ sg.length ≤ 12 ∧ ∀ l H', l.length ≤ m → Pap sg l → Drew a H H' → Q (.str (S l)) H'
theorem sc__law_paper_of : FnScope ["_law_bag", "_law_signs", "_law_most", "_law_told", "_law_k"] ["_law_bag", "_law_signs", "_law_most"] (defScope s__law_paper_of) := ⟨rfl, rfl, rfl, by decide +kernel, rfl, by decide +kernel, by decide +kernel⟩
theorem ok__law_paper_of (T : Tx K mg) : C1 P w K mg base CX0 3 "_law_paper_of" ["_law_bag", "_law_signs", "_law_most"] spPaper := by
  obtain ⟨fd, F⟩ := d__law_paper_of T
  refine .mk1 F (g__law_paper_of T) (fun _ _ _ _ _ _ us hl => match us, hl with | [_, _, _], _ => rfl) sc__law_paper_of (fun vs H Q E h => ?_) (fun cdv A outer s H vs Q E hr h => ?_)
  · obtain ⟨a, sg, m, rfl, B, hm, h0, h12, k⟩ := h
    rfl
  obtain ⟨a, sg, m, rfl, B, hm, h0, h12, k⟩ := h
  have hu := hu_of hr
  have hu64 := hu64_of hr
  have hu6 := hu64' hr
  refine ⟨_, (pss_cons (ps_set (i := 3) sc__law_paper_of.nd rfl (Or.inl rfl) pe_str)
      (pss_cons (ps_for PassesOwn.never rfl (pi_range1 (by rfl) (f_range T) (pa_cons (pe_c1 (ok__law_pick T) (hr.mono (by decide)) (by rfl) (pa_cons (pv 0) (pa_cons (pe_op op_add (pv 2) pe_int) pa_nil))) pa_nil)) (pg_name (i := 4) sc__law_paper_of.nd rfl (Or.inl rfl)) (pss_one (ps_set (i := 3) sc__law_paper_of.nd rfl (Or.inl rfl) (pe_op op_catS (pv 3) (pe_c1 (ok__law_one_of T) (hr.mono (by decide)) (by rfl) (pa_cons (pv 0) (pa_cons (pv 1) pa_nil)))))))
      (pss_one (ps_ret (pv 3))))), ?_⟩
  walk_at "go"
  refine ⟨a, m + 1, rfl, B, by omega, by omega, fun r H1 hr1 d1 => ?_⟩
  walk_at "go"
  refine ⟨_, rfl, by omega, by omega, ?_⟩
  refine fo_R (n := r) (fun i σ H' => ∃ (v : Option V) (l : List Nat), σ = [some (.ref a), some (.str (S sg)), some (.int ((m : Nat) : Int)), some (.str (S l)), v] ∧ Drew a H H' ∧ l.length = i ∧ Pap sg l) ⟨_, [], rfl, d1, rfl, Pap.nil⟩ ?_ ?_
  · rintro i σ' H' hi ⟨v, l, rfl, d, e, pl⟩
    walk_at "go"
    refine ⟨a, _, rfl, d.2, .inl ⟨sg, rfl, h0, by omega, fun c H2 hc d2 => ?_⟩⟩
    walk_at "go"
    refine r_catS ?hl ?_
    case hl => simp; omega
    walk_at "go"
    exact ⟨_, l ++ [c], rfl, d.trans d2, by simp [e], pl.app (Pap.one hc)⟩
  · rintro σ' H' ⟨v, l, rfl, d, e, pl⟩
    walk_at "go"
    exact k l H' (by omega) pl d
def spLonger : Sp := fun vs H Q _ => ∃ (q : Addr) (ps : List (List Nat)) (sg : List Nat), vs = [.ref q, .str (S sg)] ∧ H q = some (.lst (ps.map fun l => V.str (S l))) ∧ ps.length ≤ 100 ∧ sg.length ≤ 12 ∧ (∀ l ∈ ps, l.length ≤ 50) ∧
  ∀ p H', Same H H' → H p = none → H' p = some (.lst ((ps.flatMap fun l => sg.map fun c => l ++ [c]).map fun l => V.str (S l))) → Q (.ref p) H'
theorem sc__law_longer : FnScope ["_law_papers", "_law_signs", "_law_told", "_law_one", "_law_sign"] ["_law_papers", "_law_signs"] (defScope s__law_longer) := ⟨rfl, rfl, rfl, by decide +kernel, rfl, by decide +kernel, by decide +kernel⟩
theorem ok__law_longer (T : Tx K mg) : C1 P w K mg base CX0 1 "_law_longer" ["_law_papers", "_law_signs"] spLonger := by
  obtain ⟨fd, F⟩ := d__law_longer T
  refine .mk1 F (g__law_longer T) (fun _ _ _ _ _ _ us hl => match us, hl with | [_, _], _ => rfl) sc__law_longer (fun vs H Q E h => ?_) (fun cdv A outer s H vs Q E hr h => ?_)
  · obtain ⟨q, ps, sg, rfl, hq, hz, h12, h50, k⟩ := h
    rfl
  obtain ⟨q, ps, sg, rfl, hq, hz, h12, h50, k⟩ := h
  have hu := hu_of hr
  have hu64 := hu64_of hr
  have hu6 := hu64' hr
  refine ⟨_, (pss_cons (ps_set (i := 2) sc__law_longer.nd rfl (Or.inl rfl) (pe_lst pa_nil))
      (pss_cons (ps_for PassesOwn.never rfl (pi_listK K (by rfl) (pv 0)) (pg_name (i := 3) sc__law_longer.nd rfl (Or.inl rfl)) (pss_one (ps_for PassesOwn.never rfl (pi_str (pv 1)) (pg_name (i := 4) sc__law_longer.nd rfl (Or.inl rfl)) (pss_one (ps_expr (pe_bmK K (by rfl) PySem.F.plainAttrs_list PySem.F.slot_list_append PySem.F.type_list_append mt_append (pv 2) (pa_cons (pe_op op_catS (pv 3) (pv 4)) pa_nil)))))))
      (pss_one (ps_ret (pv 2))))), ?_⟩
  walk_at "go"
  refine ⟨Nat.zero_le _, fun t ht => ?_⟩
  walk_at "go"
  have tq : t ≠ q := fun z => by rw [z, hq] at ht; cases ht
  refine ⟨_, rfl, ⟨_, SqL.of (by rw [upd_ne tq.symm]; exact hq)⟩, ?_⟩
  refine fo_L (xs := ps.map fun l => V.str (S l)) (fun i σ H' => ∃ v v' : Option V, σ = [some (.ref q), some (.str (S sg)), some (.ref t), v, v'] ∧ Same H H' ∧ H' t = some (.lst (((ps.take i).flatMap fun l => sg.map fun c => l ++ [c]).map fun l => V.str (S l))))
    ⟨_, _, rfl, same_new ht, upd_same⟩ (fun i σ' H' _ ⟨_, _, _, s, _⟩ => SqL.of (s _ _ hq)) ?_ ?_
  · rintro i x σ' H' hx ⟨v, v', rfl, s, h1⟩
    rw [List.getElem?_map] at hx
    cases el : ps[i]? with
    | none => rw [el] at hx; cases hx
    | some l =>
      rw [el] at hx
      cases hx
      have hl50 := h50 l (List.mem_of_getElem? el)
      have hil := (List.getElem?_eq_some_iff.mp el).1
      have hlen : ((ps.take i).flatMap fun l => sg.map fun c => l ++ [c]).length ≤ 1200 := by
        have e1 : ∀ qs : List (List Nat), (qs.flatMap fun l => sg.map fun c => l ++ [c]).length = qs.length * sg.length := by
          intro qs
          induction qs with
          | nil => simp
          | cons a qs ih => rw [List.flatMap_cons, List.length_append, ih, List.length_map, List.length_cons, Nat.succ_mul]; omega
        rw [e1, List.length_take]
        have h1 : min i ps.length ≤ 100 := by omega
        calc min i ps.length * sg.length ≤ 100 * 12 := Nat.mul_le_mul h1 h12
          _ = 1200 := rfl
      walk_at "go"
      refine ⟨_, rfl, ?_⟩
      refine fo_S (fun i2 σ H2 => ∃ v : Option V, σ = [some (.ref q), some (.str (S sg)), some (.ref t), some (.str (S l)), v] ∧ Same H H2 ∧ H2 t = some (.lst ((((ps.take i).flatMap fun l => sg.map fun c => l ++ [c]) ++ (sg.take i2).map fun c => l ++ [c]).map fun l => V.str (S l))))
        ⟨_, rfl, s, by simpa using h1⟩ ?_ ?_
      · rintro i2 c σ2 H2 hc ⟨v2, rfl, s2, h2⟩
        walk_at "go"
        refine ⟨r_tyL h2, ?_⟩
        walk_at "go"
        refine r_catS ?hl ?_
        case hl => simp; omega
        walk_at "go"
        have hi2 := (List.getElem?_eq_some_iff.mp hc).1
        refine ⟨t, _, _, rfl, rfl, h2, sl100' (by simp only [List.length_map, List.length_append, List.length_take]; omega), ?_⟩
        walk_at "go"
        refine ⟨_, rfl, same_mut s2 ht, ?_⟩
        rw [upd_same, List.take_add_one, hc]
        simp
      · rintro σ2 H2 ⟨v2, rfl, s2, h2⟩
        walk_at "go"
        refine ⟨_, _, rfl, s2, ?_⟩
        rw [h2, List.take_length, List.take_add_one, el]
        simp
  · rintro σ' H' ⟨v, v', rfl, s, h1⟩
    walk_at "go"
    refine k t H' s ht ?_
    rw [h1, List.length_map, List.take_length]
end

end K18
end
section
set_option maxRecDepth 100000
set_option maxHeartbeats 4000000
local macro_rules | `(tactic| walk_at "go1") => `(tactic| first
  | (with_reducible refine K18.r_seq ?_) | (with_reducible refine K18.r_ifs ?_) | (with_reducible refine K18.r_ret ?_) | (with_reducible refine K18.r_asg ?_) | (with_reducible refine K18.r_drop ?_) | (with_reducible refine K18.r_next ?_)
  | (with_reducible refine K18.r_name ?_) | (with_reducible refine K18.r_var rfl ?_) | (with_reducible refine K18.r_c ?_) | (with_reducible refine K18.r_op ?_) | (with_reducible refine K18.r_cons ?_) | (with_reducible refine K18.r_nil ?_)
  | (with_reducible refine K18.r_cb ?_) | (with_reducible refine K18.r_call ?_) | (with_reducible refine K18.r_make ?_) | (with_reducible refine K18.r_B ?_) | (with_reducible refine K18.r_test ?_) | (with_reducible refine K18.r_or ?_) | (with_reducible refine K18.r_and ?_) | (with_reducible refine K18.r_not ?_)
  | (with_reducible refine K18.r_andV ?_) | (with_reducible refine K18.r_orV ?_) | (with_reducible refine K18.r_notV ?_) | (with_reducible refine K18.r_if ?_) | (with_reducible refine K18.r_aug rfl ?_) | (with_reducible refine K18.r_ip ?_)
  | (with_reducible refine K18.r_I0 ?_) | (with_reducible refine K18.r_int1 ?_) | (with_reducible refine K18.r_mod (by first | decide | omega) ?_) | (with_reducible refine K18.r_fdivN (by first | decide | omega) (by first | decide | omega) ?_) | (with_reducible refine K18.r_mulR (by first | decide | omega) (by first | decide | omega) ?_) | (with_reducible refine K18.r_mulL (by first | decide | omega) (by first | decide | omega) ?_) | (with_reducible refine K18.r_inG ?_) | (with_reducible refine K18.r_notInG ?_) | (with_reducible refine K18.r_ltS ?_) | (with_reducible refine K18.r_ex ?_) | (with_reducible refine K18.r_eqI ?_) | (with_reducible refine K18.r_neI ?_) | (with_reducible refine K18.r_eqB ?_) | (with_reducible refine K18.r_neB ?_) | (with_reducible refine K18.r_isN ?_)
  | (with_reducible refine K18.r_tup ?_) | (with_reducible refine K18.r_lst ?_) | (with_reducible refine K18.r_yes ?_) | (with_reducible refine K18.r_gsub ?_) | (with_reducible refine K18.r_dget ?_) | (with_reducible refine K18.r_sl ?_) | (with_reducible refine K18.r_part ?_) | (with_reducible refine K18.r_nopart ?_)
  | (with_reducible refine K18.r_chain ?_) | (with_reducible refine K18.r_bm ?_) | (with_reducible refine K18.iteT ?_) | (with_reducible refine K18.iteF ?_) | (with_reducible refine K18.iteNT ?_) | (with_reducible refine K18.iteNF ?_)
  | (with_reducible refine K18.r_for ?_) | (with_reducible refine K18.r_while ?_) | (with_reducible refine K18.r_lc ?_) | (with_reducible refine K18.r_iR1 ?_) | (with_reducible refine K18.r_iR2 ?_) | (with_reducible refine K18.r_iL ?_) | (with_reducible refine K18.r_iT ?_) | (with_reducible refine K18.r_iS ?_)
  | dsimp only [L2.start, List.map, List.replicate, List.length, List.cons_append, List.nil_append, List.append_nil, Nat.reduceAdd, Nat.reduceSub, List.set])
local macro_rules | `(tactic| walk_at "go") => `(tactic| repeat walk_at "go1")
namespace K18
open PySem PySem.Spec PyProof.Rows L2
section
variable {P : Program} {w : World} {K : PySem.W.Frag} {mg : Str → Option Value} {base : Heap}
def vS (ps : List (List Nat)) : List V := ps.map fun l => V.str (S l)
def spPapers : Sp := fun vs H Q _ => ∃ (sg : List Nat) (m : Nat), vs = [.str (S sg), .int ((m : Nat) : Int)] ∧ 1 ≤ m ∧ m ≤ 3 ∧ 0 < sg.length ∧ sg.length ≤ 3 ∧
  ∀ (ps : List (List Nat)) p H', Same H H' → H p = none → H' p = some (.lst (vS ps)) → 2 ≤ ps.length → ps.length ≤ 100 → (∀ l ∈ ps, Pap sg l ∧ l.length ≤ 3) → Q (.ref p) H'
theorem flat_len (qs : List (List Nat)) (sg : List Nat) : (qs.flatMap fun l => sg.map fun c => l ++ [c]).length = qs.length * sg.length := by
  induction qs with
  | nil => simp
  | cons a qs ih => rw [List.flatMap_cons, List.length_append, ih, List.length_map, List.length_cons, Nat.succ_mul]; omega
theorem sc__law_papers_of : FnScope ["_law_signs", "_law_most", "_law_told", "_law_here", "_law_k"] ["_law_signs", "_law_most"] (defScope s__law_papers_of) := ⟨rfl, rfl, rfl, by decide +kernel, rfl, by decide +kernel, by decide +kernel⟩
theorem ok__law_papers_of (T : Tx K mg) : C1 P w K mg base CX0 2 "_law_papers_of" ["_law_signs", "_law_most"] spPapers := by
  obtain ⟨fd, F⟩ := d__law_papers_of T
  refine .mk1 F (g__law_papers_of T) (fun _ _ _ _ _ _ us hl => match us, hl with | [_, _], _ => rfl) sc__law_papers_of (fun vs H Q E h => ?_) (fun cdv A outer s H vs Q E hr h => ?_)
  · obtain ⟨sg, m, rfl, hm1, hm3, h0, h3, k⟩ := h
    rfl
  obtain ⟨sg, m, rfl, hm1, hm3, h0, h3, k⟩ := h
  have hu := hu_of hr
  have hu64 := hu64_of hr
  have hu6 := hu64' hr
  refine ⟨_, (pss_cons (ps_set (i := 2) sc__law_papers_of.nd rfl (Or.inl rfl) (pe_lst (pa_cons pe_str pa_nil)))
      (pss_cons (ps_set (i := 3) sc__law_papers_of.nd rfl (Or.inl rfl) (pe_lst (pa_cons pe_str pa_nil)))
      (pss_cons (ps_for PassesOwn.never rfl (pi_range1 (by rfl) (f_range T) (pa_cons (pv 1) pa_nil)) (pg_name (i := 4) sc__law_papers_of.nd rfl (Or.inl rfl)) (pss_cons (ps_set (i := 3) sc__law_papers_of.nd rfl (Or.inl rfl) (pe_c1 (ok__law_longer T) (hr.mono (by decide)) (by rfl) (pa_cons (pv 3) (pa_cons (pv 0) pa_nil))))
      (pss_one (ps_set (i := 2) sc__law_papers_of.nd rfl (Or.inl rfl) (pe_op op_cat (pv 2) (pv 3))))))
      (pss_one (ps_ret (pv 2)))))), ?_⟩
  walk_at "go"
  refine ⟨by decide, fun t ht => ?_⟩
  walk_at "go"
  refine ⟨by decide, fun h hh => ?_⟩
  walk_at "go"
  refine ⟨_, rfl, by omega, by omega, ?_⟩
  have th : h ≠ t := fun z => by rw [z, upd_same] at hh; cases hh
  have hh0 : H h = none := by rw [upd_ne th] at hh; exact hh
  refine fo_R (n := m) (fun i σ H' => ∃ (v : Option V) (a b : Addr) (ts hs : List (List Nat)), σ = [some (.str (S sg)), some (.int ((m : Nat) : Int)), some (.ref a), some (.ref b), v] ∧ Same H H' ∧ H a = none ∧ H' a = some (.lst (vS ts)) ∧ H' b = some (.lst (vS hs)) ∧ i ≤ m ∧ 1 ≤ hs.length ∧ hs.length ≤ 3 ^ i ∧ i + 1 ≤ ts.length ∧ ts.length ≤ 3 ^ (i + 1) ∧
      (∀ l ∈ hs, Pap sg l ∧ l.length ≤ i) ∧ ∀ l ∈ ts, Pap sg l ∧ l.length ≤ i)
    ⟨_, t, h, [[]], [[]], rfl, (same_new ht).trans (same_new hh), ht, by rw [upd_ne th.symm, upd_same]; rfl, upd_same, by omega, by simp, by simp, by simp, by simp, by simp [Pap.nil], by simp [Pap.nil]⟩ ?_ ?_
  · rintro i σ' H' hi ⟨v, a, b, ts, hs, rfl, s, a0, ha, hb, him, l1, l2, l3, l4, m1, m2⟩
    have hp : 3 ^ i ≤ 9 := by
      have : 3 ^ i ≤ 3 ^ 2 := Nat.pow_le_pow_right (by omega) (by omega)
      simpa using this
    have hp1 : 3 ^ (i + 1) = 3 * 3 ^ i := by rw [Nat.pow_succ]; omega
    have hp2 : 3 ^ (i + 1 + 1) = 3 * 3 ^ (i + 1) := by rw [Nat.pow_succ]; omega
    walk_at "go"
    refine ⟨b, hs, sg, rfl, hb, by omega, by omega, fun l hl => by have := (m1 l hl).2; omega, fun p H2 s2 hp0 hp2' => ?_⟩
    walk_at "go"
    have fl := flat_len hs sg
    have fl2 : hs.length * sg.length ≤ hs.length * 3 := Nat.mul_le_mul_left _ h3
    have fl3 : 1 ≤ hs.length * sg.length := Nat.mul_pos l1 h0
    refine ⟨a, p, _, _, rfl, rfl, s2 _ _ ha, hp2', by simp only [vS, List.length_map]; rw [fl]; exact sl100 (by omega), fun r hr0 => ?_⟩
    walk_at "go"
    refine ⟨_, r, p, ts ++ (hs.flatMap fun l => sg.map fun c => l ++ [c]), (hs.flatMap fun l => sg.map fun c => l ++ [c]), rfl, (s.trans s2).trans (same_new hr0), (s.trans s2).free hr0, by rw [upd_same]; simp [vS], by rw [upd_ne (ne_of_none hp2' hr0)]; exact hp2', by omega, by rw [fl]; exact fl3, by rw [fl]; omega, by rw [List.length_append, fl]; omega, by rw [List.length_append, fl]; omega, fun l hl => ?_, fun l hl => ?_⟩
    · obtain ⟨x, hx, hl⟩ := List.mem_flatMap.mp hl
      obtain ⟨c, hc, rfl⟩ := List.mem_map.mp hl
      exact ⟨(m1 x hx).1.app (Pap.one hc), by have := (m1 x hx).2; simp; omega⟩
    · rcases List.mem_append.mp hl with hl | hl
      · exact ⟨(m2 l hl).1, by have := (m2 l hl).2; omega⟩
      · obtain ⟨x, hx, hl⟩ := List.mem_flatMap.mp hl
        obtain ⟨c, hc, rfl⟩ := List.mem_map.mp hl
        exact ⟨(m1 x hx).1.app (Pap.one hc), by have := (m1 x hx).2; simp; omega⟩
  · rintro σ' H' ⟨v, a, b, ts, hs, rfl, s, a0, ha, hb, him, l1, l2, l3, l4, m1, m2⟩
    walk_at "go"
    have hp : 3 ^ (m + 1) ≤ 81 := by
      have : 3 ^ (m + 1) ≤ 3 ^ 4 := Nat.pow_le_pow_right (by omega) (by omega)
      simpa using this
    exact k ts a H' s a0 ha (by omega) (by omega) fun l hl => ⟨(m2 l hl).1, by have := (m2 l hl).2; omega⟩
/-- a drawn sum -/
structure SumD (m : Nat) (ws : List Nat) (g : Nat) : Prop where
  m2 : 2 ≤ m
  m5 : m ≤ 5
  w1 : 1 ≤ ws.length
  w3 : ws.length ≤ 3
  wl : ∀ x ∈ ws, x < m
  gl : g < m
def spSum : Sp := fun vs H Q _ => ∃ (a : Addr) (z : Str), vs = [.ref a, .str z] ∧ Bag H a ∧ ∀ (m : Nat) (ws : List Nat) (g : Nat) p q H', SumD m ws g → Drew a H H' → H' p = some (.tup [.str "sum", .int ((m : Nat) : Int), .ref q, .int ((g : Nat) : Int)]) → H' q = some (.tup (rI ws)) → Q (.ref p) H'
theorem sc__law_sum : FnScope ["_law_bag", "_law_signs", "_law_modulus", "_law_weights", "_law_k"] ["_law_bag", "_law_signs"] (defScope s__law_sum) := ⟨rfl, rfl, rfl, by decide +kernel, rfl, by decide +kernel, by decide +kernel⟩
theorem ok__law_sum (T : Tx K mg) : C1 P w K mg base CX0 2 "_law_sum" ["_law_bag", "_law_signs"] spSum := by
  obtain ⟨fd, F⟩ := d__law_sum T
  refine .mk1 F (g__law_sum T) (fun _ _ _ _ _ _ us hl => match us, hl with | [_, _], _ => rfl) sc__law_sum (fun vs H Q E h => ?_) (fun cdv A outer s H vs Q E hr h => ?_)
  · obtain ⟨a, z, rfl, B, k⟩ := h
    rfl
  obtain ⟨a, z, rfl, B, k⟩ := h
  have hu := hu_of hr
  have hu64 := hu64_of hr
  have hu6 := hu64' hr
  refine ⟨_, (pss_cons (ps_set (i := 2) sc__law_sum.nd rfl (Or.inl rfl) (pe_op op_add pe_int (pe_c1 (ok__law_pick T) (hr.mono (by decide)) (by rfl) (pa_cons (pv 0) (pa_cons pe_int pa_nil)))))
      (pss_cons (ps_set (i := 3) sc__law_sum.nd rfl (Or.inl rfl) (pe_lst pa_nil))
      (pss_cons (ps_for PassesOwn.never rfl (pi_range1 (by rfl) (f_range T) (pa_cons (pe_ix (ix_listK K (by rfl)) (pe_lst (pa_cons pe_int (pa_cons pe_int (pa_cons pe_int (pa_cons pe_int (pa_cons pe_int pa_nil)))))) (pe_c1 (ok__law_pick T) (hr.mono (by decide)) (by rfl) (pa_cons (pv 0) (pa_cons pe_int pa_nil))) (fun _ _ => rfl)) pa_nil)) (pg_name (i := 4) sc__law_sum.nd rfl (Or.inl rfl)) (pss_one (ps_expr (pe_bmK K (by rfl) PySem.F.plainAttrs_list PySem.F.slot_list_append PySem.F.type_list_append mt_append (pv 3) (pa_cons (pe_ifExp (pt_cmpR op_eq (pe_c1 (ok__law_pick T) (hr.mono (by decide)) (by rfl) (pa_cons (pv 0) (pa_cons pe_int pa_nil))) pe_int (nomark _)) pe_int (pe_op op_add pe_int (pe_c1 (ok__law_pick T) (hr.mono (by decide)) (by rfl) (pa_cons (pv 0) (pa_cons (pe_op op_sub (pv 2) pe_int) pa_nil))))) pa_nil)))))
      (pss_one (ps_ret (pe_tup (pa_cons pe_str (pa_cons (pv 2) (pa_cons (pe_callTy (call_tupleK K (by rfl)) (by rfl) (f_tuple T) (by decide +kernel) (pa_cons (pv 3) pa_nil)) (pa_cons (pe_c1 (ok__law_pick T) (hr.mono (by decide)) (by rfl) (pa_cons (pv 0) (pa_cons (pv 2) pa_nil))) pa_nil)))))))))), ?_⟩
  walk_at "go"
  refine ⟨a, 4, rfl, B, by omega, by omega, fun r H1 hr1 d1 => ?_⟩
  walk_at "go"
  refine ⟨Nat.zero_le _, fun t ht => ?_⟩
  have ta := d1.2.ne ht
  have ht0 := d1.1.free ta ht
  walk_at "go"
  refine ⟨by decide, fun p hp => ?_⟩
  have hpt : p ≠ t := fun z => by rw [z, upd_same] at hp; cases hp
  have pa := (d1.2.upd ta).ne hp
  walk_at "go"
  refine ⟨a, 5, rfl, (d1.2.upd ta).upd pa, by omega, by omega, fun r2 H2 hr2 d2 => ?_⟩
  have hp3 := d2.1 _ _ pa upd_same
  have ht3 := d2.1 _ _ ta (by rw [upd_ne hpt.symm]; exact upd_same)
  obtain ⟨y, hy, ey⟩ := nat_of_mem (l := [1, 1, 2, 2, 3]) (v := ([V.int 1, V.int 1, V.int 2, V.int 2, V.int 3] : List V)[r2]) (List.getElem_mem (by exact hr2))
  have hy3 : 1 ≤ y ∧ y ≤ 3 := by
    simp only [List.mem_cons, List.not_mem_nil, or_false] at hy
    omega
  refine r_ixL (SqL.of hp3) (atI_mem hr2) ?_
  rw [ey]
  walk_at "go"
  refine ⟨_, rfl, by omega, by omega, ?_⟩
  have d0 : Drew a H H2 := (((d1.new B ht).new B hp)).trans d2
  rw [show 2 + ((r : Nat) : Int) = ((2 + r : Nat) : Int) by omega]
  refine fo_R (n := y) (fun i σ H' => ∃ (v : Option V) (ws : List Nat), σ = [some (.ref a), some (.str z), some (.int ((2 + r : Nat) : Int)), some (.ref t), v] ∧ Drew a H H' ∧ H' t = some (.lst (rI ws)) ∧ ws.length = i ∧ ∀ x ∈ ws, x < 2 + r)
    ⟨_, [], rfl, d0, ht3, rfl, by simp⟩ ?_ ?_
  · rintro i σ' H' hi ⟨v, ws, rfl, d, h1, e1, m1⟩
    have fin : ∀ (x : Nat) H4, x < 2 + r → Drew a H' H4 → ∃ (v : Option V) (ws : List Nat), [some (V.ref a), some (.str z), some (.int ((2 + r : Nat) : Int)), some (.ref t), some (V.int ((i : Nat) : Int))] = [some (V.ref a), some (.str z), some (.int ((2 + r : Nat) : Int)), some (.ref t), v] ∧
        Drew a H (upd H4 t (.lst (rI ws))) ∧ upd H4 t (.lst (rI ws)) t = some (.lst (rI ws)) ∧ ws.length = i + 1 ∧ ∀ x ∈ ws, x < 2 + r := fun x H4 hx d4 => by
      exact ⟨_, ws ++ [x], rfl, (d.trans d4).mut ta ht0, upd_same, by simp [e1], fun u hu => by
        rcases List.mem_append.mp hu with h | h
        · exact m1 u h
        · rw [List.mem_singleton.mp h]; exact hx⟩
    walk_at "go"
    refine ⟨r_tyL h1, ?_⟩
    walk_at "go"
    refine ⟨a, 9, rfl, d.2, by omega, by omega, fun r3 H3 hr3 d3 => ?_⟩
    walk_at "go"
    refine iteD (fun h => ?_) (fun h => ?_)
    · walk_at "go"
      have h3 := d3.1 _ _ ta h1
      refine ⟨t, _, _, rfl, rfl, h3, sl100' (by rw [rI_len]; omega), ?_⟩
      walk_at "go"
      exact ⟨_, ws ++ [0], rfl, (d.trans d3).mut ta ht0, by rw [upd_same]; simp [rI], by simp [e1], fun u hu => by
        rcases List.mem_append.mp hu with h | h
        · exact m1 u h
        · rw [List.mem_singleton.mp h]; omega⟩
    · walk_at "go"
      refine ⟨a, 1 + r, by rw [show ((2 + r : Nat) : Int) - 1 = ((1 + r : Nat) : Int) by omega], d3.2, by omega, by omega, fun r4 H4 hr4 d4 => ?_⟩
      walk_at "go"
      have h4 := d4.1 _ _ ta (d3.1 _ _ ta h1)
      refine ⟨t, _, _, rfl, rfl, h4, sl100' (by rw [rI_len]; omega), ?_⟩
      walk_at "go"
      exact ⟨_, ws ++ [1 + r4], rfl, ((d.trans d3).trans d4).mut ta ht0, by rw [upd_same]; simp [rI], by simp [e1], fun u hu => by
        rcases List.mem_append.mp hu with h | h
        · exact m1 u h
        · rw [List.mem_singleton.mp h]; omega⟩
  · rintro σ' H' ⟨v, ws, rfl, d, h1, e1, m1⟩
    walk_at "go"
    refine ⟨_, _, rfl, .inl ⟨SqL.of h1, fun q hq => ?_⟩⟩
    have qa := d.2.ne hq
    walk_at "go"
    refine ⟨a, 2 + r, rfl, d.2.upd qa, by omega, by omega, fun g H5 hg d5 => ?_⟩
    walk_at "go"
    have hq5 := d5.1 _ _ qa upd_same
    refine ⟨by decide, fun p5 hp5 => ?_⟩
    walk_at "go"
    exact k (2 + r) ws g p5 q _ ⟨by omega, by omega, by omega, by omega, m1, hg⟩ (((d.new B hq).trans d5).new B hp5) upd_same (by rw [upd_ne (ne_of_none hq5 hp5)]; exact hq5)
end

end K18
end
section
set_option maxRecDepth 100000
set_option maxHeartbeats 4000000
local macro_rules | `(tactic| walk_at "go1") => `(tactic| first
  | (with_reducible refine K18.r_seq ?_) | (with_reducible refine K18.r_ifs ?_) | (with_reducible refine K18.r_ret ?_) | (with_reducible refine K18.r_asg ?_) | (with_reducible refine K18.r_drop ?_) | (with_reducible refine K18.r_next ?_)
  | (with_reducible refine K18.r_name ?_) | (with_reducible refine K18.r_var rfl ?_) | (with_reducible refine K18.r_c ?_) | (with_reducible refine K18.r_op ?_) | (with_reducible refine K18.r_cons ?_) | (with_reducible refine K18.r_nil ?_)
  | (with_reducible refine K18.r_cb ?_) | (with_reducible refine K18.r_call ?_) | (with_reducible refine K18.r_make ?_) | (with_reducible refine K18.r_B ?_) | (with_reducible refine K18.r_test ?_) | (with_reducible refine K18.r_or ?_) | (with_reducible refine K18.r_and ?_) | (with_reducible refine K18.r_not ?_)
  | (with_reducible refine K18.r_andV ?_) | (with_reducible refine K18.r_orV ?_) | (with_reducible refine K18.r_notV ?_) | (with_reducible refine K18.r_if ?_) | (with_reducible refine K18.r_aug rfl ?_) | (with_reducible refine K18.r_ip ?_)
  | (with_reducible refine K18.r_I0 ?_) | (with_reducible refine K18.r_int1 ?_) | (with_reducible refine K18.r_mod (by first | decide | omega) ?_) | (with_reducible refine K18.r_fdivN (by first | decide | omega) (by first | decide | omega) ?_) | (with_reducible refine K18.r_mulR (by first | decide | omega) (by first | decide | omega) ?_) | (with_reducible refine K18.r_mulL (by first | decide | omega) (by first | decide | omega) ?_) | (with_reducible refine K18.r_inG ?_) | (with_reducible refine K18.r_notInG ?_) | (with_reducible refine K18.r_ltS ?_) | (with_reducible refine K18.r_ex ?_) | (with_reducible refine K18.r_eqI ?_) | (with_reducible refine K18.r_neI ?_) | (with_reducible refine K18.r_eqB ?_) | (with_reducible refine K18.r_neB ?_) | (with_reducible refine K18.r_isN ?_)
  | (with_reducible refine K18.r_tup ?_) | (with_reducible refine K18.r_lst ?_) | (with_reducible refine K18.r_yes ?_) | (with_reducible refine K18.r_gsub ?_) | (with_reducible refine K18.r_dget ?_) | (with_reducible refine K18.r_sl ?_) | (with_reducible refine K18.r_part ?_) | (with_reducible refine K18.r_nopart ?_)
  | (with_reducible refine K18.r_chain ?_) | (with_reducible refine K18.r_bm ?_) | (with_reducible refine K18.iteT ?_) | (with_reducible refine K18.iteF ?_) | (with_reducible refine K18.iteNT ?_) | (with_reducible refine K18.iteNF ?_)
  | (with_reducible refine K18.r_for ?_) | (with_reducible refine K18.r_while ?_) | (with_reducible refine K18.r_lc ?_) | (with_reducible refine K18.r_iR1 ?_) | (with_reducible refine K18.r_iR2 ?_) | (with_reducible refine K18.r_iL ?_) | (with_reducible refine K18.r_iT ?_) | (with_reducible refine K18.r_iS ?_)
  | dsimp only [L2.start, List.map, List.replicate, List.length, List.cons_append, List.nil_append, List.append_nil, Nat.reduceAdd, Nat.reduceSub, List.set])
local macro_rules | `(tactic| walk_at "go") => `(tactic| repeat walk_at "go1")
namespace K18
open PySem PySem.Spec PyProof.Rows L2
theorem rgV_rI (n : Nat) : rgV 0 ((n : Nat) : Int) = rI (List.range n) := by
  unfold rgV rI
  rw [show (((n : Nat) : Int) - 0).toNat = n by omega]
  exact List.map_congr_left fun i _ => by rw [Int.zero_add]
section
variable {P : Program} {w : World} {K : PySem.W.Frag} {mg : Str → Option Value} {base : Heap}
def spRowsOf (K : PySem.W.Frag) : Sp := fun vs H Q _ => ∃ (a : Addr) (sg : List Nat) (n : Nat), vs = [.ref a, .str (S sg), .int ((n : Nat) : Int)] ∧ Bag H a ∧ 1 ≤ n ∧ n ≤ 100 ∧ sg.length ≤ 12 ∧ ∀ v rows H', Drew a H H' → Tab sg.length n rows → RowsT K H' v rows → Q v H'
theorem sc__law_rows_of : FnScope ["_law_bag", "_law_signs", "_law_many", "_law_columns", "_law_sign", "_law_column", "_law_z"] ["_law_bag", "_law_signs", "_law_many"] (defScope s__law_rows_of) := ⟨rfl, rfl, rfl, by decide +kernel, rfl, by decide +kernel, by decide +kernel⟩
theorem ok__law_rows_of (T : Tx K mg) : C1 P w K mg base CX0 3 "_law_rows_of" ["_law_bag", "_law_signs", "_law_many"] (spRowsOf K) := by
  obtain ⟨fd, F⟩ := d__law_rows_of T
  refine .mk1 F (g__law_rows_of T) (fun _ _ _ _ _ _ us hl => match us, hl with | [_, _, _], _ => rfl) sc__law_rows_of (fun vs H Q E h => ?_) (fun cdv A outer s H vs Q E hr h => ?_)
  · obtain ⟨a, sg, n, rfl, B, h1, hn, h12, k⟩ := h
    rfl
  obtain ⟨a, sg, n, rfl, B, h1, hn, h12, k⟩ := h
  have hu := hu_of hr
  have hu64 := hu64_of hr
  have hu6 := hu64' hr
  refine ⟨_, (pss_cons (ps_if (pt_cmpR op_eq (pe_c1 (ok__law_pick T) (hr.mono (by decide)) (by rfl) (pa_cons (pv 0) (pa_cons pe_int pa_nil))) pe_int (nomark _)) (pss_cons (ps_set (i := 3) sc__law_rows_of.nd rfl (Or.inr rfl) (pe_lc (own := [("_law_sign", 4)]) (g := gName 4) (by rfl) sc__law_rows_of.nd (pi_str (pv 1)) (blkOk_by (own := [("_law_sign", 4)]) (by kernel_rfl)) (fun _ _ _ _ _ => pg_name (i := 4) sc__law_rows_of.nd rfl (Or.inl rfl)) (fun _ _ _ _ _ => pts_nil) (fun _ _ _ _ _ => (pe_c1 (ok__law_mixed T) (hr.mono (by decide)) (by rfl) (pa_cons (pv 0) (pa_cons (pe_listRg rfl (by rfl) (f_list T) (prg_1 (by rfl) (f_range T) (pv 2))) pa_nil))))))
      (pss_one (ps_ret (pe_callTy (call_tupleK K (by rfl)) (by rfl) (f_tuple T) (by decide +kernel) (pa_cons (pe_lc (own := [("_law_z", 6)]) (g := gName 6) (by rfl) sc__law_rows_of.nd (pi_range1 (by rfl) (f_range T) (pa_cons (pv 2) pa_nil)) (blkOk_by (own := [("_law_z", 6)]) (by kernel_rfl)) (fun _ _ _ _ _ => pg_name (i := 6) sc__law_rows_of.nd rfl (Or.inr rfl)) (fun _ _ _ _ _ => pts_nil) (fun _ _ _ _ _ => (pe_callTy (call_tupleK K (by rfl)) (by rfl) (f_tuple T) (by decide +kernel) (pa_cons (pe_lc (own := [("_law_column", 5)]) (g := gName 5) (by rfl) sc__law_rows_of.nd (pi_listK K (by rfl) (pv 3)) (blkOk_by (own := [("_law_column", 5)]) (by kernel_rfl)) (fun _ _ _ _ _ => pg_name (i := 5) sc__law_rows_of.nd rfl (Or.inl rfl)) (fun _ _ _ _ _ => pts_nil) (fun _ _ _ _ _ => (pe_ix (ix_listK K (by rfl)) (pv 5) (pv 6) (fun _ _ => rfl)))) pa_nil)))) pa_nil))))) pss_nil)
      (pss_one (ps_ret (pe_callTy (call_tupleK K (by rfl)) (by rfl) (f_tuple T) (by decide +kernel) (pa_cons (pe_lc (own := [("_law_z", 6)]) (g := gName 6) (by rfl) sc__law_rows_of.nd (pi_range1 (by rfl) (f_range T) (pa_cons (pv 2) pa_nil)) (blkOk_by (own := [("_law_z", 6)]) (by kernel_rfl)) (fun _ _ _ _ _ => pg_name (i := 6) sc__law_rows_of.nd rfl (Or.inl rfl)) (fun _ _ _ _ _ => pts_nil) (fun _ _ _ _ _ => (pe_callTy (call_tupleK K (by rfl)) (by rfl) (f_tuple T) (by decide +kernel) (pa_cons (pe_lc (own := [("_law_sign", 4)]) (g := gName 4) (by rfl) sc__law_rows_of.nd (pi_str (pv 1)) (blkOk_by (own := [("_law_sign", 4)]) (by kernel_rfl)) (fun _ _ _ _ _ => pg_name (i := 4) sc__law_rows_of.nd rfl (Or.inl rfl)) (fun _ _ _ _ _ => pts_nil) (fun _ _ _ _ _ => (pe_c1 (ok__law_pick T) (hr.mono (by decide)) (by rfl) (pa_cons (pv 0) (pa_cons (pv 2) pa_nil))))) pa_nil)))) pa_nil))))), ?_⟩
  walk_at "go"
  refine ⟨a, 2, rfl, B, by omega, by omega, fun r H1 hr1 d1 => ?_⟩
  walk_at "go"
  refine iteD (fun h => ?_) (fun h => ?_)
  · walk_at "go"
    refine ⟨_, rfl, fun D hD => ?_⟩
    refine lcb_S d1.2 (fun y H => ∃ p ns, y = .ref p ∧ H p = some (.lst (rI ns)) ∧ ns.length = n ∧ (∀ x ∈ ns, x < n) ∧ p ≠ a ∧ p ≠ D) ?_ (by omega) hD ?_ ?_ ?_
    · rintro y H H' b s ⟨p, ns, e, hp, h1, h2, h3, h4⟩
      exact ⟨p, ns, e, s _ _ h3 hp, h1, h2, h3, h4⟩
    · rintro y H o ⟨p, ns, e, hp, h1, h2, h3, h4⟩ hL o'
      exact ⟨p, ns, e, by rw [upd_ne h4]; exact hp, h1, h2, h3, h4⟩
    · rintro c H2 hc d2 ⟨acc, hL⟩ Q2 k2
      walk_at "go"
      refine ⟨_, rfl, _, rfl, .of_le (by omega) (by omega) (by omega) (by omega), fun p hp => ?_⟩
      rw [rgV_rI]
      have pa := d2.2.ne hp
      have pD : p ≠ D := fun z => by rw [z, hL] at hp; cases hp
      walk_at "go"
      refine ⟨a, p, rI (List.range n), rfl, d2.2.upd pa, upd_same, pa, by rw [rI_len]; simp; omega, fun q ys H3 d3 hq qa hq3 hy1 hy2 => ?_⟩
      have qD : q ≠ D := fun z => by rw [z, upd_ne pD.symm, hL] at hq; cases hq
      obtain ⟨l, el, hl'⟩ := exists_rI (P := fun u => u < n) (ys := ys) fun z hz => by
        obtain ⟨x, hx, e⟩ := nat_of_mem (hy2 z hz)
        exact ⟨x, e, List.mem_range.mp hx⟩
      refine k2 _ _ (((Drew.refl d2.2).new d2.2 hp).trans d3) ⟨q, l, rfl, by rw [← el]; exact hq3, ?_, hl', qa, qD⟩
      rw [← rI_len, ← el, hy1, rI_len]
      simp
    · rintro ys H2 d2 hL hl hy
      walk_at "go"
      refine ⟨_, rfl, by omega, by omega, fun D2 hD2 => ?_⟩
      have D2a := d2.2.ne hD2
      have D2D : D2 ≠ D := fun z => by rw [z, hL] at hD2; cases hD2
      refine lcb_R d2.2 (fun y H => ∃ r, RowT K H y r ∧ r.length = sg.length ∧ ∀ x ∈ r, x < n) ?_ (by omega) hD2 ?_ ?_ ?_
      · rintro y H H' b s ⟨r, h1, h2, h3⟩
        exact ⟨r, h1.kp (s.bkp b), h2, h3⟩
      · rintro y H o ⟨r, h1, h2, h3⟩ hL o'
        exact ⟨r, h1.kp (kp_updL hL), h2, h3⟩
      · rintro i H3 hi d3 ⟨acc, hL3⟩ Q3 k3
        walk_at "go"
        have Da := d1.2.ne hD
        have hLD := d3.1 _ _ Da hL
        refine ⟨D, rfl, ⟨_, SqL.of hLD⟩, fun D4 hD4 => ?_⟩
        refine lcg_rel (xs := ys) (by omega) hD4 L2.walk_list (fun H s => SqL.of (s _ _ hLD)) (fun x y _ => ∃ u : Nat, y = .int ((u : Nat) : Int) ∧ u < n) (fun _ _ _ _ _ h => h) ?_ ?_ (fun _ _ _ _ h _ _ => h)
        · intro m y H5 hy5 s5 Q5 k5
          obtain ⟨p, ns, rfl, hp, e1, e2, e3, e4⟩ := hy y (List.mem_of_getElem? hy5)
          walk_at "go"
          have hp5 := s5 _ _ (d3.1 _ _ e3 hp)
          have hin : i < (rI ns).length := by rw [rI_len, e1]; exact hi
          have eg : (rI ns)[i] = V.int ((ns[i]'(by rw [← rI_len]; exact hin) : Nat) : Int) := by simp [rI]
          refine r_ixL (SqL.of hp5) (atI_mem hin) ?_
          rw [eg]
          exact k5 _ H5 (Same.refl _) ⟨_, rfl, e2 _ (List.getElem_mem _)⟩
        · intro zs H5 s5 hL5 pz
          walk_at "go"
          obtain ⟨l, el, hl'⟩ := exists_rI (P := fun u => u < n) (ys := zs) fun z hz => let ⟨_, h⟩ := Paired.right pz z hz; h
          refine r_tupL (SqL.of hL5) fun q hq => ?_
          walk_at "go"
          have lz : zs.length = ys.length := (Paired.length pz).symm
          refine k3 _ _ ((Drew.refl d3.2).same (s5.trans (same_new hq))) ⟨l, ⟨q, rfl, ?_⟩, ?_, hl'⟩
          · rw [← el]
            exact SqT.of upd_same
          · rw [← rI_len, ← el, lz, hl]
      · intro zs H3 d3 hL3 hl3 hz3
        walk_at "go"
        refine r_tupL (SqL.of hL3) fun q hq => ?_
        obtain ⟨rows, tb, pr⟩ := rows_of_mem (by omega) hl3 hz3
        exact k _ rows _ (((d1.trans d2).trans d3).new B hq) tb ⟨q, zs, rfl, SqT.of upd_same, Paired.mapP pr fun _ _ z => z.kp (same_kp (same_new hq))⟩
  · walk_at "go"
    refine ⟨_, rfl, by omega, by omega, fun D hD => ?_⟩
    refine lcb_R d1.2 (fun y H => ∃ r, RowT K H y r ∧ r.length = sg.length ∧ ∀ x ∈ r, x < n) ?_ (by omega) hD ?_ ?_ ?_
    · rintro y H H' b s ⟨r, h1, h2, h3⟩
      exact ⟨r, h1.kp (s.bkp b), h2, h3⟩
    · rintro y H o ⟨r, h1, h2, h3⟩ hL o'
      exact ⟨r, h1.kp (kp_updL hL), h2, h3⟩
    · rintro i H3 hi d3 ⟨acc, hL3⟩ Q3 k3
      walk_at "go"
      refine ⟨_, rfl, fun D4 hD4 => ?_⟩
      refine lcb_S d3.2 (fun y _ => ∃ u : Nat, y = .int ((u : Nat) : Int) ∧ u < n) (fun _ _ _ _ _ h => h) (by omega) hD4 (fun _ _ _ h _ _ => h) ?_ ?_
      · intro c H5 hc d5 _ Q5 k5
        walk_at "go"
        refine ⟨a, n, rfl, d5.2, h1, by omega, fun u H6 hu d6 => ?_⟩
        exact k5 _ H6 d6 ⟨u, rfl, hu⟩
      · intro zs H5 d5 hL5 lz hz
        walk_at "go"
        obtain ⟨l, el, hl⟩ := exists_rI (P := fun u => u < n) (ys := zs) hz
        refine r_tupL (SqL.of hL5) fun q hq => ?_
        walk_at "go"
        refine k3 _ _ (d5.new d3.2 hq) ⟨l, ⟨q, rfl, ?_⟩, ?_, hl⟩
        · rw [← el]
          exact SqT.of upd_same
        · rw [← rI_len, ← el, lz]
    · intro zs H3 d3 hL3 hl3 hz3
      walk_at "go"
      refine r_tupL (SqL.of hL3) fun q hq => ?_
      obtain ⟨rows, tb, pr⟩ := rows_of_mem (by omega) hl3 hz3
      exact k _ rows _ ((d1.trans d3).new B hq) tb ⟨q, zs, rfl, SqT.of upd_same, Paired.mapP pr fun _ _ z => z.kp (same_kp (same_new hq))⟩

/-- ascending standings -/
structure GoalD (n : Nat) (gs : List Nat) : Prop where
  lt : ∀ g ∈ gs, g < n
  asc : gs.Pairwise (· < ·)
def spGoals (K : PySem.W.Frag) : Sp := fun vs H Q _ => ∃ (a : Addr) (n : Nat), vs = [.ref a, .int ((n : Nat) : Int)] ∧ Bag H a ∧ 1 ≤ n ∧ n ≤ 100 ∧ ∀ v gs H', Drew a H H' → GoalD n gs → RowT K H' v gs → Q v H'
theorem sc__law_goals : FnScope ["_law_bag", "_law_many", "_law_first", "_law_z"] ["_law_bag", "_law_many"] (defScope s__law_goals) := ⟨rfl, rfl, rfl, by decide +kernel, rfl, by decide +kernel, by decide +kernel⟩
theorem ok__law_goals (T : Tx K mg) : C1 P w K mg base CX0 2 "_law_goals" ["_law_bag", "_law_many"] (spGoals K) := by
  obtain ⟨fd, F⟩ := d__law_goals T
  refine .mk1 F (g__law_goals T) (fun _ _ _ _ _ _ us hl => match us, hl with | [_, _], _ => rfl) sc__law_goals (fun vs H Q E h => ?_) (fun cdv A outer s H vs Q E hr h => ?_)
  · obtain ⟨a, n, rfl, B, h1, hn, k⟩ := h
    rfl
  obtain ⟨a, n, rfl, B, h1, hn, k⟩ := h
  have hu := hu_of hr
  have hu64 := hu64_of hr
  have hu6 := hu64' hr
  refine ⟨_, (pss_cons (ps_set (i := 2) sc__law_goals.nd rfl (Or.inr rfl) (pe_c1 (ok__law_pick T) (hr.mono (by decide)) (by rfl) (pa_cons (pv 0) (pa_cons (pv 1) pa_nil))))
      (pss_cons (ps_if (pt_cmpR op_gt (pe_c1 (ok__law_pick T) (hr.mono (by decide)) (by rfl) (pa_cons (pv 0) (pa_cons pe_int pa_nil))) pe_int (nomark _)) (pss_one (ps_ret (pe_tup (pa_cons (pv 2) pa_nil)))) pss_nil)
      (pss_one (ps_ret (pe_callTy (call_tupleK K (by rfl)) (by rfl) (f_tuple T) (by decide +kernel) (pa_cons (pe_lc (own := [("_law_z", 3)]) (g := gName 3) (by rfl) sc__law_goals.nd (pi_range1 (by rfl) (f_range T) (pa_cons (pv 1) pa_nil)) (blkOk_by (own := [("_law_z", 3)]) (by kernel_rfl)) (fun _ _ _ _ _ => pg_name (i := 3) sc__law_goals.nd rfl (Or.inl rfl)) (fun _ _ _ _ _ => (pts_one (pw_or (pt_cmpR op_eq (pv 3) (pv 2) (nomark _)) (pw_or1 (pt_cmpR op_eq (pe_c1 (ok__law_pick T) (hr.mono (by decide)) (by rfl) (pa_cons (pv 0) (pa_cons pe_int pa_nil))) pe_int (nomark _)))).pt)) (fun _ _ _ _ _ => (pv 3))) pa_nil)))))), ?_⟩
  walk_at "go"
  refine ⟨a, n, rfl, B, h1, by omega, fun f H1 hf d1 => ?_⟩
  walk_at "go"
  refine ⟨a, 3, rfl, d1.2, by omega, by omega, fun r H2 hr2 d2 => ?_⟩
  walk_at "go"
  refine iteD (fun h => ?_) (fun h => ?_)
  · walk_at "go"
    refine ⟨by decide, fun p hp => ?_⟩
    exact k _ [f] _ ((d1.trans d2).new B hp) ⟨by simpa using hf, by simp⟩ ⟨p, rfl, SqT.of upd_same⟩
  · walk_at "go"
    refine ⟨_, rfl, by omega, by omega, fun D hD => ?_⟩
    have Da := d2.2.ne hD
    rw [show ((n : Nat) : Int).toNat = n by omega]
    refine L2.lc_it L2.walk_range (fun i H => Drew a H2 H ∧ ∃ gs, H D = some (.lst (rI gs)) ∧ gs.length ≤ i ∧ GoalD i gs ∧ i ≤ n) ⟨(Drew.refl d2.2).new d2.2 hD, [], upd_same, by simp, ⟨by simp, by simp⟩, by omega⟩ (fun _ _ _ _ => trivial) ?_ ?_
    · rintro i x H3 H4 hi ⟨d3, gs, hL, hl, g, hin⟩ ⟨rfl, rfl⟩
      refine ⟨wipe1 _ _ _, ?_⟩
      simp only [Int.zero_add, wipe]
      walk_at "go"
      have keepG : ∀ H5, Drew a H2 H5 → H5 D = some (.lst (rI gs)) → Drew a H2 H5 ∧ ∃ gs, H5 D = some (.lst (rI gs)) ∧ gs.length ≤ i + 1 ∧ GoalD (i + 1) gs ∧ i + 1 ≤ n := fun H5 d5 h5 =>
        ⟨d5, gs, h5, by omega, ⟨fun x hx => Nat.lt_succ_of_lt (g.lt x hx), g.asc⟩, by omega⟩
      have addG : ∀ H5, Drew a H2 H5 → H5 D = some (.lst (rI gs)) → ∃ acc, H5 D = some (.lst acc) ∧ acc.length < sizeLine ∧ (Drew a H2 (upd H5 D (.lst (acc ++ [V.int ((i : Nat) : Int)]))) ∧ ∃ gs, upd H5 D (.lst (acc ++ [V.int ((i : Nat) : Int)])) D = some (.lst (rI gs)) ∧ gs.length ≤ i + 1 ∧ GoalD (i + 1) gs ∧ i + 1 ≤ n) := fun H5 d5 h5 =>
        ⟨_, h5, sl100' (by rw [rI_len]; omega), d5.mut Da hD, gs ++ [i], by rw [upd_same]; simp [rI], by simp; omega, ⟨fun x hx => by
          rcases List.mem_append.mp hx with h | h
          · exact Nat.lt_succ_of_lt (g.lt x h)
          · rw [List.mem_singleton.mp h]; exact Nat.lt_succ_self _, List.pairwise_append.mpr ⟨g.asc, by simp, fun x hx y hy => by
            rw [List.mem_singleton.mp hy]
            exact g.lt x hx⟩⟩, by omega⟩
      refine iteD (fun h => ?_) (fun h => ?_)
      · walk_at "go"
        exact addG _ d3 hL
      · walk_at "go"
        refine ⟨a, 3, rfl, d3.2, by omega, by omega, fun r5 H5 hr5 d5 => ?_⟩
        have hL5 := d5.1 _ _ Da hL
        walk_at "go"
        refine iteD (fun h => ?_) (fun h => ?_)
        · walk_at "go"
          exact addG _ (d3.trans d5) hL5
        · exact keepG _ (d3.trans d5) hL5
    · rintro H3 ⟨d3, gs, hL, hl, g, hin⟩
      walk_at "go"
      refine r_tupL (SqL.of hL) fun q hq => ?_
      exact k _ gs _ (((d1.trans d2).trans d3).new B hq) g ⟨q, rfl, SqT.of upd_same⟩
end

end K18
end
section
set_option maxRecDepth 100000
set_option maxHeartbeats 4000000
local macro_rules | `(tactic| walk_at "go1") => `(tactic| first
  | (with_reducible refine K18.r_seq ?_) | (with_reducible refine K18.r_ifs ?_) | (with_reducible refine K18.r_ret ?_) | (with_reducible refine K18.r_asg ?_) | (with_reducible refine K18.r_drop ?_) | (with_reducible refine K18.r_next ?_)
  | (with_reducible refine K18.r_name ?_) | (with_reducible refine K18.r_var rfl ?_) | (with_reducible refine K18.r_c ?_) | (with_reducible refine K18.r_op ?_) | (with_reducible refine K18.r_cons ?_) | (with_reducible refine K18.r_nil ?_)
  | (with_reducible refine K18.r_cb ?_) | (with_reducible refine K18.r_call ?_) | (with_reducible refine K18.r_make ?_) | (with_reducible refine K18.r_B ?_) | (with_reducible refine K18.r_test ?_) | (with_reducible refine K18.r_or ?_) | (with_reducible refine K18.r_and ?_) | (with_reducible refine K18.r_not ?_)
  | (with_reducible refine K18.r_andV ?_) | (with_reducible refine K18.r_orV ?_) | (with_reducible refine K18.r_notV ?_) | (with_reducible refine K18.r_if ?_) | (with_reducible refine K18.r_aug rfl ?_) | (with_reducible refine K18.r_ip ?_)
  | (with_reducible refine K18.r_I0 ?_) | (with_reducible refine K18.r_int1 ?_) | (with_reducible refine K18.r_mod (by first | decide | omega) ?_) | (with_reducible refine K18.r_fdivN (by first | decide | omega) (by first | decide | omega) ?_) | (with_reducible refine K18.r_mulR (by first | decide | omega) (by first | decide | omega) ?_) | (with_reducible refine K18.r_mulL (by first | decide | omega) (by first | decide | omega) ?_) | (with_reducible refine K18.r_inG ?_) | (with_reducible refine K18.r_notInG ?_) | (with_reducible refine K18.r_ltS ?_) | (with_reducible refine K18.r_ex ?_) | (with_reducible refine K18.r_eqI ?_) | (with_reducible refine K18.r_neI ?_) | (with_reducible refine K18.r_eqB ?_) | (with_reducible refine K18.r_neB ?_) | (with_reducible refine K18.r_isN ?_)
  | (with_reducible refine K18.r_tup ?_) | (with_reducible refine K18.r_lst ?_) | (with_reducible refine K18.r_yes ?_) | (with_reducible refine K18.r_gsub ?_) | (with_reducible refine K18.r_dget ?_) | (with_reducible refine K18.r_sl ?_) | (with_reducible refine K18.r_part ?_) | (with_reducible refine K18.r_nopart ?_)
  | (with_reducible refine K18.r_chain ?_) | (with_reducible refine K18.r_bm ?_) | (with_reducible refine K18.iteT ?_) | (with_reducible refine K18.iteF ?_) | (with_reducible refine K18.iteNT ?_) | (with_reducible refine K18.iteNF ?_)
  | (with_reducible refine K18.r_for ?_) | (with_reducible refine K18.r_while ?_) | (with_reducible refine K18.r_lc ?_) | (with_reducible refine K18.r_iR1 ?_) | (with_reducible refine K18.r_iR2 ?_) | (with_reducible refine K18.r_iL ?_) | (with_reducible refine K18.r_iT ?_) | (with_reducible refine K18.r_iS ?_)
  | dsimp only [L2.start, List.map, List.replicate, List.length, List.cons_append, List.nil_append, List.append_nil, Nat.reduceAdd, Nat.reduceSub, List.set])
local macro_rules | `(tactic| walk_at "go") => `(tactic| repeat walk_at "go1")
namespace K18
open PySem PySem.Spec PyProof.Rows L2
/-! ### text.index(sign) -/
def rSIx : V → List V → Hp → VK → Prop := fun x xs H Q => ∃ a b i rest, x = .str a ∧ xs = [.str b] ∧ Builtin.Str.occurrences a b 0 a.length 1 = i :: rest ∧ Q (.int (i : Nat)) H
theorem mt_sIx {X : Cx} : MtR X "str.index" rSIx := mt_sindex
theorem occ_ix {l : List Nat} {c : Nat} (h : c ∈ l) : ∃ rest, Builtin.Str.occurrences (S l) (S [c]) 0 (S l).length 1 = ix c l :: rest := by
  have sub : ∀ i, StrLaws.At (S l) (S [c]) (S l).length i ↔ l[i]? = some c := fun i => StrLaws.subAt_one (S l) c i
  rcases StrLaws.occ_head (S l) (S [c]) 1 (by omega) with ⟨_, h2⟩ | ⟨i, r, e, h2, h3⟩
  · exact absurd ((sub _).mpr (ix_get h)) (h2 (ix c l))
  · have e1 := (sub i).mp h2
    have : i = ix c l := by
      rcases Nat.lt_trichotomy i (ix c l) with g | g | g
      · exfalso
        obtain ⟨hi, e2⟩ := List.getElem?_eq_some_iff.mp e1
        have g' : i < l.idxOf c := g
        have := List.not_of_lt_findIdx (p := (· == c)) (xs := l) (i := i) g'
        simp [e2] at this
      · exact g
      · exact absurd ((sub _).mpr (ix_get h)) (h3 _ g)
    rw [← this]
    exact ⟨r, e⟩
theorem r_sIx {H : Hp} {Q : VK} {l : List Nat} {c : Nat} (h : c ∈ l) (q : Q (.int ((ix c l : Nat) : Int)) H) : rSIx (.str (S l)) [.str (S [c])] H Q := by
  obtain ⟨r, e⟩ := occ_ix h
  exact ⟨_, _, _, r, rfl, rfl, e, q⟩
/-- a paper's word -/
def wd (sg l : List Nat) : Wd := l.map fun c => ix c sg
theorem wd_app (sg l m : List Nat) : wd sg (l ++ m) = wd sg l ++ wd sg m := List.map_append
theorem wd_ltk {sg l : List Nat} (h : Pap sg l) : Ltk sg.length (wd sg l) := fun x hx => by
  obtain ⟨c, hc, e⟩ := List.mem_map.mp hx
  rw [← e]
  exact ix_lt (h c hc)
theorem wd_len (sg l : List Nat) : (wd sg l).length = l.length := List.length_map _
theorem RowT.get {K : PySem.W.Frag} {H : Hp} {v : V} {r : List Nat} (h : RowT K H v r) {i x : Nat} (e : r[i]? = some x) {Q : VK} (q : Q (.int ((x : Nat) : Int)) H) : rIxT K v (.int ((i : Nat) : Int)) H Q := by
  obtain ⟨a, rfl, hs⟩ := h
  exact r_ixT hs (atI_nat (rI_get e)) q
theorem RowsT.get {K : PySem.W.Frag} {H : Hp} {v : V} {rows : List (List Nat)} (h : RowsT K H v rows) {i : Nat} {r : List Nat} (e : rows[i]? = some r) {Q : VK} (q : ∀ y, RowT K H y r → Q y H) : rIxT K v (.int ((i : Nat) : Int)) H Q := by
  obtain ⟨a, vs, rfl, hs, p⟩ := h
  obtain ⟨y, h1, h2⟩ := paired_get p e
  exact r_ixT hs (atI_nat h1) (q y h2)
/-- rows[z][v] -/
theorem Tab.get2 {K : PySem.W.Frag} {H : Hp} {v : V} {rows : List (List Nat)} {k n z u : Nat} (T : Tab k n rows) (h : RowsT K H v rows) (hz : z < n) (hu : u < k) : ∃ r, rows[z]? = some r ∧ r[u]? = some (stp rows z u) := by
  obtain ⟨r, h1, _, _, h4⟩ := T.get hz
  exact ⟨r, h1, h4 u hu⟩
section
variable {P : Program} {w : World} {K : PySem.W.Frag} {mg : Str → Option Value} {base : Heap}
def spLed (K : PySem.W.Frag) : Sp := fun vs H Q _ => ∃ (sg : List Nat) (v : V) (n z : Nat) (l : List Nat) (rows : List (List Nat)), vs = [.str (S sg), v, .int ((z : Nat) : Int), .str (S l)] ∧ RowsT K H v rows ∧ Tab sg.length n rows ∧ z < n ∧ Pap sg l ∧ Q (.int ((run (stp rows) z (wd sg l) : Nat) : Int)) H
theorem sc__law_led : FnScope ["_law_signs", "_law_rows", "_law_z", "_law_paper", "_law_sign"] ["_law_signs", "_law_rows", "_law_z", "_law_paper"] (defScope s__law_led) := ⟨rfl, rfl, rfl, by decide +kernel, rfl, by decide +kernel, by decide +kernel⟩
theorem ok__law_led (T : Tx K mg) : C1 P w K mg base CX0 1 "_law_led" ["_law_signs", "_law_rows", "_law_z", "_law_paper"] (spLed K) := by
  obtain ⟨fd, F⟩ := d__law_led T
  refine .mk1 F (g__law_led T) (fun _ _ _ _ _ _ us hl => match us, hl with | [_, _, _, _], _ => rfl) sc__law_led (fun vs H Q E h => ?_) (fun cdv A outer s H vs Q E hr h => ?_)
  · obtain ⟨sg, v, n, z, l, rows, rfl, R, Tb, hz, pl, k⟩ := h
    rfl
  obtain ⟨sg, v, n, z, l, rows, rfl, R, Tb, hz, pl, k⟩ := h
  have hu := hu_of hr
  have hu64 := hu64_of hr
  have hu6 := hu64' hr
  refine ⟨_, (pss_cons (ps_for PassesOwn.never rfl (pi_str (pv 3)) (pg_name (i := 4) sc__law_led.nd rfl (Or.inl rfl)) (pss_one (ps_set (i := 2) sc__law_led.nd rfl (Or.inl rfl) (pe_ix (ix_tupK K (by rfl)) (pe_ix (ix_tupK K (by rfl)) (pv 1) (pv 2) (fun _ _ => rfl)) (pe_bmK K (by rfl) PySem.F.plainAttrs_str PySem.F.slot_str_index PySem.F.type_str_index mt_sIx (pv 0) (pa_cons (pv 4) pa_nil)) (fun _ _ => rfl)))))
      (pss_one (ps_ret (pv 2)))), ?_⟩
  walk_at "go"
  refine ⟨_, rfl, ?_⟩
  refine fo_S (fun i σ H' => ∃ (u : Option V), σ = [some (.str (S sg)), some v, some (.int ((run (stp rows) z (wd sg (l.take i)) : Nat) : Int)), some (.str (S l)), u] ∧ H' = H) ⟨_, rfl, rfl⟩ ?_ ?_
  · rintro i c σ' H' hc ⟨u, rfl, rfl⟩
    walk_at "go"
    have hcs := pl c (List.mem_of_getElem? hc)
    have hr := Tb.run_lt hz (wd_ltk (l := l.take i) fun x hx => pl x (List.mem_of_mem_take hx))
    obtain ⟨r, e1, e2⟩ := Tb.get2 R hr (ix_lt hcs)
    refine R.get e1 fun y hy => ?_
    walk_at "go"
    refine ⟨rfl, ?_⟩
    walk_at "go"
    refine r_sIx hcs ?_
    walk_at "go"
    refine hy.get e2 ?_
    walk_at "go"
    have e9 : l.take (i + 1) = l.take i ++ [c] := by
      rw [List.take_add_one, hc]
      rfl
    refine ⟨some (.str (S [c])), ?_, rfl⟩
    rw [e9, wd_app, show wd sg [c] = [ix c sg] from rfl, run_snoc]
  · rintro σ' H' ⟨u, rfl, rfl⟩
    walk_at "go"
    rw [List.take_length]
    exact k
/-- a raw walk -/
structure RawD (K : PySem.W.Frag) (H : Hp) (p : Addr) (k n : Nat) (rows : List (List Nat)) (gs : List Nat) : Prop where
  at_ : ∃ rv gv, H p = some (.lst [rv, gv]) ∧ RowsT K H rv rows ∧ RowT K H gv gs
  tab : Tab k n rows
  goal : GoalD n gs
def spRaw (K : PySem.W.Frag) : Sp := fun vs H Q _ => ∃ (a : Addr) (sg : List Nat), vs = [.ref a, .str (S sg)] ∧ Bag H a ∧ 1 ≤ sg.length ∧ sg.length ≤ 12 ∧ ∀ p n rows gs H', Drew a H H' → H p = none → p ≠ a → n ≤ 16 → RawD K H' p sg.length n rows gs → Q (.ref p) H'
def ChR (H0 : Hp) (a : Addr) (k n : Nat) (y : V) (H : Hp) : Prop := ∃ q ns, y = .ref q ∧ H q = some (.lst (rI ns)) ∧ ns.length = k ∧ (∀ x ∈ ns, x < n) ∧ q ≠ a ∧ H0 q = none
theorem sc__law_chain : FnScope ["_law_bag", "_law_signs", "_law_count", "_law_rows", "_law_sign", "_law_z", "_law_k", "_law_row"] ["_law_bag", "_law_signs"] (defScope s__law_chain) := ⟨rfl, rfl, rfl, by decide +kernel, rfl, by decide +kernel, by decide +kernel⟩
theorem ok__law_chain (T : Tx K mg) : C1 P w K mg base CX0 2 "_law_chain" ["_law_bag", "_law_signs"] (spRaw K) := by
  obtain ⟨fd, F⟩ := d__law_chain T
  refine .mk1 F (g__law_chain T) (fun _ _ _ _ _ _ us hl => match us, hl with | [_, _], _ => rfl) sc__law_chain (fun vs H Q E h => ?_) (fun cdv A outer s H vs Q E hr h => ?_)
  · obtain ⟨a, sg, rfl, B, h1, h12, k⟩ := h
    rfl
  obtain ⟨a, sg, rfl, B, h1, h12, k⟩ := h
  have hu := hu_of hr
  have hu64 := hu64_of hr
  have hu6 := hu64' hr
  refine ⟨_, (pss_cons (ps_set (i := 2) sc__law_chain.nd rfl (Or.inr rfl) (pe_op op_add pe_int (pe_c1 (ok__law_pick T) (hr.mono (by decide)) (by rfl) (pa_cons (pv 0) (pa_cons pe_int pa_nil)))))
      (pss_cons (ps_setLc (i := 3) (own := [("_law_z", 5)]) (g := gName 5) (by rfl) sc__law_chain.nd rfl rfl (sw_true rfl rfl rfl (by decide +kernel)) (pi_range1 (by rfl) (f_range T) (pa_cons (pv 2) pa_nil)) (blkOk_by (own := [("_law_z", 5)]) (by kernel_rfl)) (fun _ _ _ _ _ => pg_name (i := 5) sc__law_chain.nd rfl (Or.inr rfl)) (fun _ _ _ _ _ => pts_nil) (fun _ _ _ _ _ => (pe_lc (own := [("_law_sign", 4)]) (g := gName 4) (by rfl) sc__law_chain.nd (pi_str (pv 1)) (blkOk_by (own := [("_law_sign", 4)]) (by kernel_rfl)) (fun _ _ _ _ _ => pg_name (i := 4) sc__law_chain.nd rfl (Or.inl rfl)) (fun _ _ _ _ _ => pts_nil) (fun _ _ _ _ _ => (pe_op op_mod (pe_callTy call_int1 (by rfl) (f_int T) (by decide +kernel) (pa_cons (pe_op op_add (pv 5) pe_int) pa_nil)) (pv 2))))))
      (pss_cons (ps_for PassesOwn.never rfl (pi_range1 (by rfl) (f_range T) (pa_cons (pe_op op_add pe_int (pe_c1 (ok__law_pick T) (hr.mono (by decide)) (by rfl) (pa_cons (pv 0) (pa_cons pe_int pa_nil)))) pa_nil)) (pg_name (i := 6) sc__law_chain.nd rfl (Or.inl rfl)) (pss_cons (ps_set (i := 5) sc__law_chain.nd rfl (Or.inl rfl) (pe_c1 (ok__law_pick T) (hr.mono (by decide)) (by rfl) (pa_cons (pv 0) (pa_cons (pv 2) pa_nil))))
      (pss_one (ps_asg (pe_c1 (ok__law_pick T) (hr.mono (by decide)) (by rfl) (pa_cons (pv 0) (pa_cons (pv 2) pa_nil))) (pg_sub (pe_ix (ix_listK K (by rfl)) (pv 3) (pv 5) (fun _ _ => rfl)) (pe_c1 (ok__law_pick T) (hr.mono (by decide)) (by rfl) (pa_cons (pv 0) (pa_cons (pe_callB call_lenZ (by rfl) (f_len T) PySem.boot_len (pa_cons (pv 1) pa_nil)) pa_nil))) set_list)))))
      (pss_one (ps_ret (pe_lst (pa_cons (pe_callTy (call_tupleK K (by rfl)) (by rfl) (f_tuple T) (by decide +kernel) (pa_cons (pe_lc (own := [("_law_row", 7)]) (g := gName 7) (by rfl) sc__law_chain.nd (pi_listK K (by rfl) (pv 3)) (blkOk_by (own := [("_law_row", 7)]) (by kernel_rfl)) (fun _ _ _ _ _ => pg_name (i := 7) sc__law_chain.nd rfl (Or.inl rfl)) (fun _ _ _ _ _ => pts_nil) (fun _ _ _ _ _ => (pe_callTy (call_tupleK K (by rfl)) (by rfl) (f_tuple T) (by decide +kernel) (pa_cons (pv 7) pa_nil)))) pa_nil)) (pa_cons (pe_tup (pa_cons (pe_c1 (ok__law_pick T) (hr.mono (by decide)) (by rfl) (pa_cons (pv 0) (pa_cons (pv 2) pa_nil))) pa_nil)) pa_nil)))))))), ?_⟩
  walk_at "go"
  refine ⟨a, 12, rfl, B, by omega, by omega, fun r H1 hr1 d1 => ?_⟩
  walk_at "go"
  rw [show 5 + ((r : Nat) : Int) = ((5 + r : Nat) : Int) by omega]
  refine ⟨_, rfl, by omega, by omega, fun D hD => ?_⟩
  have Da := d1.2.ne hD
  have HD := d1.1.free Da hD
  refine lcb_R d1.2 (fun y H2 => (∃ q ns, y = .ref q ∧ H2 q = some (.lst (rI ns)) ∧ ns.length = sg.length ∧ (∀ x ∈ ns, x < 5 + r) ∧ q ≠ a ∧ H q = none) ∧ y ≠ .ref D) ?_ (by omega) hD ?_ ?_ ?_
  · rintro y H3 H4 b s ⟨⟨q, ns, e, hq, h1, h2, h3, h4⟩, h5⟩
    exact ⟨⟨q, ns, e, s _ _ h3 hq, h1, h2, h3, h4⟩, h5⟩
  · rintro y H3 o ⟨⟨q, ns, e, hq, h1, h2, h3, h4⟩, h5⟩ hL o'
    refine ⟨⟨q, ns, e, ?_, h1, h2, h3, h4⟩, h5⟩
    rw [upd_ne (fun z => h5 (by rw [e, z]))]
    exact hq
  · rintro i H3 hi d3 ⟨acc, hL⟩ Q3 k3
    walk_at "go"
    refine ⟨_, rfl, fun D2 hD2 => ?_⟩
    have D2a := d3.2.ne hD2
    have D2D : D2 ≠ D := fun z => by rw [z, hL] at hD2; cases hD2
    refine lcg_S (fun _ => .int (((i + 1) % (5 + r) : Nat) : Int)) (by omega) hD2 ?_ ?_
    · intro c H4 hc s4 Q4 k4
      walk_at "go"
      rw [show ((i : Nat) : Int) + 1 = ((i + 1 : Nat) : Int) by omega, ← Int.natCast_emod]
      exact k4 _ (Same.refl _)
    · intro H4 s4 hL4
      refine k3 _ _ ((Drew.refl d3.2).same s4) ⟨⟨D2, sg.map fun _ => (i + 1) % (5 + r), rfl, ?_, by simp, fun x hx => ?_, D2a, (d1.trans d3).1.free D2a hD2⟩, fun z => D2D (V.ref.inj z)⟩
      · rw [hL4]
        simp [rI]
      · obtain ⟨_, _, e⟩ := List.mem_map.mp hx
        rw [← e]
        exact Nat.mod_lt _ (by omega)
  intro ys H2 d2 hL hl hy
  walk_at "go"
  refine ⟨a, 2, rfl, d2.2, by omega, by omega, fun r2 H3 hr2 d3 => ?_⟩
  walk_at "go"
  rw [show 1 + ((r2 : Nat) : Int) = ((1 + r2 : Nat) : Int) by omega]
  refine ⟨_, rfl, by omega, by omega, ?_⟩
  refine fo_R (n := 1 + r2) (fun i σ H' => ∃ (u v : Option V), σ = [some (.ref a), some (.str (S sg)), some (.int ((5 + r : Nat) : Int)), some (.ref D), none, u, v, none] ∧ Drew a H H' ∧ H' D = some (.lst ys) ∧ ∀ y ∈ ys, y ≠ .ref D ∧ ChR H a sg.length (5 + r) y H')
    ⟨_, _, rfl, (d1.trans d2).trans d3, d3.1 _ _ Da hL, fun y hy' => ?_⟩ ?_ ?_
  · obtain ⟨⟨q, ns, e, hq, h1, h2, h3, h4⟩, h5⟩ := hy y hy'
    exact ⟨h5, q, ns, e, d3.1 _ _ h3 hq, h1, h2, h3, h4⟩
  · rintro i σ' H' hi ⟨u, v, rfl, d, hL', hy'⟩
    walk_at "go"
    refine ⟨a, 5 + r, rfl, d.2, by omega, by omega, fun z H4 hz d4 => ?_⟩
    walk_at "go"
    refine ⟨a, 5 + r, rfl, d4.2, by omega, by omega, fun x H5 hx d5 => ?_⟩
    walk_at "go"
    have hL5 := d5.1 _ _ Da (d4.1 _ _ Da hL')
    have hzl : z < ys.length := by omega
    refine r_ixL (SqL.of hL5) (atI_mem hzl) ?_
    obtain ⟨hnD, q, ns, e, hq, e1, e2, e3, e4⟩ := hy' _ (List.getElem_mem hzl)
    rw [e]
    walk_at "go"
    refine r_lenZ (by omega) ?_
    walk_at "go"
    refine ⟨a, sg.length, rfl, d5.2, by omega, by omega, fun c H6 hc d6 => ?_⟩
    have hq6 := d6.1 _ _ e3 (d5.1 _ _ e3 (d4.1 _ _ e3 hq))
    refine r_setL hq6 (by rw [rI_len, e1]; exact ixNn hc) ?_
    walk_at "go"
    have hDq : D ≠ q := fun z => hnD (by rw [e, z])
    have hL6 := d6.1 _ _ Da hL5
    refine ⟨_, _, rfl, (((d.trans d4).trans d5).trans d6).mut e3 e4, by rw [upd_ne hDq]; exact hL6, fun y hy2 => ?_⟩
    obtain ⟨g0, q', ns', f, f0, f1, f2, f3, f4⟩ := hy' y hy2
    refine ⟨g0, ?_⟩
    by_cases hqq : q' = q
    · subst hqq
      refine ⟨q', ns.set c x, f, ?_, by simp [e1], fun y hy => ?_, f3, f4⟩
      · rw [upd_same]
        simp [rI, List.map_set]
      · rcases List.mem_or_eq_of_mem_set hy with h | h
        · exact e2 y h
        · rw [h]; exact hx
    · refine ⟨q', ns', f, ?_, f1, f2, f3, f4⟩
      rw [upd_ne hqq]
      exact d6.1 _ _ f3 (d5.1 _ _ f3 (d4.1 _ _ f3 f0))
  · rintro σ' H' ⟨u, v, rfl, d, hL', hy'⟩
    walk_at "go"
    refine ⟨D, rfl, ⟨_, SqL.of hL'⟩, fun D4 hD4 => ?_⟩
    have D4D : D4 ≠ D := fun z => by rw [z, hL'] at hD4; cases hD4
    have D4a := d.2.ne hD4
    refine lcg_rel (xs := ys) (by omega) hD4 L2.walk_list (fun H s => SqL.of (s _ _ hL')) (fun x y H4 => ∃ t, RowT K H4 y t ∧ t.length = sg.length ∧ ∀ x ∈ t, x < 5 + r) ?_ ?_ ?_ ?_
    · rintro x y H4 H5 s ⟨t, g1, g2⟩
      exact ⟨t, g1.kp (same_kp s), g2⟩
    · intro m y H5 hy5 s5 Q5 k5
      obtain ⟨_, q, ns, rfl, hq, e1, e2, e3, e4⟩ := hy' y (List.mem_of_getElem? hy5)
      walk_at "go"
      refine r_tupL (SqL.of (s5 _ _ hq)) fun t ht => ?_
      exact k5 _ _ (same_new ht) ⟨ns, ⟨t, rfl, SqT.of upd_same⟩, e1, e2⟩
    · intro zs H5 s5 hL5 pz
      walk_at "go"
      refine r_tupL (SqL.of hL5) fun t ht => ?_
      obtain ⟨rows, tb, pr⟩ := rows_of_mem (K := K) (H := H5) (k := sg.length) (n := 5 + r) (ys := zs) (by omega) ((Paired.length pz).symm.trans hl) (fun z hz => let ⟨_, h⟩ := Paired.right pz z hz; h)
      walk_at "go"
      have d5 := ((Drew.refl d.2).same s5).new (o := .tup zs) d.2 ht
      refine ⟨a, 5 + r, rfl, d5.2, by omega, by omega, fun g H6 hg d6 => ?_⟩
      walk_at "go"
      refine ⟨by decide, fun p hp => ?_⟩
      walk_at "go"
      refine ⟨by decide, fun p2 hp2 => ?_⟩
      have dd := (((d.trans d5).trans d6).new (o := .tup [V.int ((g : Nat) : Int)]) B hp).new (o := .lst [.ref t, .ref p]) B hp2
      have tp : H6 t = some (.tup zs) := d6.1 _ _ (((Drew.refl d.2).same s5).2.ne ht) upd_same
      have kk : Kp H5 (upd (upd H6 p (.tup [V.int ((g : Nat) : Int)])) p2 (.lst [.ref t, .ref p])) := ((same_kp (same_new ht)).trans (d6.kp d5.2)).trans ((same_kp (same_new hp)).trans (same_kp (same_new hp2)))
      have pp2 : p2 ≠ p := fun z => by rw [z, upd_same] at hp2; cases hp2
      have hp2a : p2 ≠ a := (d6.2.upd (d6.2.ne hp)).ne hp2
      refine k p2 (5 + r) rows [g] _ dd ?_ hp2a (by omega) ⟨⟨_, _, upd_same, ⟨t, zs, rfl, SqT.of ?_, Paired.mapP pr fun _ _ z => z.kp kk⟩, ⟨p, rfl, SqT.of ?_⟩⟩, tb, by simpa using hg, by simp⟩
      · exact ((((d.trans d5).trans d6).new (o := .tup [V.int ((g : Nat) : Int)]) B hp)).1.free hp2a hp2
      · rw [upd_ne (ne_of_none (by rw [upd_ne (ne_of_none tp hp)]; exact tp) hp2), upd_ne (ne_of_none tp hp)]
        exact tp
      · rw [upd_ne pp2.symm, upd_same]
        rfl
    · rintro x y H4 o ⟨t, g1, g2⟩ hL o'
      exact ⟨t, g1.kp (kp_updL hL), g2⟩
end

end K18
end
section
set_option maxRecDepth 100000
set_option maxHeartbeats 4000000
local macro_rules | `(tactic| walk_at "go1") => `(tactic| first
  | (with_reducible refine K18.r_seq ?_) | (with_reducible refine K18.r_ifs ?_) | (with_reducible refine K18.r_ret ?_) | (with_reducible refine K18.r_asg ?_) | (with_reducible refine K18.r_drop ?_) | (with_reducible refine K18.r_next ?_)
  | (with_reducible refine K18.r_name ?_) | (with_reducible refine K18.r_var rfl ?_) | (with_reducible refine K18.r_c ?_) | (with_reducible refine K18.r_op ?_) | (with_reducible refine K18.r_cons ?_) | (with_reducible refine K18.r_nil ?_)
  | (with_reducible refine K18.r_cb ?_) | (with_reducible refine K18.r_call ?_) | (with_reducible refine K18.r_make ?_) | (with_reducible refine K18.r_B ?_) | (with_reducible refine K18.r_test ?_) | (with_reducible refine K18.r_or ?_) | (with_reducible refine K18.r_and ?_) | (with_reducible refine K18.r_not ?_)
  | (with_reducible refine K18.r_andV ?_) | (with_reducible refine K18.r_orV ?_) | (with_reducible refine K18.r_notV ?_) | (with_reducible refine K18.r_if ?_) | (with_reducible refine K18.r_aug rfl ?_) | (with_reducible refine K18.r_ip ?_)
  | (with_reducible refine K18.r_I0 ?_) | (with_reducible refine K18.r_int1 ?_) | (with_reducible refine K18.r_mod (by first | decide | omega) ?_) | (with_reducible refine K18.r_fdivN (by first | decide | omega) (by first | decide | omega) ?_) | (with_reducible refine K18.r_mulR (by first | decide | omega) (by first | decide | omega) ?_) | (with_reducible refine K18.r_mulL (by first | decide | omega) (by first | decide | omega) ?_) | (with_reducible refine K18.r_inG ?_) | (with_reducible refine K18.r_notInG ?_) | (with_reducible refine K18.r_ltS ?_) | (with_reducible refine K18.r_ex ?_) | (with_reducible refine K18.r_eqI ?_) | (with_reducible refine K18.r_neI ?_) | (with_reducible refine K18.r_eqB ?_) | (with_reducible refine K18.r_neB ?_) | (with_reducible refine K18.r_isN ?_)
  | (with_reducible refine K18.r_tup ?_) | (with_reducible refine K18.r_lst ?_) | (with_reducible refine K18.r_yes ?_) | (with_reducible refine K18.r_gsub ?_) | (with_reducible refine K18.r_dget ?_) | (with_reducible refine K18.r_sl ?_) | (with_reducible refine K18.r_part ?_) | (with_reducible refine K18.r_nopart ?_)
  | (with_reducible refine K18.r_chain ?_) | (with_reducible refine K18.r_bm ?_) | (with_reducible refine K18.iteT ?_) | (with_reducible refine K18.iteF ?_) | (with_reducible refine K18.iteNT ?_) | (with_reducible refine K18.iteNF ?_)
  | (with_reducible refine K18.r_for ?_) | (with_reducible refine K18.r_while ?_) | (with_reducible refine K18.r_lc ?_) | (with_reducible refine K18.r_iR1 ?_) | (with_reducible refine K18.r_iR2 ?_) | (with_reducible refine K18.r_iL ?_) | (with_reducible refine K18.r_iT ?_) | (with_reducible refine K18.r_iS ?_)
  | dsimp only [L2.start, List.map, List.replicate, List.length, List.cons_append, List.nil_append, List.append_nil, Nat.reduceAdd, Nat.reduceSub, List.set])
local macro_rules | `(tactic| walk_at "go") => `(tactic| repeat walk_at "go1")
namespace K18
open PySem PySem.Spec PyProof.Rows L2
section
variable {P : Program} {w : World} {K : PySem.W.Frag} {mg : Str → Option Value} {base : Heap}
theorem kp_app {H H' : Hp} (e : Same H H') : Kp H H' := same_kp e
def spSumRows (K : PySem.W.Frag) : Sp := fun vs H Q _ => ∃ (sg : List Nat) (p q : Addr) (m g : Nat) (ws : List Nat), vs = [.str (S sg), .ref p] ∧ H p = some (.tup [.str "sum", .int ((m : Nat) : Int), .ref q, .int ((g : Nat) : Int)]) ∧ H q = some (.tup (rI ws)) ∧ SumD m ws g ∧ sg.length ≤ 12 ∧
  ∀ p' n rows gs H', Same H H' → H p' = none → n ≤ 16 → RawD K H' p' sg.length n rows gs → Q (.ref p') H'
/-- a list of row tuples under way -/
def RowsL (K : PySem.W.Frag) (k n : Nat) (H : Hp) (ys : List V) : Prop := ∀ y ∈ ys, ∃ r, RowT K H y r ∧ r.length = k ∧ ∀ x ∈ r, x < n
theorem RowsL.kp {K : PySem.W.Frag} {k n : Nat} {H H' : Hp} {ys : List V} (h : RowsL K k n H ys) (e : Kp H H') : RowsL K k n H' ys := fun y hy => let ⟨r, h1, h2⟩ := h y hy; ⟨r, h1.kp e, h2⟩
theorem sum_goals {m L g : Nat} (hg : g < m) : GoalD (L * m) ((List.range L).map fun p => p * m + g) where
  lt := fun x hx => by
    obtain ⟨p, hp, e⟩ := List.mem_map.mp hx
    have hp := List.mem_range.mp hp
    have : (p + 1) * m ≤ L * m := Nat.mul_le_mul_right _ hp
    rw [Nat.succ_mul] at this
    omega
  asc := by
    rw [List.pairwise_map]
    refine List.Pairwise.imp (fun {a b} h => ?_) List.pairwise_lt_range
    have : (a + 1) * m ≤ b * m := Nat.mul_le_mul_right _ h
    rw [Nat.succ_mul] at this
    omega
theorem sc__law_sum_rows : FnScope ["_law_signs", "_law_rule", "_law_size", "_law_rows", "_law_place", "_law_after", "_law_rest", "_law_v"] ["_law_signs", "_law_rule"] (defScope s__law_sum_rows) := ⟨rfl, rfl, rfl, by decide +kernel, rfl, by decide +kernel, by decide +kernel⟩
theorem ok__law_sum_rows (T : Tx K mg) : C1 P w K mg base CX0 1 "_law_sum_rows" ["_law_signs", "_law_rule"] (spSumRows K) := by
  obtain ⟨fd, F⟩ := d__law_sum_rows T
  refine .mk1 F (g__law_sum_rows T) (fun _ _ _ _ _ _ us hl => match us, hl with | [_, _], _ => rfl) sc__law_sum_rows (fun vs H Q E h => ?_) (fun cdv A outer s H vs Q E hr h => ?_)
  · obtain ⟨sg, p, q, m, g, ws, rfl, hp, hq, D, h12, k⟩ := h
    rfl
  obtain ⟨sg, p, q, m, g, ws, rfl, hp, hq, D, h12, k⟩ := h
  have hu := hu_of hr
  have hu64 := hu64_of hr
  have hu6 := hu64' hr
  refine ⟨_, (pss_cons (ps_set (i := 2) sc__law_sum_rows.nd rfl (Or.inr rfl) (pe_ix (ix_tupK K (by rfl)) (pv 1) pe_int (fun _ _ => rfl)))
      (pss_cons (ps_set (i := 3) sc__law_sum_rows.nd rfl (Or.inl rfl) (pe_lst pa_nil))
      (pss_cons (ps_for PassesOwn.never rfl (pi_range1 (by rfl) (f_range T) (pa_cons (pe_callB (call_lenK K (by rfl)) (by rfl) (f_len T) PySem.boot_len (pa_cons (pe_ix (ix_tupK K (by rfl)) (pv 1) pe_int (fun _ _ => rfl)) pa_nil)) pa_nil)) (pg_name (i := 4) sc__law_sum_rows.nd rfl (Or.inr rfl)) (pss_cons (ps_set (i := 5) sc__law_sum_rows.nd rfl (Or.inr rfl) (pe_op op_mul (pe_op op_mod (pe_callTy call_int1 (by rfl) (f_int T) (by decide +kernel) (pa_cons (pe_op op_add (pv 4) pe_int) pa_nil)) (pe_callB (call_lenK K (by rfl)) (by rfl) (f_len T) PySem.boot_len (pa_cons (pe_ix (ix_tupK K (by rfl)) (pv 1) pe_int (fun _ _ => rfl)) pa_nil))) (pv 2)))
      (pss_one (ps_for PassesOwn.never rfl (pi_range1 (by rfl) (f_range T) (pa_cons (pv 2) pa_nil)) (pg_name (i := 6) sc__law_sum_rows.nd rfl (Or.inr rfl)) (pss_one (ps_expr (pe_bmK K (by rfl) PySem.F.plainAttrs_list PySem.F.slot_list_append PySem.F.type_list_append mt_append (pv 3) (pa_cons (pe_callTy (call_tupleK K (by rfl)) (by rfl) (f_tuple T) (by decide +kernel) (pa_cons (pe_lc (own := [("_law_v", 7)]) (g := gName 7) (by rfl) sc__law_sum_rows.nd (pi_range1 (by rfl) (f_range T) (pa_cons (pe_callB call_lenZ (by rfl) (f_len T) PySem.boot_len (pa_cons (pv 0) pa_nil)) pa_nil)) (blkOk_by (own := [("_law_v", 7)]) (by kernel_rfl)) (fun _ _ _ _ _ => pg_name (i := 7) sc__law_sum_rows.nd rfl (Or.inl rfl)) (fun _ _ _ _ _ => pts_nil) (fun _ _ _ _ _ => (pe_op op_add (pv 5) (pe_op op_mod (pe_callTy call_int1 (by rfl) (f_int T) (by decide +kernel) (pa_cons (pe_op op_add (pv 6) (pe_op op_mul (pe_ix (ix_tupK K (by rfl)) (pe_ix (ix_tupK K (by rfl)) (pv 1) pe_int (fun _ _ => rfl)) (pv 4) (fun _ _ => rfl)) (pv 7))) pa_nil)) (pv 2))))) pa_nil)) pa_nil))))))))
      (pss_one (ps_ret (pe_lst (pa_cons (pe_callTy (call_tupleK K (by rfl)) (by rfl) (f_tuple T) (by decide +kernel) (pa_cons (pv 3) pa_nil)) (pa_cons (pe_callTy (call_tupleK K (by rfl)) (by rfl) (f_tuple T) (by decide +kernel) (pa_cons (pe_lc (own := [("_law_place", 4)]) (g := gName 4) (by rfl) sc__law_sum_rows.nd (pi_range1 (by rfl) (f_range T) (pa_cons (pe_callB (call_lenK K (by rfl)) (by rfl) (f_len T) PySem.boot_len (pa_cons (pe_ix (ix_tupK K (by rfl)) (pv 1) pe_int (fun _ _ => rfl)) pa_nil)) pa_nil)) (blkOk_by (own := [("_law_place", 4)]) (by kernel_rfl)) (fun _ _ _ _ _ => pg_name (i := 4) sc__law_sum_rows.nd rfl (Or.inl rfl)) (fun _ _ _ _ _ => pts_nil) (fun _ _ _ _ _ => (pe_op op_add (pe_op op_mul (pv 4) (pv 2)) (pe_ix (ix_tupK K (by rfl)) (pv 1) pe_int (fun _ _ => rfl))))) pa_nil)) pa_nil)))))))), ?_⟩
  walk_at "go"
  obtain ⟨m2, m5, w1, w3, wl, gl⟩ := D
  have hn16 : ws.length * m ≤ 15 := Nat.mul_le_mul w3 m5
  refine r_ixT (SqT.of hp) rfl ?_
  walk_at "go"
  refine ⟨Nat.zero_le _, fun t ht => ?_⟩
  have tp : t ≠ p := fun z => by rw [z, hp] at ht; cases ht
  have tq : t ≠ q := fun z => by rw [z, hq] at ht; cases ht
  walk_at "go"
  refine r_ixT (SqT.of (by rw [upd_ne tp.symm]; exact hp)) rfl ?_
  walk_at "go"
  refine r_lenQT (SqT.of (xs := rI ws) (by rw [upd_ne tq.symm]; exact hq)) ?_
  rw [rI_len]
  refine ⟨_, rfl, by omega, by omega, ?_⟩
  refine fo_R (n := ws.length) (fun i σ H' => ∃ (u1 u2 u3 : Option V) (ys : List V), σ = [some (.str (S sg)), some (.ref p), some (.int ((m : Nat) : Int)), some (.ref t), u1, u2, u3, none] ∧ Same H H' ∧ H' t = some (.lst ys) ∧ ys.length = i * m ∧ i ≤ ws.length ∧ RowsL K sg.length (ws.length * m) H' ys)
    ⟨_, _, _, [], rfl, same_new ht, upd_same, by simp, by omega, fun _ h => nomatch h⟩ ?_ ?_
  · rintro i σ' H' hi ⟨u1, u2, u3, ys, rfl, s, h1, e1, _, R⟩
    walk_at "go"
    refine r_ixT (SqT.of (s _ _ hp)) rfl ?_
    walk_at "go"
    refine r_lenQT (SqT.of (s _ _ hq)) ?_
    rw [rI_len]
    walk_at "go"
    rw [show ((i : Nat) : Int) + 1 = ((i + 1 : Nat) : Int) by omega, ← Int.natCast_emod, ← Int.natCast_mul]
    have haft : (i + 1) % ws.length * m + m ≤ ws.length * m := by
      have : (i + 1) % ws.length < ws.length := Nat.mod_lt _ (by omega)
      have : ((i + 1) % ws.length + 1) * m ≤ ws.length * m := Nat.mul_le_mul_right _ this
      rw [Nat.succ_mul] at this
      exact this
    have him : i * m + m ≤ ws.length * m := by
      have : (i + 1) * m ≤ ws.length * m := Nat.mul_le_mul_right _ hi
      rw [Nat.succ_mul] at this
      exact this
    generalize haf : (i + 1) % ws.length * m = aft at haft
    refine ⟨_, rfl, by omega, by omega, ?_⟩
    refine fo_R (n := m) (fun j σ H' => ∃ (u3 : Option V) (ys : List V), σ = [some (.str (S sg)), some (.ref p), some (.int ((m : Nat) : Int)), some (.ref t), some (.int ((i : Nat) : Int)), some (.int ((aft : Nat) : Int)), u3, none] ∧ Same H H' ∧ H' t = some (.lst ys) ∧ ys.length = i * m + j ∧ RowsL K sg.length (ws.length * m) H' ys)
      ⟨_, ys, rfl, s, h1, e1, R⟩ ?_ ?_
    · rintro j σ2 H2 hj ⟨u3', ys2, rfl, s2, h2, e2, R2⟩
      walk_at "go"
      refine ⟨r_tyL h2, ?_⟩
      walk_at "go"
      refine r_lenZ (by omega) ?_
      walk_at "go"
      refine ⟨_, rfl, by omega, by omega, fun D4 hD4 => ?_⟩
      have hwi : ws[i]? = some ws[i] := List.getElem?_eq_some_iff.mpr ⟨hi, rfl⟩
      have hw5 : ws[i] < 5 := Nat.lt_of_lt_of_le (wl _ (List.getElem_mem hi)) m5
      refine lcg_R (fun v => .int ((aft + (j + ws[i] * v) % m : Nat) : Int)) (by omega) hD4 ?_ ?_
      · intro v H3 hv s3 Q3 k3
        walk_at "go"
        refine r_ixT (SqT.of (s3 _ _ (s2 _ _ hp))) rfl ?_
        walk_at "go"
        refine r_ixT (SqT.of (s3 _ _ (s2 _ _ hq))) (atI_nat (rI_get hwi)) ?_
        walk_at "go"
        rw [← Int.natCast_mul, ← Int.natCast_add, ← Int.natCast_emod, ← Int.natCast_add]
        exact k3 _ (Same.refl _)
      · intro H3 s3 hL3
        walk_at "go"
        refine r_tupL (SqL.of hL3) fun r hr => ?_
        walk_at "go"
        have tr : t ≠ r := ne_of_none (s3 _ _ h2) hr
        refine r_app' (by rw [upd_ne tr]; exact s3 _ _ h2) (by omega) ?_
        walk_at "go"
        have ss : Same H (upd H3 r (.tup ((List.range sg.length).map fun v => V.int ((aft + (j + ws[i] * v) % m : Nat) : Int)))) := (s2.trans s3).trans (same_new hr)
        refine ⟨_, _, rfl, same_mut ss ht, upd_same, by simp [e2]; omega, ?_⟩
        intro y hy
        rcases List.mem_append.mp hy with hy | hy
        · obtain ⟨r', g1, g2⟩ := R2 y hy
          exact ⟨r', g1.kp (((same_kp s3).trans (same_kp (same_new hr))).trans (kp_updL (by rw [upd_ne tr]; exact s3 _ _ h2))), g2⟩
        · rw [List.mem_singleton.mp hy]
          refine ⟨(List.range sg.length).map fun v => aft + (j + ws[i] * v) % m, ⟨r, rfl, SqT.of ?_⟩, by simp, fun x hx => ?_⟩
          · rw [upd_ne tr.symm, upd_same]
            simp [rI]
          · obtain ⟨v, _, e⟩ := List.mem_map.mp hx
            have := Nat.mod_lt (j + ws[i] * v) (show 0 < m by omega)
            omega
    · rintro σ2 H2 ⟨u3', ys2, rfl, s2, h2, e2, R2⟩
      walk_at "go"
      exact ⟨_, _, _, ys2, rfl, s2, h2, by rw [e2, Nat.succ_mul], by omega, R2⟩
  · rintro σ' H' ⟨u1, u2, u3, ys, rfl, s, h1, e1, _, R⟩
    walk_at "go"
    refine r_tupL (SqL.of h1) fun r hr => ?_
    walk_at "go"
    have sr : Same H' (upd H' r (.tup ys)) := same_new hr
    refine r_ixT (SqT.of (sr _ _ (s _ _ hp))) rfl ?_
    walk_at "go"
    refine r_lenQT (SqT.of (sr _ _ (s _ _ hq))) ?_
    rw [rI_len]
    refine ⟨_, rfl, by omega, by omega, fun D4 hD4 => ?_⟩
    refine lcg_R (fun v => .int ((v * m + g : Nat) : Int)) (by omega) hD4 ?_ ?_
    · intro v H3 hv s3 Q3 k3
      walk_at "go"
      refine r_ixT (SqT.of (s3 _ _ (sr _ _ (s _ _ hp)))) rfl ?_
      walk_at "go"
      rw [← Int.natCast_mul, ← Int.natCast_add]
      exact k3 _ (Same.refl _)
    · intro H3 s3 hL3
      walk_at "go"
      refine r_tupL (SqL.of hL3) fun r2 hr2 => ?_
      walk_at "go"
      refine ⟨by decide, fun p5 hp5 => ?_⟩
      walk_at "go"
      have mp : 0 < ws.length * m := Nat.mul_pos w1 (by omega)
      obtain ⟨rows, tb, pr⟩ := rows_of_mem (K := K) mp e1 R
      have s5 : Same H' (upd (upd H3 r2 (.tup ((List.range ws.length).map fun v => V.int ((v * m + g : Nat) : Int)))) p5 (.lst [.ref r, .ref r2])) := (((sr.trans s3).trans (same_new hr2)).trans (same_new hp5))
      have hr3 : H3 r = some (.tup ys) := s3 _ _ upd_same
      refine k p5 (ws.length * m) rows _ _ (s.trans s5) ((((s.trans sr).trans s3).trans (same_new hr2)).free hp5) (by omega) ⟨⟨_, _, upd_same, ⟨r, ys, rfl, SqT.of ((same_new hr2).trans (same_new hp5) _ _ hr3), Paired.mapP pr fun _ _ z => z.kp (same_kp s5)⟩, ⟨r2, rfl, SqT.of ?_⟩⟩, tb, sum_goals gl⟩
      rw [upd_ne (fun z => by rw [z, upd_same] at hp5; cases hp5), upd_same]
      simp [rI]
end

end K18
end
section
set_option maxRecDepth 100000
set_option maxHeartbeats 4000000
local macro_rules | `(tactic| walk_at "go1") => `(tactic| first
  | (with_reducible refine K18.r_seq ?_) | (with_reducible refine K18.r_ifs ?_) | (with_reducible refine K18.r_ret ?_) | (with_reducible refine K18.r_asg ?_) | (with_reducible refine K18.r_drop ?_) | (with_reducible refine K18.r_next ?_)
  | (with_reducible refine K18.r_name ?_) | (with_reducible refine K18.r_var rfl ?_) | (with_reducible refine K18.r_c ?_) | (with_reducible refine K18.r_op ?_) | (with_reducible refine K18.r_cons ?_) | (with_reducible refine K18.r_nil ?_)
  | (with_reducible refine K18.r_cb ?_) | (with_reducible refine K18.r_call ?_) | (with_reducible refine K18.r_make ?_) | (with_reducible refine K18.r_B ?_) | (with_reducible refine K18.r_test ?_) | (with_reducible refine K18.r_or ?_) | (with_reducible refine K18.r_and ?_) | (with_reducible refine K18.r_not ?_)
  | (with_reducible refine K18.r_andV ?_) | (with_reducible refine K18.r_orV ?_) | (with_reducible refine K18.r_notV ?_) | (with_reducible refine K18.r_if ?_) | (with_reducible refine K18.r_aug rfl ?_) | (with_reducible refine K18.r_ip ?_)
  | (with_reducible refine K18.r_I0 ?_) | (with_reducible refine K18.r_int1 ?_) | (with_reducible refine K18.r_mod (by first | decide | omega) ?_) | (with_reducible refine K18.r_fdivN (by first | decide | omega) (by first | decide | omega) ?_) | (with_reducible refine K18.r_mulR (by first | decide | omega) (by first | decide | omega) ?_) | (with_reducible refine K18.r_mulL (by first | decide | omega) (by first | decide | omega) ?_) | (with_reducible refine K18.r_inG ?_) | (with_reducible refine K18.r_notInG ?_) | (with_reducible refine K18.r_ltS ?_) | (with_reducible refine K18.r_ex ?_) | (with_reducible refine K18.r_eqI ?_) | (with_reducible refine K18.r_neI ?_) | (with_reducible refine K18.r_eqB ?_) | (with_reducible refine K18.r_neB ?_) | (with_reducible refine K18.r_isN ?_)
  | (with_reducible refine K18.r_tup ?_) | (with_reducible refine K18.r_lst ?_) | (with_reducible refine K18.r_yes ?_) | (with_reducible refine K18.r_gsub ?_) | (with_reducible refine K18.r_dget ?_) | (with_reducible refine K18.r_sl ?_) | (with_reducible refine K18.r_part ?_) | (with_reducible refine K18.r_nopart ?_)
  | (with_reducible refine K18.r_chain ?_) | (with_reducible refine K18.r_bm ?_) | (with_reducible refine K18.iteT ?_) | (with_reducible refine K18.iteF ?_) | (with_reducible refine K18.iteNT ?_) | (with_reducible refine K18.iteNF ?_)
  | (with_reducible refine K18.r_for ?_) | (with_reducible refine K18.r_while ?_) | (with_reducible refine K18.r_lc ?_) | (with_reducible refine K18.r_iR1 ?_) | (with_reducible refine K18.r_iR2 ?_) | (with_reducible refine K18.r_iL ?_) | (with_reducible refine K18.r_iT ?_) | (with_reducible refine K18.r_iS ?_)
  | dsimp only [L2.start, List.map, List.replicate, List.length, List.cons_append, List.nil_append, List.append_nil, Nat.reduceAdd, Nat.reduceSub, List.set])
local macro_rules | `(tactic| walk_at "go") => `(tactic| repeat walk_at "go1")
namespace K18
open PySem PySem.Spec PyProof.Rows L2
section
variable {P : Program} {w : World} {K : PySem.W.Frag} {mg : Str → Option Value} {base : Heap}
theorem paired_rI {n : Nat} : ∀ {r : List Nat} {ys : List V}, Paired (fun x y => ∃ u b : Nat, x = V.int ((u : Nat) : Int) ∧ b < 2 ∧ y = V.int ((u + n * b : Nat) : Int)) (rI r) ys → ∃ l, ys = rI l ∧ Paired (fun u x => ∃ b, b < 2 ∧ x = u + n * b) r l
  | [], _, p => by
    cases p
    exact ⟨[], rfl, .nil⟩
  | u :: r, _, p => by
    cases p with
    | cons h t =>
      obtain ⟨u', b, e1, hb, e2⟩ := h
      obtain ⟨l, e3, pl⟩ := paired_rI (r := r) t
      have e1 : u = u' := by
        have := V.int.inj e1
        omega
      subst e1
      exact ⟨(u + n * b) :: l, by rw [e2, e3]; rfl, .cons ⟨b, hb, rfl⟩ pl⟩
def spDressed (K : PySem.W.Frag) : Sp := fun vs H Q _ => ∃ (a p : Addr) (k n : Nat) (rows : List (List Nat)) (gs : List Nat), vs = [.ref a, .ref p] ∧ Bag H a ∧ p ≠ a ∧ RawD K H p k n rows gs ∧ n ≤ 16 ∧ k ≤ 12 ∧
  ∀ p' rows' gs' H', Drew a H H' → H p' = none → RawD K H' p' k (2 * n) rows' gs' → (∀ w, Ltk k w → (run (stp rows') 0 w ∈ gs' ↔ run (stp rows) 0 w ∈ gs)) → Q (.ref p') H'
/-- the dressed rows under way -/
structure DrU (k n : Nat) (rows : List (List Nat)) (rs : List (List Nat)) : Prop where
  row : ∀ (z : Nat) (l : List Nat), rs[z]? = some l → l.length = k ∧ ∀ u x, l[u]? = some x → x < 2 * n ∧ x % n = stp rows (z % n) u
theorem DrU.run {k n : Nat} {rows rs : List (List Nat)} (D : DrU k n rows rs) (Tb : Tab k n rows) (hl : rs.length = 2 * n) : ∀ {w : Wd} {z : Nat}, z < 2 * n → Ltk k w → run (stp rs) z w < 2 * n ∧ run (stp rs) z w % n = run (stp rows) (z % n) w
  | [], z, hz, _ => ⟨hz, rfl⟩
  | u :: w, z, hz, hw => by
    have hu := hw u (by simp)
    have hz' : z < rs.length := by omega
    obtain ⟨h1, h2⟩ := D.row z rs[z] (List.getElem?_eq_some_iff.mpr ⟨hz', rfl⟩)
    have hu' : u < rs[z].length := by omega
    obtain ⟨h3, h4⟩ := h2 u _ (List.getElem?_eq_some_iff.mpr ⟨hu', rfl⟩)
    have e : stp rs z u = rs[z][u] := by
      unfold stp
      simp [List.getD, hz', hu']
    rw [run_cons, run_cons, e]
    obtain ⟨g1, g2⟩ := D.run Tb hl (w := w) h3 fun c hc => hw c (by simp [hc])
    exact ⟨g1, by rw [g2, h4]⟩
theorem DrU.tab {k n : Nat} {rows rs : List (List Nat)} (D : DrU k n rows rs) (hn : 0 < n) (hl : rs.length = 2 * n) : Tab k (2 * n) rs := ⟨hl, by omega, fun i r hr => ⟨(D.row i r hr).1, fun x hx => by
  obtain ⟨u, hu, e⟩ := List.mem_iff_getElem.mp hx
  exact ((D.row i r hr).2 u x (List.getElem?_eq_some_iff.mpr ⟨hu, e⟩)).1⟩⟩
theorem dr_goal {n : Nat} {gs : List Nat} (G : GoalD n gs) : GoalD (2 * n) (gs ++ gs.map (· + n)) where
  lt := fun x hx => by
    rcases List.mem_append.mp hx with h | h
    · have := G.lt x h
      omega
    · obtain ⟨g, hg, e⟩ := List.mem_map.mp h
      have := G.lt g hg
      omega
  asc := by
    refine List.pairwise_append.mpr ⟨G.asc, ?_, fun x hx y hy => ?_⟩
    · rw [List.pairwise_map]
      exact List.Pairwise.imp (fun {a b} h => by omega) G.asc
    · obtain ⟨g, hg, e⟩ := List.mem_map.mp hy
      have := G.lt x hx
      omega
theorem dr_mem {n : Nat} {gs : List Nat} (G : GoalD n gs) {x : Nat} (hx : x < 2 * n) : x ∈ gs ++ gs.map (· + n) ↔ x % n ∈ gs := by
  rw [List.mem_append, List.mem_map]
  rcases Nat.lt_or_ge x n with h | h
  · rw [Nat.mod_eq_of_lt h]
    constructor
    · rintro (h1 | ⟨g, _, e⟩)
      · exact h1
      · omega
    · exact .inl
  · have e : x % n = x - n := by
      rw [Nat.mod_eq_sub_mod h, Nat.mod_eq_of_lt (by omega)]
    rw [e]
    constructor
    · rintro (h1 | ⟨g, hg, e⟩)
      · have := G.lt x h1
        omega
      · have : x - n = g := by omega
        rw [this]
        exact hg
    · exact fun h1 => .inr ⟨x - n, h1, by omega⟩
theorem sc__law_dressed : FnScope ["_law_bag", "_law_walk", "_law_count", "_law_rows", "_law_z", "_law_onto"] ["_law_bag", "_law_walk"] (defScope s__law_dressed) := ⟨rfl, rfl, rfl, by decide +kernel, rfl, by decide +kernel, by decide +kernel⟩
theorem ok__law_dressed (T : Tx K mg) : C1 P w K mg base CX0 2 "_law_dressed" ["_law_bag", "_law_walk"] (spDressed K) := by
  obtain ⟨fd, F⟩ := d__law_dressed T
  refine .mk1 F (g__law_dressed T) (fun _ _ _ _ _ _ us hl => match us, hl with | [_, _], _ => rfl) sc__law_dressed (fun vs H Q E h => ?_) (fun cdv A outer s H vs Q E hr h => ?_)
  · obtain ⟨a, p, kk, n, rows, gs, rfl, B, hpa, W, hn16, hk12, k⟩ := h
    rfl
  obtain ⟨a, p, kk, n, rows, gs, rfl, B, hpa, W, hn16, hk12, k⟩ := h
  have hu := hu_of hr
  have hu64 := hu64_of hr
  have hu6 := hu64' hr
  refine ⟨_, (pss_cons (ps_set (i := 2) sc__law_dressed.nd rfl (Or.inr rfl) (pe_callB (call_lenK K (by rfl)) (by rfl) (f_len T) PySem.boot_len (pa_cons (pe_ix (ix_listK K (by rfl)) (pv 1) pe_int (fun _ _ => rfl)) pa_nil)))
      (pss_cons (ps_set (i := 3) sc__law_dressed.nd rfl (Or.inl rfl) (pe_lst pa_nil))
      (pss_cons (ps_for PassesOwn.never rfl (pi_range1 (by rfl) (f_range T) (pa_cons (pe_op op_mul pe_int (pv 2)) pa_nil)) (pg_name (i := 4) sc__law_dressed.nd rfl (Or.inl rfl)) (pss_one (ps_expr (pe_bmK K (by rfl) PySem.F.plainAttrs_list PySem.F.slot_list_append PySem.F.type_list_append mt_append (pv 3) (pa_cons (pe_callTy (call_tupleK K (by rfl)) (by rfl) (f_tuple T) (by decide +kernel) (pa_cons (pe_lc (own := [("_law_onto", 5)]) (g := gName 5) (by rfl) sc__law_dressed.nd (pi_tupK K (by rfl) (pe_ix (ix_tupK K (by rfl)) (pe_ix (ix_listK K (by rfl)) (pv 1) pe_int (fun _ _ => rfl)) (pe_op op_mod (pe_callTy call_int1 (by rfl) (f_int T) (by decide +kernel) (pa_cons (pv 4) pa_nil)) (pv 2)) (fun _ _ => rfl))) (blkOk_by (own := [("_law_onto", 5)]) (by kernel_rfl)) (fun _ _ _ _ _ => pg_name (i := 5) sc__law_dressed.nd rfl (Or.inl rfl)) (fun _ _ _ _ _ => pts_nil) (fun _ _ _ _ _ => (pe_op op_add (pv 5) (pe_op op_mul (pv 2) (pe_c1 (ok__law_pick T) (hr.mono (by decide)) (by rfl) (pa_cons (pv 0) (pa_cons pe_int pa_nil))))))) pa_nil)) pa_nil)))))
      (pss_one (ps_ret (pe_lst (pa_cons (pe_callTy (call_tupleK K (by rfl)) (by rfl) (f_tuple T) (by decide +kernel) (pa_cons (pv 3) pa_nil)) (pa_cons (pe_callTy (call_tupleK K (by rfl)) (by rfl) (f_tuple T) (by decide +kernel) (pa_cons (pe_op op_cat (pe_callTy (call_listK K (by rfl)) (by rfl) (f_list T) (by decide +kernel) (pa_cons (pe_ix (ix_listK K (by rfl)) (pv 1) pe_int (fun _ _ => rfl)) pa_nil)) (pe_lc (own := [("_law_z", 4)]) (g := gName 4) (by rfl) sc__law_dressed.nd (pi_tupK K (by rfl) (pe_ix (ix_listK K (by rfl)) (pv 1) pe_int (fun _ _ => rfl))) (blkOk_by (own := [("_law_z", 4)]) (by kernel_rfl)) (fun _ _ _ _ _ => pg_name (i := 4) sc__law_dressed.nd rfl (Or.inl rfl)) (fun _ _ _ _ _ => pts_nil) (fun _ _ _ _ _ => (pe_op op_add (pv 4) (pv 2))))) pa_nil)) pa_nil)))))))), ?_⟩
  walk_at "go"
  obtain ⟨⟨rv, gv, hp, Rr, Rg⟩, Tb, G⟩ := W
  have hn0 := Tb.pos
  refine r_ixL (SqL.of hp) rfl ?_
  walk_at "go"
  obtain ⟨ra, rvs, e0, hra, prs⟩ := id Rr
  subst e0
  refine r_lenQT hra ?_
  have lrv : rvs.length = n := (Paired.length prs).symm.trans Tb.len
  rw [lrv]
  walk_at "go"
  refine ⟨Nat.zero_le _, fun t ht => ?_⟩
  have tp : t ≠ p := fun z => by rw [z, hp] at ht; cases ht
  have ta := B.ne ht
  walk_at "go"
  rw [show 2 * ((n : Nat) : Int) = ((2 * n : Nat) : Int) by omega]
  refine ⟨_, rfl, by omega, by omega, ?_⟩
  refine fo_R (n := 2 * n) (fun i σ H' => ∃ (u1 : Option V) (ys : List V) (rs : List (List Nat)), σ = [some (.ref a), some (.ref p), some (.int ((n : Nat) : Int)), some (.ref t), u1, none] ∧ Drew a H H' ∧ H' t = some (.lst ys) ∧ Paired (fun r v => RowT K H' v r) rs ys ∧ rs.length = i ∧ DrU kk n rows rs)
    ⟨_, [], [], rfl, (Drew.refl B).new B ht, upd_same, .nil, rfl, ⟨fun z l h => by simp at h⟩⟩ ?_ ?_
  · rintro i σ' H' hi ⟨u1, ys, rs, rfl, d, h1, pr, e1, DU⟩
    walk_at "go"
    refine ⟨r_tyL h1, ?_⟩
    walk_at "go"
    refine r_ixL (SqL.of (d.1 _ _ hpa hp)) rfl ?_
    walk_at "go"
    rw [← Int.natCast_emod]
    have him : i % n < n := Nat.mod_lt _ hn0
    obtain ⟨r, hr1, hr2, hr3, hr4⟩ := Tb.get him
    have Rr' : RowsT K H' (.ref ra) rows := Rr.kp (d.kp B)
    refine Rr'.get hr1 fun y hy => ?_
    obtain ⟨q, rfl, hq⟩ := hy
    walk_at "go"
    refine ⟨q, rfl, ⟨_, hq⟩, fun D hD => ?_⟩
    have Da := d.2.ne hD
    have Dt : t ≠ D := ne_of_none h1 hD
    refine lc_bag (a := a) (xs := rI r) (fun H => Bag H a) (fun H o ne b => b.upd ne) (by rw [rI_len, hr2]; omega) hD Da d.2 L2.walk_tup (fun H3 s => sqT_kp (s.bkp d.2) hq) (fun x y _ => ∃ u b : Nat, x = .int ((u : Nat) : Int) ∧ b < 2 ∧ y = .int ((u + n * b : Nat) : Int)) (fun _ _ _ _ _ _ h => h) ?_ ?_ (fun _ _ _ _ h _ _ => h)
    · intro m x H3 hx s3 b3 Q3 k3
      obtain ⟨u, hu, rfl⟩ := nat_of_mem (List.mem_of_getElem? hx)
      walk_at "go"
      refine ⟨a, 2, rfl, b3, by omega, by omega, fun b H4 hb d4 => ?_⟩
      walk_at "go"
      rw [← Int.natCast_mul, ← Int.natCast_add]
      exact k3 _ _ d4.1 d4.2 ⟨u, b, rfl, hb, rfl⟩
    · intro zs H3 s3 b3 hL3 pz
      obtain ⟨l, rfl, pl⟩ := paired_rI pz
      walk_at "go"
      refine r_tupL (SqL.of hL3) fun v hv => ?_
      walk_at "go"
      have d3 : Drew a H' H3 := ⟨s3, b3⟩
      have d4 := d3.new (o := .tup (rI l)) d.2 hv
      have h4 := d4.1 _ _ ta h1
      have ll : rs.length = ys.length := Paired.length pr
      refine r_app' h4 (by omega) ?_
      walk_at "go"
      have tn : H t = none := ht
      have vt : v ≠ t := fun z => by rw [z, s3 _ _ ta h1] at hv; cases hv
      refine ⟨_, _, rs ++ [l], rfl, (d.trans d4).mut ta ht, upd_same, Paired.snoc (Paired.mapP pr fun _ _ z => z.kp ((d4.kp d.2).trans (kp_updL h4))) ⟨v, rfl, SqT.of ?_⟩, by simp [e1], ⟨fun z l' hz => ?_⟩⟩
      · rw [upd_ne vt, upd_same]
      · rcases Nat.lt_or_ge z rs.length with g | g
        · rw [List.getElem?_append_left g] at hz
          exact DU.row z l' hz
        · rw [List.getElem?_append_right g] at hz
          have hz0 : z - rs.length = 0 := by
            have := (List.getElem?_eq_some_iff.mp hz).1
            simp at this
            omega
          rw [hz0] at hz
          have hl : l' = l := by simpa using hz.symm
          subst hl
          have hzi : z = i := by omega
          subst hzi
          refine ⟨(Paired.length pl).symm.trans hr2, fun u x hx => ?_⟩
          obtain ⟨u0, hu0, b, hb, e⟩ := paired_get' pl hx
          have huk : u < kk := by
            rw [← hr2]
            exact (List.getElem?_eq_some_iff.mp hu0).1
          have := hr4 u huk
          rw [hu0] at this
          have e2 : u0 = stp rows (z % n) u := Option.some.inj this
          have hlt := hr3 u0 (List.mem_of_getElem? hu0)
          rw [e]
          refine ⟨?_, ?_⟩
          · have : b = 0 ∨ b = 1 := by omega
            rcases this with q | q <;> subst q <;> omega
          · rw [Nat.add_mul_mod_self_left, Nat.mod_eq_of_lt hlt]
            exact e2
  · rintro σ' H' ⟨u1, ys, rs, rfl, d, h1, pr, e1, DU⟩
    walk_at "go"
    refine r_tupL (SqL.of h1) fun r hr => ?_
    walk_at "go"
    have hp1 := d.1 _ _ hpa hp
    have rp : p ≠ r := ne_of_none hp1 hr
    refine r_ixL (SqL.of (by rw [upd_ne rp]; exact hp1)) rfl ?_
    walk_at "go"
    obtain ⟨gq, rfl, hgq⟩ := Rg
    have d1 := d.new (o := .tup ys) B hr
    have hg1 : SqT K _ gq (rI gs) := sqT_kp (d1.kp B) hgq
    refine r_lstT hg1 fun l hl => ?_
    have lp : p ≠ l := ne_of_none (d1.1 _ _ hpa hp) hl
    walk_at "go"
    refine r_ixL (SqL.of (by rw [upd_ne lp]; exact d1.1 _ _ hpa hp)) rfl ?_
    walk_at "go"
    have s2 := same_new (o := .lst (rI gs)) hl
    refine ⟨gq, rfl, ⟨_, sqT_same s2 hg1⟩, fun D hD => ?_⟩
    refine lcg_T (xs := rI gs) (fun x => match x with | .int i => .int (i + ((n : Nat) : Int)) | v => v) (by rw [rI_len]; have := G.asc.imp (fun {a b} (h : a < b) => Nat.ne_of_lt h); have := (List.Nodup.length_le_of_subset (l₂ := List.range n) this fun x hx => List.mem_range.mpr (G.lt x hx)); simp at this; omega) hD (sqT_same s2 hg1) ?_ ?_
    · intro m x H3 hx s3 Q3 k3
      obtain ⟨u, hu, rfl⟩ := nat_of_mem (List.mem_of_getElem? hx)
      walk_at "go"
      exact k3 _ (Same.refl _)
    · intro H3 s3 hL3
      walk_at "go"
      have e5 : (rI gs).map (fun x => match x with | .int i => V.int (i + ((n : Nat) : Int)) | v => v) = rI (gs.map (· + n)) := by
        simp [rI]
      rw [e5] at hL3
      have glen : gs.length ≤ n := by
        have := G.asc.imp (fun {a b} (h : a < b) => Nat.ne_of_lt h)
        have := (List.Nodup.length_le_of_subset (l₂ := List.range n) this fun x hx => List.mem_range.mpr (G.lt x hx))
        simpa using this
      refine ⟨l, D, _, _, rfl, rfl, s3 _ _ upd_same, hL3, sl100 (by rw [rI_len, rI_len, List.length_map]; omega), fun m hm => ?_⟩
      walk_at "go"
      refine r_tupL (SqL.of upd_same) fun t2 ht2 => ?_
      walk_at "go"
      refine ⟨by decide, fun p5 hp5 => ?_⟩
      walk_at "go"
      rw [show rI gs ++ rI (gs.map (· + n)) = rI (gs ++ gs.map (· + n)) by simp [rI]] at ht2 hp5 ⊢
      have s5 := ((s3.trans (same_new (o := .lst (rI (gs ++ gs.map (· + n)))) hm)).trans (same_new (o := .tup (rI (gs ++ gs.map (· + n)))) ht2))
      have s6 := s5.trans (same_new (o := .lst [.ref r, .ref t2]) hp5)
      have s7 := s2.trans s6
      have d7 := d1.same s7
      refine k p5 rs _ _ d7 (((d1.same (s2.trans s5))).1.free ?_ hp5) ⟨⟨_, _, upd_same, ⟨r, ys, rfl, SqT.of (s7 _ _ upd_same), Paired.mapP pr fun _ _ z => (z.kp (same_kp (same_new hr))).kp (same_kp s7)⟩, ⟨t2, rfl, SqT.of ?_⟩⟩, DU.tab hn0 e1, dr_goal G⟩ fun w hw => ?_
      · exact (d1.same (s2.trans s5)).2.ne hp5
      · rw [upd_ne (fun z => by rw [z, upd_same] at hp5; cases hp5), upd_same]
      · obtain ⟨g1, g2⟩ := DU.run Tb e1 (w := w) (z := 0) (by omega) hw
        rw [dr_mem G g1, g2, Nat.zero_mod]
theorem sc__law_drawn_walk : FnScope ["_law_bag", "_law_signs", "_law_way", "_law_count", "_law_rows"] ["_law_bag", "_law_signs"] (defScope s__law_drawn_walk) := ⟨rfl, rfl, rfl, by decide +kernel, rfl, by decide +kernel, by decide +kernel⟩
theorem ok__law_drawn_walk (T : Tx K mg) : C1 P w K mg base CX0 4 "_law_drawn_walk" ["_law_bag", "_law_signs"] (spRaw K) := by
  obtain ⟨fd, F⟩ := d__law_drawn_walk T
  refine .mk1 F (g__law_drawn_walk T) (fun _ _ _ _ _ _ us hl => match us, hl with | [_, _], _ => rfl) sc__law_drawn_walk (fun vs H Q E h => ?_) (fun cdv A outer s H vs Q E hr h => ?_)
  · obtain ⟨a, sg, rfl, B, h1, h12, k⟩ := h
    rfl
  obtain ⟨a, sg, rfl, B, h1, h12, k⟩ := h
  have hu := hu_of hr
  have hu64 := hu64_of hr
  have hu6 := hu64' hr
  refine ⟨_, (pss_cons (ps_set (i := 2) sc__law_drawn_walk.nd rfl (Or.inl rfl) (pe_c1 (ok__law_pick T) (hr.mono (by decide)) (by rfl) (pa_cons (pv 0) (pa_cons pe_int pa_nil))))
      (pss_cons (ps_if (pt_cmpR op_lt (pv 2) pe_int (nomark _)) (pss_one (ps_ret (pe_c1 (ok__law_chain T) (hr.mono (by decide)) (by rfl) (pa_cons (pv 0) (pa_cons (pv 1) pa_nil))))) pss_nil)
      (pss_cons (ps_if (pt_cmpR op_eq (pv 2) pe_int (nomark _)) (pss_one (ps_ret (pe_c1 (ok__law_sum_rows T) (hr.mono (by decide)) (by rfl) (pa_cons (pv 1) (pa_cons (pe_c1 (ok__law_sum T) (hr.mono (by decide)) (by rfl) (pa_cons (pv 0) (pa_cons (pv 1) pa_nil))) pa_nil))))) pss_nil)
      (pss_cons (ps_set (i := 3) sc__law_drawn_walk.nd rfl (Or.inl rfl) (pe_op op_add pe_int (pe_c1 (ok__law_pick T) (hr.mono (by decide)) (by rfl) (pa_cons (pv 0) (pa_cons pe_int pa_nil)))))
      (pss_cons (ps_set (i := 4) sc__law_drawn_walk.nd rfl (Or.inl rfl) (pe_c1 (ok__law_rows_of T) (hr.mono (by decide)) (by rfl) (pa_cons (pv 0) (pa_cons (pv 1) (pa_cons (pv 3) pa_nil)))))
      (pss_cons (ps_if (pt_cmpR op_eq (pv 2) pe_int (nomark _)) (pss_one (ps_ret (pe_ifExp (pt_cmpR op_eq (pe_c1 (ok__law_pick T) (hr.mono (by decide)) (by rfl) (pa_cons (pv 0) (pa_cons pe_int pa_nil))) pe_int (nomark _)) (pe_lst (pa_cons (pv 4) (pa_cons (pe_tup pa_nil) pa_nil))) (pe_lst (pa_cons (pv 4) (pa_cons (pe_c1 (ok__law_goals T) (hr.mono (by decide)) (by rfl) (pa_cons (pv 0) (pa_cons (pv 3) pa_nil))) pa_nil)))))) pss_nil)
      (pss_one (ps_ret (pe_lst (pa_cons (pv 4) (pa_cons (pe_tup (pa_cons (pe_c1 (ok__law_pick T) (hr.mono (by decide)) (by rfl) (pa_cons (pv 0) (pa_cons (pv 3) pa_nil))) pa_nil)) pa_nil))))))))))), ?_⟩
  walk_at "go"
  refine ⟨a, 8, rfl, B, by omega, by omega, fun r H1 hr1 d1 => ?_⟩
  walk_at "go"
  refine iteD (fun h => ?_) (fun h => ?_)
  · walk_at "go"
    refine ⟨a, sg, rfl, d1.2, h1, h12, fun p n rows gs H2 d2 hp pa hn W => ?_⟩
    exact k p n rows gs H2 (d1.trans d2) (d1.1.free pa hp) pa hn W
  walk_at "go"
  refine iteD (fun h => ?_) (fun h => ?_)
  · walk_at "go"
    refine ⟨a, _, rfl, d1.2, fun m ws g p q H2 SD d2 hp hq => ?_⟩
    walk_at "go"
    refine ⟨sg, p, q, m, g, ws, rfl, hp, hq, SD, h12, fun p' n rows gs H3 s3 hp' hn W => ?_⟩
    have pa := d2.2.ne hp'
    exact k p' n rows gs H3 ((d1.trans d2).same s3) ((d1.trans d2).1.free pa hp') pa hn W
  walk_at "go"
  refine ⟨a, 6, rfl, d1.2, by omega, by omega, fun n H2 hn d2 => ?_⟩
  walk_at "go"
  rw [show 1 + ((n : Nat) : Int) = ((1 + n : Nat) : Int) by omega]
  refine ⟨a, sg, 1 + n, rfl, d2.2, by omega, by omega, h12, fun v rows H3 d3 Tb R => ?_⟩
  walk_at "go"
  have d := (d1.trans d2).trans d3
  refine iteD (fun h => ?_) (fun h => ?_)
  · walk_at "go"
    refine ⟨a, 4, rfl, d.2, by omega, by omega, fun r4 H4 hr4 d4 => ?_⟩
    walk_at "go"
    refine iteD (fun h => ?_) (fun h => ?_)
    · walk_at "go"
      refine ⟨by decide, fun q hq => ?_⟩
      walk_at "go"
      refine ⟨by decide, fun p hp => ?_⟩
      have dq := (d.trans d4).new (o := .tup []) B hq
      have pa := dq.2.ne hp
      refine k p (1 + n) rows [] _ (dq.new B hp) (dq.1.free pa hp) pa (by omega) ⟨⟨_, _, upd_same, R.kp ((d4.kp d.2).trans ((same_kp (same_new hq)).trans (same_kp (same_new hp)))), ⟨q, rfl, SqT.of ?_⟩⟩, Tb, by simp, by simp⟩
      exact same_new hp _ _ upd_same
    · walk_at "go"
      refine ⟨a, 1 + n, rfl, d4.2, by omega, by omega, fun gv gs H5 d5 G Rg => ?_⟩
      walk_at "go"
      refine ⟨by decide, fun p hp => ?_⟩
      have dq := (d.trans d4).trans d5
      have pa := dq.2.ne hp
      exact k p (1 + n) rows gs _ (dq.new B hp) (dq.1.free pa hp) pa (by omega) ⟨⟨_, _, upd_same, R.kp (((d4.trans d5).kp d.2).trans (same_kp (same_new hp))), Rg.kp (same_kp (same_new hp))⟩, Tb, G⟩
  walk_at "go"
  refine ⟨a, 1 + n, rfl, d.2, by omega, by omega, fun g H4 hg d4 => ?_⟩
  walk_at "go"
  refine ⟨by decide, fun q hq => ?_⟩
  walk_at "go"
  refine ⟨by decide, fun p hp => ?_⟩
  have dq := (d.trans d4).new (o := .tup [V.int ((g : Nat) : Int)]) B hq
  have pa := dq.2.ne hp
  refine k p (1 + n) rows [g] _ (dq.new B hp) (dq.1.free pa hp) pa (by omega) ⟨⟨_, _, upd_same, R.kp ((d4.kp d.2).trans ((same_kp (same_new hq)).trans (same_kp (same_new hp)))), ⟨q, rfl, SqT.of ?_⟩⟩, Tb, by simpa using hg, by simp⟩
  exact same_new hp _ _ upd_same
end

end K18
end
section
set_option maxRecDepth 100000
set_option maxHeartbeats 4000000
local macro_rules | `(tactic| walk_at "go1") => `(tactic| first
  | (with_reducible refine K18.r_seq ?_) | (with_reducible refine K18.r_ifs ?_) | (with_reducible refine K18.r_ret ?_) | (with_reducible refine K18.r_asg ?_) | (with_reducible refine K18.r_drop ?_) | (with_reducible refine K18.r_next ?_)
  | (with_reducible refine K18.r_name ?_) | (with_reducible refine K18.r_var rfl ?_) | (with_reducible refine K18.r_c ?_) | (with_reducible refine K18.r_op ?_) | (with_reducible refine K18.r_cons ?_) | (with_reducible refine K18.r_nil ?_)
  | (with_reducible refine K18.r_cb ?_) | (with_reducible refine K18.r_call ?_) | (with_reducible refine K18.r_make ?_) | (with_reducible refine K18.r_B ?_) | (with_reducible refine K18.r_test ?_) | (with_reducible refine K18.r_or ?_) | (with_reducible refine K18.r_and ?_) | (with_reducible refine K18.r_not ?_)
  | (with_reducible refine K18.r_andV ?_) | (with_reducible refine K18.r_orV ?_) | (with_reducible refine K18.r_notV ?_) | (with_reducible refine K18.r_if ?_) | (with_reducible refine K18.r_aug rfl ?_) | (with_reducible refine K18.r_ip ?_)
  | (with_reducible refine K18.r_I0 ?_) | (with_reducible refine K18.r_int1 ?_) | (with_reducible refine K18.r_mod (by first | decide | omega) ?_) | (with_reducible refine K18.r_fdivN (by first | decide | omega) (by first | decide | omega) ?_) | (with_reducible refine K18.r_mulR (by first | decide | omega) (by first | decide | omega) ?_) | (with_reducible refine K18.r_mulL (by first | decide | omega) (by first | decide | omega) ?_) | (with_reducible refine K18.r_inG ?_) | (with_reducible refine K18.r_notInG ?_) | (with_reducible refine K18.r_ltS ?_) | (with_reducible refine K18.r_ex ?_) | (with_reducible refine K18.r_eqI ?_) | (with_reducible refine K18.r_neI ?_) | (with_reducible refine K18.r_eqB ?_) | (with_reducible refine K18.r_neB ?_) | (with_reducible refine K18.r_isN ?_)
  | (with_reducible refine K18.r_tup ?_) | (with_reducible refine K18.r_lst ?_) | (with_reducible refine K18.r_yes ?_) | (with_reducible refine K18.r_gsub ?_) | (with_reducible refine K18.r_dget ?_) | (with_reducible refine K18.r_sl ?_) | (with_reducible refine K18.r_part ?_) | (with_reducible refine K18.r_nopart ?_)
  | (with_reducible refine K18.r_chain ?_) | (with_reducible refine K18.r_bm ?_) | (with_reducible refine K18.iteT ?_) | (with_reducible refine K18.iteF ?_) | (with_reducible refine K18.iteNT ?_) | (with_reducible refine K18.iteNF ?_)
  | (with_reducible refine K18.r_for ?_) | (with_reducible refine K18.r_while ?_) | (with_reducible refine K18.r_lc ?_) | (with_reducible refine K18.r_iR1 ?_) | (with_reducible refine K18.r_iR2 ?_) | (with_reducible refine K18.r_iL ?_) | (with_reducible refine K18.r_iT ?_) | (with_reducible refine K18.r_iS ?_)
  | dsimp only [L2.start, List.map, List.replicate, List.length, List.cons_append, List.nil_append, List.append_nil, Nat.reduceAdd, Nat.reduceSub, List.set])
local macro_rules | `(tactic| walk_at "go") => `(tactic| repeat walk_at "go1")
namespace K18
open PySem PySem.Spec PyProof.Rows L2
/-! ### text[::-1] -/
def tRevS (te : TE) : TE := fun σ H Q => te σ H fun x H1 => ∃ z, x = .str z ∧ z.length ≤ sizeLine ∧ Q (.str ⟨z.cps.toList.reverse.toArray⟩) H1
theorem pe_revS {X : Cx} {te : TE} {e : Expr} {k : Nat} {p1 p2 p3 pos : Pos} (he : PE X e te) : PE X (.Subscript e (.Slice none none (some (.UnaryOp .USub (.Constant (.int 1) k p1) p2)) p3) pos) (tRevS te) := by
  refine ⟨fun pins s σ H Q I h => ?_⟩
  refine Subscript_ (thn (he.run pins s σ H _ I h) fun v s1 ⟨x, H1, I1, r1, q1⟩ => ?_)
  obtain ⟨z, ex, hz, q⟩ := q1
  subst ex
  obtain ⟨t, rfl⟩ := r1
  have hst : PO X (some (.UnaryOp .USub (.Constant (.int 1) k p1) p2)) (tPart (tUn (rU fun i => .int (-i)) (tC (.int 1)))) := po_some (pe_un un_neg pe_int)
  refine wpAny_Slice (thn (po_none.run pins s1 σ H1 (fun o H2 => o = none ∧ H2 = H1) I1 ⟨rfl, rfl⟩) fun vl s2 ⟨l, H2, I2, pl, el, e2⟩ => ?_)
  subst el e2
  refine thn (po_none.run pins s2 σ H2 (fun o H3 => o = none ∧ H3 = H2) I2 ⟨rfl, rfl⟩) fun vu s3 ⟨u, H3, I3, pu, eu, e3⟩ => ?_
  subst eu e3
  refine thn (hst.run pins s3 σ H3 (fun o H4 => o = some (-1) ∧ H4 = H3) I3 ⟨1, rfl, -1, rfl, rfl, rfl⟩) fun vs s4 ⟨o, H4, I4, ps, eo, e4⟩ => ?_
  subst eo e4
  have I5 : Inv X pins σ H4 { s4 with heap := s4.heap.push { cls := .type "slice", data := .fields #[vl, vu, vs] } } := I4.kept (t' := s4.toks) fun b ob q => Heap.get?_push_of_some _ q
  obtain ⟨os, hos, hcs, hds⟩ := Heap.IsSliceOf.new s4.heap vl vu vs
  obtain ⟨l, rfl, el⟩ := IsPart.raw pl
  obtain ⟨u, rfl, eu⟩ := IsPart.raw pu
  obtain ⟨st, rfl, es⟩ := IsPart.raw ps
  show wpAny (model X.prog X.w) X.A (subscriptTail e (.Slice none none (some (.UnaryOp .USub (.Constant (.int 1) k p1) p2)) p3) (.str z t) (.ref s4.heap.objs.size)) (EP X pins σ Q) X.xe { s4 with heap := s4.heap.push { cls := .type "slice", data := .fields #[_, _, _] } }
  refine tail_any (ops := [.str z t, .ref s4.heap.objs.size]) (typeIs_str _ _ _) (F.slot_str_getitem.lookup) ?_ (by with_unfolding_all rfl)
  refine wpAny_getItem_str_slice (l := l) (u := u) (st := st) ⟨os, hos, hcs, hds⟩ (by rw [es]; rfl) ?_
  have hp : slicePicked z l u st = (List.range z.length).reverse := by
    unfold slicePicked
    rw [el, eu, es]
    show Builtin.Str.strSliceIndices none none (-1) z.length = _
    unfold Builtin.Str.strSliceIndices
    show sliceRange ((z.length : Int) - 1) (-1) (-1) = _
    rw [PySem.W.krv_sliceRange, PySem.W.krv_range]
  unfold sliceMade
  rw [hp, es]
  show Made.post (Made.str ⟨((List.range z.length).reverse.filterMap (z.cps[·]?)).toArray⟩) (EP X pins σ Q) _
  rw [List.filterMap_reverse, show z.length = z.cps.size from rfl, PySem.W.krv_all]
  refine ⟨?_, .str _, H4, I5.tok _, ⟨_, rfl⟩, q⟩
  show z.cps.toList.reverse.toArray.size ≤ sizeLine
  rw [List.size_toArray, List.length_reverse, Array.length_toList]
  exact hz
theorem r_revS {σ : L2.St} {H : Hp} {Q : VK} {te : TE} (h : te σ H fun x H1 => ∃ z, x = .str z ∧ z.length ≤ sizeLine ∧ Q (.str ⟨z.cps.toList.reverse.toArray⟩) H1) : tRevS te σ H Q := h
section
variable {P : Program} {w : World} {K : PySem.W.Frag} {mg : Str → Option Value} {base : Heap}
theorem wd_mem_vS {ps : List (List Nat)} {y : V} (h : y ∈ vS ps) : ∃ l, l ∈ ps ∧ y = .str (S l) := by
  obtain ⟨l, hl, e⟩ := List.mem_map.mp h
  exact ⟨l, hl, e.symm⟩
theorem ite_two {b : Bool} {A B C : Prop} (hC : C) (h1 : C → A) (h0 : C → B) : if b = true then A else B := by
  cases b with
  | true => exact L2.iteT (h1 hC)
  | false => exact L2.iteF (h0 hC)
theorem lcg_relD {J : It} {G : Hp → Prop} {xs : List V} {j : Nat} {te : TE} {σ : L2.St} {H1 : Hp} (hz : xs.length ≤ 100000) {D : Addr} {Qd : Hp → Prop} (hD : H1 D = none) (w : L2.Walk J xs.length G (YAt xs)) (hG : ∀ H, Same H1 H → G H) (Pe : V → V → Hp → Prop) (mono : ∀ x y H H', Same H H' → Pe x y H → Pe x y H')
    (he : ∀ (i : Nat) x H, xs[i]? = some x → Same H1 H → (∃ acc, H D = some (.lst acc)) → ∀ Q : VK, (∀ y H', Same H H' → Pe x y H' → Q y H') → te ((σ.set j none).set j (some x)) H Q)
    (hd : ∀ ys H, Same H1 H → H D = some (.lst ys) → Paired (fun x y => Pe x y H) xs ys → Qd H) (hpe : ∀ x y H o, Pe x y H → H D = some (.lst o) → ∀ o', Pe x y (upd H D (.lst o'))) : LcG J (gName j) tYes te [j] σ H1 D Qd := by
  refine lc1 hz w (fun i ys H => Same H1 H ∧ Paired (fun x y => Pe x y H) (xs.take i) ys) ⟨same_new hD, by rw [List.take_zero]; exact .nil⟩ (fun i ys H _ h => hG H h.1) ?_ ?_
  · rintro i x ys H hx _ ⟨s1, p⟩ hL Q k
    refine he i x H hx s1 ⟨_, hL⟩ Q fun y H4 s2 q => k y H4 (s2 _ _ hL) ⟨same_mut (s1.trans s2) hD, ?_⟩
    have e : xs.take (i + 1) = xs.take i ++ [x] := by
      rw [List.take_add_one, hx]
      rfl
    rw [e]
    exact Paired.snoc (Paired.mapP p fun x y z => hpe x y H4 ys (mono x y H H4 s2 z) (s2 _ _ hL) _) (hpe x y H4 ys q (s2 _ _ hL) _)
  · rintro ys H _ ⟨s1, p⟩ hL
    rw [List.take_length] at p
    exact hd ys H s1 hL p
/-- two papers in a new list -/
def TwoP (H' : Hp) (p : Addr) (sg l1 l2 : List Nat) : Prop := H' p = some (.lst [.str (S l1), .str (S l2)]) ∧ Pap sg l1 ∧ Pap sg l2 ∧ l1.length ≤ 60 ∧ l2.length ≤ 60
def spAlike (K : PySem.W.Frag) : Sp := fun vs H Q _ => ∃ (a : Addr) (sg : List Nat) (v : V) (b : Bool) (n : Nat) (rows : List (List Nat)), vs = [.ref a, .str (S sg), v, .bl b] ∧ Bag H a ∧ 2 ≤ sg.length ∧ sg.length ≤ 3 ∧ RowsT K H v rows ∧ Tab sg.length n rows ∧ n ≤ 16 ∧
  ∀ p l1 l2 H', Drew a H H' → H p = none → TwoP H' p sg l1 l2 → Q (.ref p) H'
theorem sc__law_alike_papers : FnScope ["_law_bag", "_law_signs", "_law_rows", "_law_unlike", "_law_papers", "_law_onto", "_law_paper", "_law_z", "_law_i", "_law_j", "_law_same"] ["_law_bag", "_law_signs", "_law_rows", "_law_unlike"] (defScope s__law_alike_papers) := ⟨rfl, rfl, rfl, by decide +kernel, rfl, by decide +kernel, by decide +kernel⟩
theorem ok__law_alike_papers (T : Tx K mg) : C1 P w K mg base CX0 3 "_law_alike_papers" ["_law_bag", "_law_signs", "_law_rows", "_law_unlike"] (spAlike K) := by
  obtain ⟨fd, F⟩ := d__law_alike_papers T
  refine .mk1 F (g__law_alike_papers T) (fun _ _ _ _ _ _ us hl => match us, hl with | [_, _, _, _], _ => rfl) sc__law_alike_papers (fun vs H Q E h => ?_) (fun cdv A outer s H vs Q E hr h => ?_)
  · obtain ⟨a, sg, v, b, n, rows, rfl, B, h2, h3, R, Tb, hn, k⟩ := h
    rfl
  obtain ⟨a, sg, v, b, n, rows, rfl, B, h2, h3, R, Tb, hn, k⟩ := h
  have hu := hu_of hr
  have hu64 := hu64_of hr
  have hu6 := hu64' hr
  refine ⟨_, (pss_cons (ps_set (i := 4) sc__law_alike_papers.nd rfl (Or.inl rfl) (pe_c1 (ok__law_mixed T) (hr.mono (by decide)) (by rfl) (pa_cons (pv 0) (pa_cons (pe_c1 (ok__law_papers_of T) (hr.mono (by decide)) (by rfl) (pa_cons (pv 1) (pa_cons (pe_ifExp (pt_cmpR op_eq (pe_callB call_lenZ (by rfl) (f_len T) PySem.boot_len (pa_cons (pv 1) pa_nil)) pe_int (nomark _)) pe_int pe_int) pa_nil))) pa_nil))))
      (pss_cons (ps_set (i := 5) sc__law_alike_papers.nd rfl (Or.inr rfl) (pe_lc (own := [("_law_paper", 6)]) (g := gName 6) (by rfl) sc__law_alike_papers.nd (pi_listK K (by rfl) (pv 4)) (blkOk_by (own := [("_law_paper", 6)]) (by kernel_rfl)) (fun _ _ _ _ _ => pg_name (i := 6) sc__law_alike_papers.nd rfl (Or.inr rfl)) (fun _ _ _ _ _ => pts_nil) (fun _ _ _ _ _ => (pe_lc (own := [("_law_z", 7)]) (g := gName 7) (by rfl) sc__law_alike_papers.nd (pi_range1 (by rfl) (f_range T) (pa_cons (pe_callB (call_lenK K (by rfl)) (by rfl) (f_len T) PySem.boot_len (pa_cons (pv 2) pa_nil)) pa_nil)) (blkOk_by (own := [("_law_z", 7)]) (by kernel_rfl)) (fun _ _ _ _ _ => pg_name (i := 7) sc__law_alike_papers.nd rfl (Or.inl rfl)) (fun _ _ _ _ _ => pts_nil) (fun _ _ _ _ _ => (pe_c1 (ok__law_led T) (hr.mono (by decide)) (by rfl) (pa_cons (pv 1) (pa_cons (pv 2) (pa_cons (pv 7) (pa_cons (pv 6) pa_nil))))))))))
      (pss_cons (ps_for PassesOwn.never rfl (pi_range1 (by rfl) (f_range T) (pa_cons (pe_callB (call_lenK K (by rfl)) (by rfl) (f_len T) PySem.boot_len (pa_cons (pv 4) pa_nil)) pa_nil)) (pg_name (i := 8) sc__law_alike_papers.nd rfl (Or.inr rfl)) (pss_one (ps_for PassesOwn.never rfl (pi_range2 (by rfl) (f_range T) (pa_cons (pe_op op_add (pv 8) pe_int) (pa_cons (pe_callB (call_lenK K (by rfl)) (by rfl) (f_len T) PySem.boot_len (pa_cons (pv 4) pa_nil)) pa_nil))) (pg_name (i := 9) sc__law_alike_papers.nd rfl (Or.inr rfl)) (pss_cons (ps_setLc (i := 10) (own := [("_law_z", 7)]) (g := gName 7) (by rfl) sc__law_alike_papers.nd rfl rfl (sw_true rfl rfl rfl (by decide +kernel)) (pi_range1 (by rfl) (f_range T) (pa_cons (pe_callB (call_lenK K (by rfl)) (by rfl) (f_len T) PySem.boot_len (pa_cons (pv 2) pa_nil)) pa_nil)) (blkOk_by (own := [("_law_z", 7)]) (by kernel_rfl)) (fun _ _ _ _ _ => pg_name (i := 7) sc__law_alike_papers.nd rfl (Or.inl rfl)) (fun _ _ _ _ _ => pts_nil) (fun _ _ _ _ _ => (pe_cmpR op_eq (pe_ix (ix_listK K (by rfl)) (pe_ix (ix_listK K (by rfl)) (pv 5) (pv 8) (fun _ _ => rfl)) (pv 7) (fun _ _ => rfl)) (pe_ix (ix_listK K (by rfl)) (pe_ix (ix_listK K (by rfl)) (pv 5) (pv 9) (fun _ _ => rfl)) (pv 7) (fun _ _ => rfl)) (nomark _))))
      (pss_one (ps_if (pw_or (pw_and (pt_val (pv 3)) (pw_and1 (pt_cmpR (op_notIn_seqK K (by rfl)) pe_bl (pv 10) (by rfl)))).pt (pw_or1 (pw_and (pt_not (pt_val (pv 3))) (pw_and1 (pt_cmpR (op_notIn_seqK K (by rfl)) pe_bl (pv 10) (by rfl)))).pt)).pt (pss_one (ps_ret (pe_lst (pa_cons (pe_ix (ix_listK K (by rfl)) (pv 4) (pv 8) (fun _ _ => rfl)) (pa_cons (pe_ix (ix_listK K (by rfl)) (pv 4) (pv 9) (fun _ _ => rfl)) pa_nil))))) pss_nil))))))
      (pss_one (ps_ret (pe_lst (pa_cons (pe_ix (ix_listK K (by rfl)) (pv 4) pe_int (fun _ _ => rfl)) (pa_cons (pe_ix (ix_listK K (by rfl)) (pv 4) pe_int (fun _ _ => rfl)) pa_nil)))))))), ?_⟩
  walk_at "go"
  refine r_lenZ (by omega) ?_
  walk_at "go"
  obtain ⟨va, vrs, e0, hva, pvs⟩ := id R
  subst e0
  have lvr : vrs.length = n := (Paired.length pvs).symm.trans Tb.len
  refine ite_two (fun ps p H1 s1 hp0 hp h2 h100 hps => ?_) (fun c => ⟨sg, 3, rfl, by omega, by omega, by omega, h3, c⟩) (fun c => ⟨sg, 2, rfl, by omega, by omega, by omega, h3, c⟩)
  walk_at "go"
  have B1 := B.same s1
  have pa := B.ne hp0
  refine ⟨a, p, _, rfl, B1, hp, pa, by simp [vS]; omega, fun p2 ys H2 d2 hp20 p2a hp2 ly my => ?_⟩
  have ly' : ys.length = ps.length := by rw [ly]; simp [vS]
  have d : Drew a H H2 := ((Drew.refl B).same s1).trans d2
  have R2 : RowsT K H2 (.ref va) rows := R.kp (d.kp B)
  have hva2 : SqT K H2 va vrs := sqT_kp (d.kp B) hva
  have inY : ∀ (i : Nat) (hi : i < ys.length), ∃ l, ys[i] = .str (S l) ∧ Pap sg l ∧ l.length ≤ 3 := fun i hi => by
    obtain ⟨l, hl, e⟩ := wd_mem_vS (my _ (List.getElem_mem hi))
    exact ⟨l, e, hps l hl⟩
  walk_at "go"
  refine ⟨p2, rfl, ⟨_, SqL.of hp2⟩, fun D hD => ?_⟩
  refine lcg_relD (xs := ys) (by omega) hD L2.walk_list (fun H s => SqL.of (s _ _ hp2)) (fun x y H4 => (∃ q ns, y = .ref q ∧ H4 q = some (.lst (rI ns)) ∧ ns.length = n) ∧ y ≠ .ref D) ?_ ?_ ?_ ?_
  · rintro x y H4 H5 s ⟨⟨q, ns, e, hq, h1⟩, h0⟩
    exact ⟨⟨q, ns, e, s _ _ hq, h1⟩, h0⟩
  · intro m y H5 hy5 s5 ⟨acc5, hacc5⟩ Q5 k5
    obtain ⟨hm, e5⟩ := List.getElem?_eq_some_iff.mp hy5
    obtain ⟨l, el, hl⟩ := inY m hm
    rw [← e5, el]
    walk_at "go"
    have R5 := R2.kp (same_kp s5)
    refine r_lenQT (sqT_same s5 hva2) ?_
    rw [lvr]
    refine ⟨_, rfl, by omega, by omega, fun D5 hD5 => ?_⟩
    refine lcg_R (fun z => .int ((run (stp rows) z (wd sg l) : Nat) : Int)) (by omega) hD5 ?_ ?_
    · intro z H6 hz s6 Q6 k6
      walk_at "go"
      refine ⟨sg, _, n, z, l, rows, rfl, R5.kp (same_kp s6), Tb, hz, hl.1, ?_⟩
      exact k6 _ (Same.refl _)
    · intro H6 s6 hL6
      refine k5 _ _ s6 ⟨⟨D5, (List.range n).map fun z => run (stp rows) z (wd sg l), rfl, by rw [hL6]; simp [rI], by simp⟩, fun z => ?_⟩
      rw [V.ref.inj z, hacc5] at hD5
      cases hD5
  · intro zs H3 s3 hL3 pz
    walk_at "go"
    have d3 := d.same s3
    have hp3 : H3 p2 = some (.lst ys) := s3 _ _ hp2
    have lz : zs.length = ys.length := (Paired.length pz).symm
    have R3 := R2.kp (same_kp s3)
    have hva3 := sqT_same s3 hva2
    have cell : ∀ (H4 : Hp), Same H3 H4 → ∀ (i : Nat) (hi : i < zs.length), ∃ q ns, zs[i] = .ref q ∧ H4 q = some (.lst (rI ns)) ∧ ns.length = n := fun H4 s4 i hi => by
      obtain ⟨y, _, hy⟩ := paired_get' pz (List.getElem?_eq_some_iff.mpr ⟨hi, rfl⟩)
      obtain ⟨⟨q, ns, e, hq, h1⟩, _⟩ := hy
      exact ⟨q, ns, e, s4 _ _ hq, h1⟩
    have back : ∀ (H4 : Hp) (i j : Nat) (hi : i < ys.length) (hj : j < ys.length) (q : Addr), Same H3 H4 → H4 q = none → ∃ l1 l2, ys[i] = .str (S l1) ∧ ys[j] = .str (S l2) ∧ TwoP (upd H4 q (.lst [.str (S l1), .str (S l2)])) q sg l1 l2 := fun H4 i j hi hj q s4 hq => by
      obtain ⟨l1, e1, p1, n1⟩ := inY i hi
      obtain ⟨l2, e2, p2, n2⟩ := inY j hj
      exact ⟨l1, l2, e1, e2, upd_same, p1, p2, by omega, by omega⟩
    refine r_lenQL (SqL.of hp3) ?_
    refine ⟨_, rfl, by omega, by omega, ?_⟩
    refine fo_R (n := ys.length) (fun i σ H' => ∃ (u1 u2 u3 : Option V), σ = [some (.ref a), some (.str (S sg)), some (.ref va), some (.bl b), some (.ref p2), some (.ref D), none, none, u1, u2, u3] ∧ Same H3 H') ⟨_, _, _, rfl, Same.refl _⟩ ?_ ?_
    · rintro i σ' H4 hi ⟨u1, u2, u3, rfl, s4⟩
      walk_at "go"
      refine r_lenQL (SqL.of (s4 _ _ hp3)) ?_
      walk_at "go"
      rw [show ((i : Nat) : Int) + 1 = ((i + 1 : Nat) : Int) by omega]
      refine ⟨_, _, rfl, ⟨by omega, by omega, by omega, by omega⟩, ?_⟩
      refine fo_R2 (lo := i + 1) (n := ys.length) (fun j σ H' => ∃ (u2 u3 : Option V), σ = [some (.ref a), some (.str (S sg)), some (.ref va), some (.bl b), some (.ref p2), some (.ref D), none, none, some (.int ((i : Nat) : Int)), u2, u3] ∧ Same H3 H') ⟨_, _, rfl, s4⟩ (by omega) ?_ ?_
      · rintro j σ2 H5 hij hj ⟨u2', u3', rfl, s5⟩
        walk_at "go"
        refine r_lenQT (sqT_same s5 hva3) ?_
        rw [lvr]
        refine ⟨_, rfl, by omega, by omega, fun D6 hD6 => ?_⟩
        refine lcg_R (fun z => .bl (match zs[i]?, zs[j]? with | some (.ref p), some (.ref q) => (match H5 p, H5 q with | some (.lst xs), some (.lst ys) => decide (xs[z]? = ys[z]?) | _, _ => true) | _, _ => true)) (by omega) hD6 ?_ ?_
        · intro z H6 hz s6 Q6 k6
          have hiz : i < zs.length := by omega
          have hjz : j < zs.length := by omega
          obtain ⟨q1, n1, e1, h1, g1⟩ := cell H5 s5 i hiz
          obtain ⟨q2, n2, e2, h2, g2⟩ := cell H5 s5 j hjz
          have hLD : H6 D = some (.lst zs) := s6 _ _ (s5 _ _ hL3)
          walk_at "go"
          refine r_ixL (SqL.of hLD) (atI_mem hiz) ?_
          rw [e1]
          walk_at "go"
          refine r_ixL (SqL.of (s6 _ _ h1)) (atI_nat (rI_get (List.getElem?_eq_some_iff.mpr ⟨show z < n1.length by omega, rfl⟩))) ?_
          walk_at "go"
          refine r_ixL (SqL.of hLD) (atI_mem hjz) ?_
          rw [e2]
          walk_at "go"
          refine r_ixL (SqL.of (s6 _ _ h2)) (atI_nat (rI_get (List.getElem?_eq_some_iff.mpr ⟨show z < n2.length by omega, rfl⟩))) ?_
          walk_at "go"
          have kk := k6 _ (Same.refl _)
          rw [List.getElem?_eq_getElem hiz, List.getElem?_eq_getElem hjz, e1, e2] at kk
          simp only [h1, h2] at kk
          rw [rI_get (List.getElem?_eq_some_iff.mpr ⟨show z < n1.length by omega, rfl⟩), rI_get (List.getElem?_eq_some_iff.mpr ⟨show z < n2.length by omega, rfl⟩)] at kk
          simpa using kk
        · intro H6 s6 hL6
          walk_at "go"
          have fl : ((List.range n).map (fun z => V.bl (match zs[i]?, zs[j]? with | some (.ref p), some (.ref q) => (match H5 p, H5 q with | some (.lst xs), some (.lst ys) => decide (xs[z]? = ys[z]?) | _, _ => true) | _, _ => true))).all flatV = true := by
            rw [List.all_eq_true]
            intro x hx
            obtain ⟨z, _, e⟩ := List.mem_map.mp hx
            rw [← e]
            rfl
          have s56 := s5.trans s6
          have nxt : ∃ (u2 u3 : Option V), [some (V.ref a), some (.str (S sg)), some (.ref va), some (.bl b), some (.ref p2), some (.ref D), none, none, some (.int ((i : Nat) : Int)), some (.int ((j : Nat) : Int)), some (.ref D6)] = [some (V.ref a), some (.str (S sg)), some (.ref va), some (.bl b), some (.ref p2), some (.ref D), none, none, some (.int ((i : Nat) : Int)), u2, u3] ∧ Same H3 H6 := ⟨_, _, rfl, s56⟩
          obtain ⟨xs, hx6, fl'⟩ : ∃ xs, H6 D6 = some (.lst xs) ∧ xs.all flatV = true := ⟨_, hL6, fl⟩
          walk_at "go"
          refine iteB (fun hb => ?_) (fun hb => ?_)
          · walk_at "go"
            refine ⟨D6, xs, rfl, .inl (SqL.of hx6), rfl, fl', ?_⟩
            walk_at "go"
            refine iteB (fun hc => ?_) (fun hc => ?_)
            · walk_at "go"
              refine r_ixL (SqL.of (s56 _ _ hp3)) (atI_mem hi) ?_
              walk_at "go"
              refine r_ixL (SqL.of (s56 _ _ hp3)) (atI_mem hj) ?_
              walk_at "go"
              refine ⟨by decide, fun q hq => ?_⟩
              obtain ⟨l1, l2, e1, e2, tp⟩ := back H6 i j hi hj q s56 hq
              rw [e1, e2]
              have dq := d3.same s56
              exact k q l1 l2 _ (dq.new B hq) (dq.1.free (dq.2.ne hq) hq) tp
            · walk_at "go"
              refine iteB (fun hb2 => ?_) (fun hb2 => ?_)
              · walk_at "go"
                refine ⟨D6, xs, rfl, .inl (SqL.of hx6), rfl, fl', ?_⟩
                walk_at "go"
                refine iteB (fun hc => ?_) (fun hc => ?_)
                · walk_at "go"
                  refine r_ixL (SqL.of (s56 _ _ hp3)) (atI_mem hi) ?_
                  walk_at "go"
                  refine r_ixL (SqL.of (s56 _ _ hp3)) (atI_mem hj) ?_
                  walk_at "go"
                  refine ⟨by decide, fun q hq => ?_⟩
                  obtain ⟨l1, l2, e1, e2, tp⟩ := back H6 i j hi hj q s56 hq
                  rw [e1, e2]
                  have dq := d3.same s56
                  exact k q l1 l2 _ (dq.new B hq) (dq.1.free (dq.2.ne hq) hq) tp
                · walk_at "go"
                  exact nxt
              · walk_at "go"
                exact nxt
          · walk_at "go"
            refine iteB (fun hb2 => ?_) (fun hb2 => ?_)
            · walk_at "go"
              refine ⟨D6, xs, rfl, .inl (SqL.of hx6), rfl, fl', ?_⟩
              walk_at "go"
              refine iteB (fun hc => ?_) (fun hc => ?_)
              · walk_at "go"
                refine r_ixL (SqL.of (s56 _ _ hp3)) (atI_mem hi) ?_
                walk_at "go"
                refine r_ixL (SqL.of (s56 _ _ hp3)) (atI_mem hj) ?_
                walk_at "go"
                refine ⟨by decide, fun q hq => ?_⟩
                obtain ⟨l1, l2, e1, e2, tp⟩ := back H6 i j hi hj q s56 hq
                rw [e1, e2]
                have dq := d3.same s56
                exact k q l1 l2 _ (dq.new B hq) (dq.1.free (dq.2.ne hq) hq) tp
              · walk_at "go"
                exact nxt
            · walk_at "go"
              exact nxt
      · rintro σ2 H5 ⟨u2', u3', rfl, s5⟩
        walk_at "go"
        exact ⟨_, _, _, rfl, s5⟩
    · rintro σ' H4 ⟨u1, u2, u3, rfl, s4⟩
      walk_at "go"
      have y2 : 1 < ys.length := by omega
      refine r_ixL (SqL.of (s4 _ _ hp3)) (atI_mem (r := 0) (by omega)) ?_
      walk_at "go"
      refine r_ixL (SqL.of (s4 _ _ hp3)) (atI_mem (r := 1) (by omega)) ?_
      walk_at "go"
      refine ⟨by decide, fun q hq => ?_⟩
      obtain ⟨l1, l2, e1, e2, tp⟩ := back H4 0 1 (by omega) (by omega) q s4 hq
      rw [e1, e2]
      have dq := d3.same s4
      exact k q l1 l2 _ (dq.new B hq) (dq.1.free (dq.2.ne hq) hq) tp
  · rintro x y H4 o ⟨⟨q, ns, e, hq, h1⟩, h0⟩ hL o'
    refine ⟨⟨q, ns, e, ?_, h1⟩, h0⟩
    rw [upd_ne (fun z => h0 (by rw [e, z]))]
    exact hq
end

end K18
end
section
set_option maxRecDepth 100000
set_option maxHeartbeats 4000000
local macro_rules | `(tactic| walk_at "go1") => `(tactic| first
  | (with_reducible refine K18.r_seq ?_) | (with_reducible refine K18.r_ifs ?_) | (with_reducible refine K18.r_ret ?_) | (with_reducible refine K18.r_asg ?_) | (with_reducible refine K18.r_drop ?_) | (with_reducible refine K18.r_next ?_)
  | (with_reducible refine K18.r_name ?_) | (with_reducible refine K18.r_var rfl ?_) | (with_reducible refine K18.r_c ?_) | (with_reducible refine K18.r_op ?_) | (with_reducible refine K18.r_cons ?_) | (with_reducible refine K18.r_nil ?_)
  | (with_reducible refine K18.r_cb ?_) | (with_reducible refine K18.r_call ?_) | (with_reducible refine K18.r_make ?_) | (with_reducible refine K18.r_B ?_) | (with_reducible refine K18.r_test ?_) | (with_reducible refine K18.r_or ?_) | (with_reducible refine K18.r_and ?_) | (with_reducible refine K18.r_not ?_)
  | (with_reducible refine K18.r_andV ?_) | (with_reducible refine K18.r_orV ?_) | (with_reducible refine K18.r_notV ?_) | (with_reducible refine K18.r_if ?_) | (with_reducible refine K18.r_aug rfl ?_) | (with_reducible refine K18.r_ip ?_)
  | (with_reducible refine K18.r_I0 ?_) | (with_reducible refine K18.r_int1 ?_) | (with_reducible refine K18.r_mod (by first | decide | omega) ?_) | (with_reducible refine K18.r_fdivN (by first | decide | omega) (by first | decide | omega) ?_) | (with_reducible refine K18.r_mulR (by first | decide | omega) (by first | decide | omega) ?_) | (with_reducible refine K18.r_mulL (by first | decide | omega) (by first | decide | omega) ?_) | (with_reducible refine K18.r_inG ?_) | (with_reducible refine K18.r_notInG ?_) | (with_reducible refine K18.r_ltS ?_) | (with_reducible refine K18.r_ex ?_) | (with_reducible refine K18.r_eqI ?_) | (with_reducible refine K18.r_neI ?_) | (with_reducible refine K18.r_eqB ?_) | (with_reducible refine K18.r_neB ?_) | (with_reducible refine K18.r_isN ?_)
  | (with_reducible refine K18.r_tup ?_) | (with_reducible refine K18.r_lst ?_) | (with_reducible refine K18.r_yes ?_) | (with_reducible refine K18.r_gsub ?_) | (with_reducible refine K18.r_dget ?_) | (with_reducible refine K18.r_sl ?_) | (with_reducible refine K18.r_part ?_) | (with_reducible refine K18.r_nopart ?_)
  | (with_reducible refine K18.r_chain ?_) | (with_reducible refine K18.r_bm ?_) | (with_reducible refine K18.iteT ?_) | (with_reducible refine K18.iteF ?_) | (with_reducible refine K18.iteNT ?_) | (with_reducible refine K18.iteNF ?_)
  | (with_reducible refine K18.r_for ?_) | (with_reducible refine K18.r_while ?_) | (with_reducible refine K18.r_lc ?_) | (with_reducible refine K18.r_iR1 ?_) | (with_reducible refine K18.r_iR2 ?_) | (with_reducible refine K18.r_iL ?_) | (with_reducible refine K18.r_iT ?_) | (with_reducible refine K18.r_iS ?_)
  | dsimp only [L2.start, List.map, List.replicate, List.length, List.cons_append, List.nil_append, List.append_nil, Nat.reduceAdd, Nat.reduceSub, List.set])
local macro_rules | `(tactic| walk_at "go") => `(tactic| repeat walk_at "go1")
namespace K18
open PySem PySem.Spec PyProof.Rows L2
def spNo : Sp := fun _ _ _ _ => False
/-- a comprehension over things that stand for others -/
theorem lcg_prs {α : Type} {rs : List α} {J : It} {G : Hp → Prop} {xs : List V} {j : Nat} {te : TE} {σ : L2.St} {H1 : Hp} (hl : rs.length = xs.length) (hz : xs.length ≤ 100000) {D : Addr} {Qd : Hp → Prop} (hD : H1 D = none) (w : L2.Walk J xs.length G (YAt xs)) (hG : ∀ H, Same H1 H → G H) (Pe : α → V → Hp → Prop) (mono : ∀ x y H H', Same H H' → Pe x y H → Pe x y H')
    (he : ∀ (i : Nat) r x H, rs[i]? = some r → xs[i]? = some x → Same H1 H → (∃ acc, H D = some (.lst acc)) → ∀ Q : VK, (∀ y H', Same H H' → Pe r y H' → Q y H') → te ((σ.set j none).set j (some x)) H Q)
    (hd : ∀ ys H, Same H1 H → H D = some (.lst ys) → Paired (fun x y => Pe x y H) rs ys → Qd H) (hpe : ∀ x y H o, Pe x y H → H D = some (.lst o) → ∀ o', Pe x y (upd H D (.lst o'))) : LcG J (gName j) tYes te [j] σ H1 D Qd := by
  refine lc1 hz w (fun i ys H => Same H1 H ∧ Paired (fun x y => Pe x y H) (rs.take i) ys) ⟨same_new hD, by rw [List.take_zero]; exact .nil⟩ (fun i ys H _ h => hG H h.1) ?_ ?_
  · rintro i x ys H hx _ ⟨s1, p⟩ hL Q k
    have hi : i < rs.length := by
      rw [hl]
      exact (List.getElem?_eq_some_iff.mp hx).1
    have hr : rs[i]? = some rs[i] := List.getElem?_eq_some_iff.mpr ⟨hi, rfl⟩
    refine he i _ x H hr hx s1 ⟨_, hL⟩ Q fun y H4 s2 q => k y H4 (s2 _ _ hL) ⟨same_mut (s1.trans s2) hD, ?_⟩
    have e : rs.take (i + 1) = rs.take i ++ [rs[i]] := by
      rw [List.take_add_one, hr]
      rfl
    rw [e]
    exact Paired.snoc (Paired.mapP p fun x y z => hpe x y H4 ys (mono x y H H4 s2 z) (s2 _ _ hL) _) (hpe _ y H4 ys q (s2 _ _ hL) _)
  · rintro ys H _ ⟨s1, p⟩ hL
    rw [← hl, List.take_length] at p
    exact hd ys H s1 hL p
/-! ### a list or a tuple walked -/
def iAny (K : PySem.W.Frag) (te : TE) : TI := fun σ H R => te σ H fun x H1 => ∃ a, x = .ref a ∧ (((∃ xs, SqL K H1 a xs) ∧ R (Itl K a) H1) ∨ ((∃ xs, SqT K H1 a xs) ∧ R (Itt K a) H1))
theorem pi_any {X : Cx} {tg l : Expr} {tl : TE} (hl : PE X l tl) : PI X tg l (iAny X.K tl) := by
  refine ⟨fun pins s σ H R I h => ?_⟩
  refine thn (hl.run pins s σ H _ I h) fun v s1 ⟨x, H1, I1, r1, q1⟩ => ?_
  obtain ⟨a, e, q⟩ := q1
  subst e
  cases r1
  rcases q with ⟨⟨xs, hq⟩, q⟩ | ⟨⟨xs, hq⟩, q⟩
  · obtain ⟨its, rv, p, hz⟩ := I1.list hq
    refine wpAny_pyIter_list p.isList ?_
    refine ⟨s1.heap.objs.size, [s1.heap.objs.size], _, _, H1, rfl, I1.kept (t' := s1.toks) fun b o e => Heap.get?_push_of_some _ e, turn_list a _, ⟨_, Heap.get?_push_size _ rfl, rfl, rfl⟩, fun b hb => ?_, q⟩
    have e : b = s1.heap.objs.size := by simpa using hb
    subst e
    exact I1.fpOk (Nat.le_refl _) (I1.hok.fresh (Nat.le_refl _))
  · obtain ⟨its, rv, p, hz⟩ := I1.tuple hq
    refine wpAny_pyIter_tuple (show s1.heap.IsTuple a its.toArray from p) ?_
    refine ⟨s1.heap.objs.size, [s1.heap.objs.size], _, _, H1, rfl, I1.kept (t' := s1.toks) fun b o e => Heap.get?_push_of_some _ e, turn_tuple a _, ⟨_, Heap.get?_push_size _ rfl, rfl, rfl⟩, fun b hb => ?_, q⟩
    have e : b = s1.heap.objs.size := by simpa using hb
    subst e
    exact I1.fpOk (Nat.le_refl _) (I1.hok.fresh (Nat.le_refl _))
theorem pi_anyK {X : Cx} (K : PySem.W.Frag) (hK : X.K = K) {tg l : Expr} {tl : TE} (hl : PE X l tl) : PI X tg l (iAny K tl) := hK ▸ pi_any hl
theorem r_iAny {K : PySem.W.Frag} {te : TE} {σ : L2.St} {H : Hp} {R : It → Hp → Prop} (h : te σ H fun x H1 => ∃ a, x = .ref a ∧ (((∃ xs, SqL K H1 a xs) ∧ R (Itl K a) H1) ∨ ((∃ xs, SqT K H1 a xs) ∧ R (Itt K a) H1))) : iAny K te σ H R := h
/-! ### isinstance -/
section
variable {K : PySem.W.Frag} {H : Hp} {Q : VK} {x : V} {a : Addr} {xs : List V} {n m : String} {b : Bool}
theorem r_isi (ty : TyX K H x (.type n)) (e : kitB n m = some b) (q : Q (.bl b) H) : rIsi K [x, .ty m] H Q := ⟨x, .ty m, _, _, b, rfl, .ty _, ty, kit_ty e, q⟩
theorem tyx_L (h : SqL K H a xs) : TyX K H (.ref a) (.type "list") := by
  rcases h with (h | ⟨o, h⟩) | ⟨o, _, _, h, c, _⟩
  · exact .base (.lst h)
  · exact .base (.frz h)
  · exact .kList h c
theorem tyx_T (h : SqT K H a xs) : TyX K H (.ref a) (.type "tuple") := by
  rcases h with (h | ⟨o, h⟩) | ⟨o, _, _, h, c, _⟩
  · exact .base (.tup h)
  · exact .fTuple h
  · exact .kTuple h c
theorem tyx_i (i : Int) : TyX K H (.int i) (.type "int") := .base (.int i)
theorem tyx_s (z : Str) : TyX K H (.str z) (.type "str") := .base (.str z)
theorem tyx_b (b : Bool) : TyX K H (.bl b) (.type "bool") := .base (.bl b)
theorem tyx_n : TyX K H .non (.type "NoneType") := .base .non
/-- isinstance(x, (m1, m2)), the tuple just laid -/
theorem r_isi2 {tp : Addr} {m1 m2 : String} {b1 b2 : Bool} (ht : H tp = some (.tup [.ty m1, .ty m2])) (ty : TyX K H x (.type n)) (e1 : kitB n m1 = some b1) (e2 : kitB n m2 = some b2) (q : Q (.bl (b1 || b2)) H) : rIsiT K [x, .ref tp] H Q :=
  ⟨x, tp, _, _, [.type m1, .type m2], b1 || b2, rfl, ht, .cons (.ty _) (.cons (.ty _) .nil), ty, kitAny_cons (kit_ty e1) (fun h => by
    subst h
    exact kitAny_cons (kit_ty e2) (fun h => by subst h; rfl) (fun h => by subst h; rfl)) (fun h => by subst h; rfl), q⟩
end
section
variable {P : Program} {w : World} {K : PySem.W.Frag} {mg : Str → Option Value} {base : Heap}
def spBagOf (K : PySem.W.Frag) : Sp := fun vs H Q _ => ∃ (s i : Nat) (ns : List Int), vs = [.ref s, .int ((i : Nat) : Int)] ∧ SqL K H s (ns.map V.int) ∧ ns.length ≤ 100 ∧ i ≤ 100 ∧ ∀ p H', Same H H' → H p = none → Bag H' p → Q (.ref p) H'
theorem sc__law_bag_of : FnScope ["_law_script", "_law_at", "_law_cell", "_law_one", "_law_size", "_law_digits"] ["_law_script", "_law_at"] (defScope s__law_bag_of) := ⟨rfl, rfl, rfl, by decide +kernel, rfl, by decide +kernel, by decide +kernel⟩
theorem ok__law_bag_of (T : Tx K mg) : C1 P w K mg base CX0 1 "_law_bag_of" ["_law_script", "_law_at"] (spBagOf K) := by
  obtain ⟨fd, F⟩ := d__law_bag_of T
  refine .mk1 F (g__law_bag_of T) (fun _ _ _ _ _ _ us hl => match us, hl with | [_, _], _ => rfl) sc__law_bag_of (fun vs H Q E h => ?_) (fun cdv A outer s H vs Q E hr h => ?_)
  · obtain ⟨sc, i, ns, rfl, hs, hn, hi, k⟩ := h
    rfl
  obtain ⟨sc, i, ns, rfl, hs, hn, hi, k⟩ := h
  have hu := hu_of hr
  have hu64 := hu64_of hr
  have hu6 := hu64' hr
  refine ⟨_, (pss_cons (ps_set (i := 2) sc__law_bag_of.nd rfl (Or.inl rfl) (pe_ifExp (pt_cmpR op_lt (pv 1) (pe_callB (call_lenK K (by rfl)) (by rfl) (f_len T) PySem.boot_len (pa_cons (pv 0) pa_nil)) (nomark _)) (pe_ix (ix_listK K (by rfl)) (pv 0) (pv 1) (fun _ _ => rfl)) (pe_op op_add (pe_callB (cr_sumK K (by rfl) rfl) (by rfl) (f_sum T) (by decide +kernel) (pa_cons (pe_lc (own := [("_law_one", 3)]) (g := gName 3) (by rfl) sc__law_bag_of.nd (pi_listK K (by rfl) (pv 0)) (blkOk_by (own := [("_law_one", 3)]) (by kernel_rfl)) (fun _ _ _ _ _ => pg_name (i := 3) sc__law_bag_of.nd rfl (Or.inl rfl)) (fun _ _ _ _ _ => pts_nil) (fun _ _ _ _ _ => (pe_op op_add (pe_op op_fdivN (pe_callB call_abs (by rfl) (f_abs T) (by decide +kernel) (pa_cons (pv 3) pa_nil)) pe_int) pe_int))) pa_nil)) (pe_op op_mul pe_int (pe_op op_add (pv 1) pe_int)))))
      (pss_cons (ps_set (i := 4) sc__law_bag_of.nd rfl (Or.inl rfl) (pe_callB call_abs (by rfl) (f_abs T) (by decide +kernel) (pa_cons (pv 2) pa_nil)))
      (pss_cons (ps_set (i := 5) sc__law_bag_of.nd rfl (Or.inl rfl) (pe_ifExp (pt_cmpR op_ge (pv 4) pe_int (nomark _)) (pv 4) pe_int))
      (pss_one (ps_ret (pe_lst (pa_cons (pv 5) (pa_cons (pe_op op_add (pe_op op_add (pe_op op_mod (pe_callTy call_int1 (by rfl) (f_int T) (by decide +kernel) (pa_cons (pv 4) pa_nil)) pe_int) (pe_op op_mul pe_int (pv 1))) (pe_ifExp (pt_cmpR op_lt (pv 2) pe_int (nomark _)) pe_int pe_int)) (pa_cons pe_int pa_nil))))))))), ?_⟩
  walk_at "go"
  refine r_lenQL (hs) ?_
  walk_at "go"
  refine iteD (fun h => ?_) (fun h => ?_)
  · walk_at "go"
    have h' : i < (ns.map V.int).length := by omega
    refine r_ixL (hs) (atI_mem h') ?_
    have e : (ns.map V.int)[i] = V.int (ns[i]'(by simpa using h')) := by simp
    rw [e]
    walk_at "go"
    refine ⟨_, rfl, ?_⟩
    walk_at "go"
    refine iteD (fun h1 => ?_) (fun h1 => ?_) <;> walk_at "go" <;> refine iteD (fun h2 => ?_) (fun h2 => ?_) <;> walk_at "go" <;> exact ⟨by decide, fun p hp => k p _ (same_new hp) hp ⟨_, _, _, upd_same⟩⟩
  · walk_at "go"
    refine ⟨sc, rfl, ⟨_, hs⟩, fun D hD => ?_⟩
    refine lcg_L (xs := ns.map V.int) (fun x => match x with | .int j => .int ((if j < 0 then -j else j).fdiv 3 + 5) | v => v) (by simpa using Nat.le_trans hn (by omega)) hD (hs) ?_ ?_
    · intro m x H1 hx s1 Q1 k1
      have hx' : ∃ j, x = .int j := by
        rw [List.getElem?_map] at hx
        cases e : ns[m]? with
        | none => rw [e] at hx; cases hx
        | some j => rw [e] at hx; cases hx; exact ⟨j, rfl⟩
      obtain ⟨j, rfl⟩ := hx'
      walk_at "go"
      refine ⟨_, rfl, ?_⟩
      walk_at "go"
      exact k1 _ (Same.refl _)
    · intro H1 s1 hL
      walk_at "go"
      refine ⟨D, ns.map fun j => (if j < 0 then -j else j).fdiv 3 + 5, rfl, SqL.of ?_, ?_⟩
      · rw [hL]
        simp
      walk_at "go"
      refine ⟨_, rfl, ?_⟩
      walk_at "go"
      refine iteD (fun h1 => ?_) (fun h1 => ?_) <;> walk_at "go" <;> refine iteD (fun h2 => ?_) (fun h2 => ?_) <;> walk_at "go" <;> exact ⟨by decide, fun p hp => k p _ (s1.trans (same_new hp)) (s1.free hp) ⟨_, _, _, upd_same⟩⟩
/-! ### a thing with its lists and tuples turned into lists -/
/-- a list or a tuple of numbers, of rows -/
def RowA (K : PySem.W.Frag) (H : Hp) (v : V) (r : List Nat) : Prop := ∃ a, v = .ref a ∧ (SqL K H a (rI r) ∨ SqT K H a (rI r))
def RowsA (K : PySem.W.Frag) (H : Hp) (v : V) (rows : List (List Nat)) : Prop := ∃ a vs, v = .ref a ∧ (SqL K H a vs ∨ SqT K H a vs) ∧ Paired (fun r v => RowA K H v r) rows vs
def spLi0 : Sp := fun vs H Q _ => ∃ i : Int, vs = [.int i] ∧ Q (.int i) H
def spLi1 (K : PySem.W.Frag) : Sp := fun vs H Q _ => ∃ (v : V) (r : List Nat), vs = [v] ∧ RowT K H v r ∧ r.length ≤ 100 ∧ ∀ p H', Same H H' → H p = none → H' p = some (.lst (rI r)) → Q (.ref p) H'
def spLi2 (K : PySem.W.Frag) : Sp := fun vs H Q _ => ∃ (v : V) (rows : List (List Nat)), vs = [v] ∧ RowsT K H v rows ∧ rows.length ≤ 100 ∧ (∀ r ∈ rows, r.length ≤ 100) ∧ ∀ p H', Same H H' → H p = none → RowsA K H' (.ref p) rows → Q (.ref p) H'
theorem sc__law_listed : FnScope ["_law_thing", "_law_part"] ["_law_thing"] (defScope s__law_listed) := ⟨rfl, rfl, rfl, by decide +kernel, rfl, by decide +kernel, by decide +kernel⟩
theorem ok__law_listed_none (T : Tx K mg) : C1 P w K mg base CX0 1 "_law_listed" ["_law_thing"] spNo := by
  obtain ⟨fd, F⟩ := d__law_listed T
  exact .mk1 F (g__law_listed T) (fun _ _ _ _ _ _ us hl => match us, hl with | [_], _ => rfl) sc__law_listed (fun vs H Q E h => h.elim) (fun cdv A outer s H vs Q E hr h => h.elim)
theorem ok__law_listed_0 (T : Tx K mg) : C1 P w K mg base CX0 2 "_law_listed" ["_law_thing"] spLi0 := by
  obtain ⟨fd, F⟩ := d__law_listed T
  refine .mk1 F (g__law_listed T) (fun _ _ _ _ _ _ us hl => match us, hl with | [_], _ => rfl) sc__law_listed (fun vs H Q E h => ?_) (fun cdv A outer s H vs Q E hr h => ?_)
  · obtain ⟨i, rfl, k⟩ := h
    rfl
  obtain ⟨i, rfl, k⟩ := h
  have hu := hu_of hr
  have hu64 := hu64_of hr
  have hu6 := hu64' hr
  refine ⟨_, (pss_cons (ps_if (pw_or (pt_val (pe_callB (call_isiK K (by rfl)) (by rfl) (f_isinstance T) (by decide +kernel) (pa_cons (pv 0) (pa_cons (pe_bltn (v := .ty "tuple") (by rfl) (f_tuple T) (by decide +kernel) rfl) pa_nil)))) (pw_or1 (pt_val (pe_callB (call_isiK K (by rfl)) (by rfl) (f_isinstance T) (by decide +kernel) (pa_cons (pv 0) (pa_cons (pe_bltn (v := .ty "list") (by rfl) (f_list T) (by decide +kernel) rfl) pa_nil)))))).pt (pss_one (ps_ret (pe_lc (own := [("_law_part", 1)]) (g := gName 1) (by rfl) sc__law_listed.nd (pi_anyK K (by rfl) (pv 0)) (blkOk_by (own := [("_law_part", 1)]) (by kernel_rfl)) (fun _ _ _ _ _ => pg_name (i := 1) sc__law_listed.nd rfl (Or.inl rfl)) (fun _ _ _ _ _ => pts_nil) (fun _ _ _ _ _ => (pe_c1 (ok__law_listed_none T) (hr.mono (by decide)) (by rfl) (pa_cons (pv 1) pa_nil)))))) pss_nil)
      (pss_one (ps_ret (pv 0)))), ?_⟩
  walk_at "go"
  refine r_isi (tyx_i _) (b := false) (by decide +kernel) ?_
  walk_at "go"
  refine r_isi (tyx_i _) (b := false) (by decide +kernel) ?_
  walk_at "go"
  exact k
theorem ok__law_listed_1 (T : Tx K mg) : C1 P w K mg base CX0 3 "_law_listed" ["_law_thing"] (spLi1 K) := by
  obtain ⟨fd, F⟩ := d__law_listed T
  refine .mk1 F (g__law_listed T) (fun _ _ _ _ _ _ us hl => match us, hl with | [_], _ => rfl) sc__law_listed (fun vs H Q E h => ?_) (fun cdv A outer s H vs Q E hr h => ?_)
  · obtain ⟨v, r, rfl, ⟨a, rfl, hr'⟩, hz, k⟩ := h
    rfl
  obtain ⟨v, r, rfl, ⟨a, rfl, hr'⟩, hz, k⟩ := h
  have hu := hu_of hr
  have hu64 := hu64_of hr
  have hu6 := hu64' hr
  refine ⟨_, (pss_cons (ps_if (pw_or (pt_val (pe_callB (call_isiK K (by rfl)) (by rfl) (f_isinstance T) (by decide +kernel) (pa_cons (pv 0) (pa_cons (pe_bltn (v := .ty "tuple") (by rfl) (f_tuple T) (by decide +kernel) rfl) pa_nil)))) (pw_or1 (pt_val (pe_callB (call_isiK K (by rfl)) (by rfl) (f_isinstance T) (by decide +kernel) (pa_cons (pv 0) (pa_cons (pe_bltn (v := .ty "list") (by rfl) (f_list T) (by decide +kernel) rfl) pa_nil)))))).pt (pss_one (ps_ret (pe_lc (own := [("_law_part", 1)]) (g := gName 1) (by rfl) sc__law_listed.nd (pi_anyK K (by rfl) (pv 0)) (blkOk_by (own := [("_law_part", 1)]) (by kernel_rfl)) (fun _ _ _ _ _ => pg_name (i := 1) sc__law_listed.nd rfl (Or.inl rfl)) (fun _ _ _ _ _ => pts_nil) (fun _ _ _ _ _ => (pe_c1 (ok__law_listed_0 T) (hr.mono (by decide)) (by rfl) (pa_cons (pv 1) pa_nil)))))) pss_nil)
      (pss_one (ps_ret (pv 0)))), ?_⟩
  walk_at "go"
  refine r_isi (tyx_T hr') (b := true) (by decide +kernel) ?_
  walk_at "go"
  refine r_iAny ?_
  walk_at "go"
  refine ⟨a, rfl, .inr ⟨⟨_, hr'⟩, fun D hD => ?_⟩⟩
  refine lcg_T (xs := rI r) (fun x => x) (by rw [rI_len]; omega) hD hr' ?_ ?_
  · intro m x H1 hx s1 Q1 k1
    obtain ⟨u, hu, rfl⟩ := nat_of_mem (List.mem_of_getElem? hx)
    walk_at "go"
    exact ⟨_, rfl, k1 _ (Same.refl _)⟩
  · intro H1 s1 hL
    rw [List.map_id'] at hL
    exact k D H1 s1 hD hL
theorem ok__law_listed_2 (T : Tx K mg) : C1 P w K mg base CX0 4 "_law_listed" ["_law_thing"] (spLi2 K) := by
  obtain ⟨fd, F⟩ := d__law_listed T
  refine .mk1 F (g__law_listed T) (fun _ _ _ _ _ _ us hl => match us, hl with | [_], _ => rfl) sc__law_listed (fun vs H Q E h => ?_) (fun cdv A outer s H vs Q E hr h => ?_)
  · obtain ⟨v, rows, rfl, ⟨a, rvs, rfl, ha, pr⟩, hz, hz2, k⟩ := h
    rfl
  obtain ⟨v, rows, rfl, ⟨a, rvs, rfl, ha, pr⟩, hz, hz2, k⟩ := h
  have hu := hu_of hr
  have hu64 := hu64_of hr
  have hu6 := hu64' hr
  refine ⟨_, (pss_cons (ps_if (pw_or (pt_val (pe_callB (call_isiK K (by rfl)) (by rfl) (f_isinstance T) (by decide +kernel) (pa_cons (pv 0) (pa_cons (pe_bltn (v := .ty "tuple") (by rfl) (f_tuple T) (by decide +kernel) rfl) pa_nil)))) (pw_or1 (pt_val (pe_callB (call_isiK K (by rfl)) (by rfl) (f_isinstance T) (by decide +kernel) (pa_cons (pv 0) (pa_cons (pe_bltn (v := .ty "list") (by rfl) (f_list T) (by decide +kernel) rfl) pa_nil)))))).pt (pss_one (ps_ret (pe_lc (own := [("_law_part", 1)]) (g := gName 1) (by rfl) sc__law_listed.nd (pi_anyK K (by rfl) (pv 0)) (blkOk_by (own := [("_law_part", 1)]) (by kernel_rfl)) (fun _ _ _ _ _ => pg_name (i := 1) sc__law_listed.nd rfl (Or.inl rfl)) (fun _ _ _ _ _ => pts_nil) (fun _ _ _ _ _ => (pe_c1 (ok__law_listed_1 T) (hr.mono (by decide)) (by rfl) (pa_cons (pv 1) pa_nil)))))) pss_nil)
      (pss_one (ps_ret (pv 0)))), ?_⟩
  walk_at "go"
  refine r_isi (tyx_T ha) (b := true) (by decide +kernel) ?_
  walk_at "go"
  refine r_iAny ?_
  walk_at "go"
  refine ⟨a, rfl, .inr ⟨⟨_, ha⟩, fun D hD => ?_⟩⟩
  refine lcg_prs (rs := rows) (xs := rvs) (Paired.length pr) (by rw [← Paired.length pr]; omega) hD L2.walk_tup (fun H s => sqT_same s ha) (fun r y H1 => ∃ q, y = .ref q ∧ H1 q = some (.lst (rI r)) ∧ q ≠ D) ?_ ?_ ?_ ?_
  · rintro x y H1 H2 s ⟨q, h2, h3, h4⟩
    exact ⟨q, h2, s _ _ h3, h4⟩
  · intro m r x H1 hr' hx s1 ⟨acc, hacc⟩ Q1 k1
    obtain ⟨r', h1, h2⟩ := paired_get' pr hx
    rw [hr'] at h1
    cases h1
    walk_at "go"
    refine ⟨x, r, rfl, h2.kp (same_kp s1), hz2 r (List.mem_of_getElem? hr'), fun p H2 s2 hp hp2 => k1 _ _ s2 ⟨p, rfl, hp2, fun z => ?_⟩⟩
    rw [z, hacc] at hp
    cases hp
  · intro ys H1 s1 hL py
    exact k D H1 s1 hD ⟨D, ys, rfl, .inl (SqL.of hL), Paired.mapP py fun r y ⟨q, h2, h3, h4⟩ => ⟨q, h2, .inl (SqL.of h3)⟩⟩
  · rintro x y H1 o ⟨q, h2, h3, h4⟩ hL o'
    exact ⟨q, h2, by rw [upd_ne h4]; exact h3, h4⟩
theorem ok__law_listed (T : Tx K mg) : C1 P w K mg base CX0 4 "_law_listed" ["_law_thing"] (spLi2 K) := ok__law_listed_2 T
/-- a context: a tuple of two papers -/
def CtxT (H : Hp) (v : V) (a t : List Nat) : Prop := ∃ p, v = .ref p ∧ H p = some (.tup [.str (S a), .str (S t)])
theorem CtxT.same {H H' : Hp} {v : V} {a t : List Nat} (h : CtxT H v a t) (e : Same H H') : CtxT H' v a t := let ⟨p, h1, h2⟩ := h; ⟨p, h1, e _ _ h2⟩
def spNl0 : Sp := fun vs H Q _ => ∃ z : Str, vs = [.str z] ∧ Q (.bl true) H
def spNl1 : Sp := fun vs H Q _ => ∃ (v : V) (a t : List Nat), vs = [v] ∧ CtxT H v a t ∧ ∀ H', Same H H' → Q (.bl true) H'
theorem sc__law_no_list : FnScope ["_law_thing", "_law_part"] ["_law_thing"] (defScope s__law_no_list) := ⟨rfl, rfl, rfl, by decide +kernel, rfl, by decide +kernel, by decide +kernel⟩
theorem ok__law_no_list_none (T : Tx K mg) : C1 P w K mg base CX0 1 "_law_no_list" ["_law_thing"] spNo := by
  obtain ⟨fd, F⟩ := d__law_no_list T
  exact .mk1 F (g__law_no_list T) (fun _ _ _ _ _ _ us hl => match us, hl with | [_], _ => rfl) sc__law_no_list (fun vs H Q E h => h.elim) (fun cdv A outer s H vs Q E hr h => h.elim)
theorem ok__law_no_list_0 (T : Tx K mg) : C1 P w K mg base CX0 2 "_law_no_list" ["_law_thing"] spNl0 := by
  obtain ⟨fd, F⟩ := d__law_no_list T
  refine .mk1 F (g__law_no_list T) (fun _ _ _ _ _ _ us hl => match us, hl with | [_], _ => rfl) sc__law_no_list (fun vs H Q E h => ?_) (fun cdv A outer s H vs Q E hr h => ?_)
  · obtain ⟨z, rfl, k⟩ := h
    rfl
  obtain ⟨z, rfl, k⟩ := h
  have hu := hu_of hr
  have hu64 := hu64_of hr
  have hu6 := hu64' hr
  refine ⟨_, (pss_cons (ps_if (pt_val (pe_callB (call_isiK K (by rfl)) (by rfl) (f_isinstance T) (by decide +kernel) (pa_cons (pv 0) (pa_cons (pe_bltn (v := .ty "tuple") (by rfl) (f_tuple T) (by decide +kernel) rfl) pa_nil)))) (pss_one (ps_ret (pe_callB (cr_allK K (by rfl) rfl) (by rfl) (f_all T) (by decide +kernel) (pa_cons (pe_lc (own := [("_law_part", 1)]) (g := gName 1) (by rfl) sc__law_no_list.nd (pi_anyK K (by rfl) (pv 0)) (blkOk_by (own := [("_law_part", 1)]) (by kernel_rfl)) (fun _ _ _ _ _ => pg_name (i := 1) sc__law_no_list.nd rfl (Or.inl rfl)) (fun _ _ _ _ _ => pts_nil) (fun _ _ _ _ _ => (pe_c1 (ok__law_no_list_none T) (hr.mono (by decide)) (by rfl) (pa_cons (pv 1) pa_nil)))) pa_nil)))) pss_nil)
      (pss_one (ps_ret (pe_and (pe_not (pe_callB (call_isiK K (by rfl)) (by rfl) (f_isinstance T) (by decide +kernel) (pa_cons (pv 0) (pa_cons (pe_bltn (v := .ty "list") (by rfl) (f_list T) (by decide +kernel) rfl) pa_nil)))) (pe_one (pe_not (pe_callB (call_isiK K (by rfl)) (by rfl) (f_isinstance T) (by decide +kernel) (pa_cons (pv 0) (pa_cons (pe_bltn (v := .ty "bool") (by rfl) (f_bool T) (by decide +kernel) rfl) pa_nil))))))))), ?_⟩
  walk_at "go"
  refine r_isi (tyx_s _) (b := false) (by decide +kernel) ?_
  walk_at "go"
  refine r_isi (tyx_s _) (b := false) (by decide +kernel) ?_
  walk_at "go"
  refine r_isi (tyx_s _) (b := false) (by decide +kernel) ?_
  walk_at "go"
  exact k
theorem ok__law_no_list_1 (T : Tx K mg) : C1 P w K mg base CX0 3 "_law_no_list" ["_law_thing"] spNl1 := by
  obtain ⟨fd, F⟩ := d__law_no_list T
  refine .mk1 F (g__law_no_list T) (fun _ _ _ _ _ _ us hl => match us, hl with | [_], _ => rfl) sc__law_no_list (fun vs H Q E h => ?_) (fun cdv A outer s H vs Q E hr h => ?_)
  · obtain ⟨v, a, t, rfl, ⟨p, rfl, hp⟩, k⟩ := h
    rfl
  obtain ⟨v, a, t, rfl, ⟨p, rfl, hp⟩, k⟩ := h
  have hu := hu_of hr
  have hu64 := hu64_of hr
  have hu6 := hu64' hr
  refine ⟨_, (pss_cons (ps_if (pt_val (pe_callB (call_isiK K (by rfl)) (by rfl) (f_isinstance T) (by decide +kernel) (pa_cons (pv 0) (pa_cons (pe_bltn (v := .ty "tuple") (by rfl) (f_tuple T) (by decide +kernel) rfl) pa_nil)))) (pss_one (ps_ret (pe_callB (cr_allK K (by rfl) rfl) (by rfl) (f_all T) (by decide +kernel) (pa_cons (pe_lc (own := [("_law_part", 1)]) (g := gName 1) (by rfl) sc__law_no_list.nd (pi_anyK K (by rfl) (pv 0)) (blkOk_by (own := [("_law_part", 1)]) (by kernel_rfl)) (fun _ _ _ _ _ => pg_name (i := 1) sc__law_no_list.nd rfl (Or.inl rfl)) (fun _ _ _ _ _ => pts_nil) (fun _ _ _ _ _ => (pe_c1 (ok__law_no_list_0 T) (hr.mono (by decide)) (by rfl) (pa_cons (pv 1) pa_nil)))) pa_nil)))) pss_nil)
      (pss_one (ps_ret (pe_and (pe_not (pe_callB (call_isiK K (by rfl)) (by rfl) (f_isinstance T) (by decide +kernel) (pa_cons (pv 0) (pa_cons (pe_bltn (v := .ty "list") (by rfl) (f_list T) (by decide +kernel) rfl) pa_nil)))) (pe_one (pe_not (pe_callB (call_isiK K (by rfl)) (by rfl) (f_isinstance T) (by decide +kernel) (pa_cons (pv 0) (pa_cons (pe_bltn (v := .ty "bool") (by rfl) (f_bool T) (by decide +kernel) rfl) pa_nil))))))))), ?_⟩
  walk_at "go"
  refine r_isi (tyx_T (SqT.of hp)) (b := true) (by decide +kernel) ?_
  walk_at "go"
  refine r_iAny ?_
  walk_at "go"
  refine ⟨p, rfl, .inr ⟨⟨_, SqT.of hp⟩, fun D hD => ?_⟩⟩
  refine lcg_T (xs := [.str (S a), .str (S t)]) (fun x => .bl true) (by simp) hD (SqT.of hp) ?_ ?_
  · intro m x H1 hx s1 Q1 k1
    have : ∃ z, x = .str z := by
      rcases m with _ | _ | m
      · exact ⟨_, (Option.some.inj hx).symm⟩
      · exact ⟨_, (Option.some.inj hx).symm⟩
      · simp at hx
    obtain ⟨z, rfl⟩ := this
    walk_at "go"
    exact ⟨_, rfl, k1 _ (Same.refl _)⟩
  · intro H1 s1 hL
    walk_at "go"
    exact ⟨D, [true, true], rfl, SqL.of hL, k H1 s1⟩
theorem ok__law_no_list (T : Tx K mg) : C1 P w K mg base CX0 3 "_law_no_list" ["_law_thing"] spNl1 := ok__law_no_list_1 T
def spSameT : Sp := fun vs H Q _ => ∃ (u v : V) (a t : List Nat), vs = [u, v] ∧ CtxT H u a t ∧ CtxT H v a t ∧ (∀ c ∈ a, c ≤ 127) ∧ (∀ c ∈ t, c ≤ 127) ∧ ∀ H', Same H H' → Q (.bl true) H'
theorem shp_ctx {a t : List Nat} (ha : ∀ c ∈ a, c ≤ 127) (ht : ∀ c ∈ t, c ≤ 127) : SeqAt.shaped (.tuple [.str (S a), .str (S t)]) = true := by
  have h : ∀ l : List Nat, (∀ c ∈ l, c ≤ 127) → PyData.strOk (S l) = true := fun l hl => by
    unfold PyData.strOk
    rw [Array.all_eq_true]
    intro i hi
    have hm : (S l).cps[i] ∈ (S l).cps.toList := Array.getElem_mem_toList hi
    rw [S_list] at hm
    have := hl _ hm
    exact decide_eq_true (by omega)
  simp [SeqAt.shaped, PyData.canLay0, PyData.canLayAll0, PyData.depth, PyData.depthAll, h a ha, h t ht]
theorem sc__law_same_tuple : FnScope ["_law_told", "_law_wanted"] ["_law_told", "_law_wanted"] (defScope s__law_same_tuple) := ⟨rfl, rfl, rfl, by decide +kernel, rfl, by decide +kernel, by decide +kernel⟩
theorem ok__law_same_tuple (T : Tx K mg) : C1 P w K mg base CX0 4 "_law_same_tuple" ["_law_told", "_law_wanted"] spSameT := by
  obtain ⟨fd, F⟩ := d__law_same_tuple T
  refine .mk1 F (g__law_same_tuple T) (fun _ _ _ _ _ _ us hl => match us, hl with | [_, _], _ => rfl) sc__law_same_tuple (fun vs H Q E h => ?_) (fun cdv A outer s H vs Q E hr h => ?_)
  · obtain ⟨u, v, a, t, rfl, ⟨p, rfl, hp⟩, ⟨q, rfl, hq⟩, ha, ht, k⟩ := h
    rfl
  obtain ⟨u, v, a, t, rfl, ⟨p, rfl, hp⟩, ⟨q, rfl, hq⟩, ha, ht, k⟩ := h
  have hu := hu_of hr
  have hu64 := hu64_of hr
  have hu6 := hu64' hr
  refine ⟨_, (pss_one (ps_ret (pe_and (pe_callB (call_isiK K (by rfl)) (by rfl) (f_isinstance T) (by decide +kernel) (pa_cons (pv 0) (pa_cons (pe_bltn (v := .ty "tuple") (by rfl) (f_tuple T) (by decide +kernel) rfl) pa_nil))) (pe_and (pe_cmpR (op_eqDK K (by rfl) hu6) (pv 0) (pv 1) (nomark _)) (pe_one (pe_c1 (ok__law_no_list T) (hr.mono (by decide)) (by rfl) (pa_cons (pv 0) pa_nil))))))), ?_⟩
  walk_at "go"
  refine r_isi (tyx_T (SqT.of hp)) (b := true) (by decide +kernel) ?_
  walk_at "go"
  refine ⟨.tuple [.str (S a), .str (S t)], .tuple [.str (S a), .str (S t)], .tup (SqT.of hp) (.cons (.str _) (.cons (.str _) .nil)), .tup (SqT.of hq) (.cons (.str _) (.cons (.str _) .nil)), ?_, ?_, ?_⟩
  · exact shp_ctx ha ht
  · exact shp_ctx ha ht
  rw [SeqAt.eqv_refl _ (SeqAt.canLay_of_shaped (shp_ctx ha ht))]
  walk_at "go"
  exact ⟨_, a, t, rfl, ⟨p, rfl, hp⟩, k⟩
end

end K18
end
section
set_option maxRecDepth 100000
set_option maxHeartbeats 4000000
local macro_rules | `(tactic| walk_at "go1") => `(tactic| first
  | (with_reducible refine K18.r_seq ?_) | (with_reducible refine K18.r_ifs ?_) | (with_reducible refine K18.r_ret ?_) | (with_reducible refine K18.r_asg ?_) | (with_reducible refine K18.r_drop ?_) | (with_reducible refine K18.r_next ?_)
  | (with_reducible refine K18.r_name ?_) | (with_reducible refine K18.r_var rfl ?_) | (with_reducible refine K18.r_c ?_) | (with_reducible refine K18.r_op ?_) | (with_reducible refine K18.r_cons ?_) | (with_reducible refine K18.r_nil ?_)
  | (with_reducible refine K18.r_cb ?_) | (with_reducible refine K18.r_call ?_) | (with_reducible refine K18.r_make ?_) | (with_reducible refine K18.r_B ?_) | (with_reducible refine K18.r_test ?_) | (with_reducible refine K18.r_or ?_) | (with_reducible refine K18.r_and ?_) | (with_reducible refine K18.r_not ?_)
  | (with_reducible refine K18.r_andV ?_) | (with_reducible refine K18.r_orV ?_) | (with_reducible refine K18.r_notV ?_) | (with_reducible refine K18.r_if ?_) | (with_reducible refine K18.r_aug rfl ?_) | (with_reducible refine K18.r_ip ?_)
  | (with_reducible refine K18.r_I0 ?_) | (with_reducible refine K18.r_int1 ?_) | (with_reducible refine K18.r_mod (by first | decide | omega) ?_) | (with_reducible refine K18.r_fdivN (by first | decide | omega) (by first | decide | omega) ?_) | (with_reducible refine K18.r_mulR (by first | decide | omega) (by first | decide | omega) ?_) | (with_reducible refine K18.r_mulL (by first | decide | omega) (by first | decide | omega) ?_) | (with_reducible refine K18.r_inG ?_) | (with_reducible refine K18.r_notInG ?_) | (with_reducible refine K18.r_ltS ?_) | (with_reducible refine K18.r_ex ?_) | (with_reducible refine K18.r_eqI ?_) | (with_reducible refine K18.r_neI ?_) | (with_reducible refine K18.r_eqB ?_) | (with_reducible refine K18.r_neB ?_) | (with_reducible refine K18.r_isN ?_)
  | (with_reducible refine K18.r_tup ?_) | (with_reducible refine K18.r_lst ?_) | (with_reducible refine K18.r_yes ?_) | (with_reducible refine K18.r_gsub ?_) | (with_reducible refine K18.r_dget ?_) | (with_reducible refine K18.r_sl ?_) | (with_reducible refine K18.r_part ?_) | (with_reducible refine K18.r_nopart ?_)
  | (with_reducible refine K18.r_chain ?_) | (with_reducible refine K18.r_bm ?_) | (with_reducible refine K18.iteT ?_) | (with_reducible refine K18.iteF ?_) | (with_reducible refine K18.iteNT ?_) | (with_reducible refine K18.iteNF ?_)
  | (with_reducible refine K18.r_for ?_) | (with_reducible refine K18.r_while ?_) | (with_reducible refine K18.r_lc ?_) | (with_reducible refine K18.r_iR1 ?_) | (with_reducible refine K18.r_iR2 ?_) | (with_reducible refine K18.r_iL ?_) | (with_reducible refine K18.r_iT ?_) | (with_reducible refine K18.r_iS ?_)
  | dsimp only [L2.start, List.map, List.replicate, List.length, List.cons_append, List.nil_append, List.append_nil, Nat.reduceAdd, Nat.reduceSub, List.set])
local macro_rules | `(tactic| walk_at "go") => `(tactic| repeat walk_at "go1")
namespace K18
open PySem PySem.Spec PyProof.Rows L2
section
variable {P : Program} {w : World} {K : PySem.W.Frag} {mg : Str → Option Value} {base : Heap}
def spTwoP (K : PySem.W.Frag) : Sp := fun vs H Q _ => ∃ (a : Addr) (sg : List Nat) (v : V) (n : Nat) (rows : List (List Nat)), vs = [.ref a, .str (S sg), v] ∧ Bag H a ∧ 2 ≤ sg.length ∧ sg.length ≤ 3 ∧ RowsT K H v rows ∧ Tab sg.length n rows ∧ n ≤ 16 ∧
  ∀ p l1 l2 H', Drew a H H' → H p = none → TwoP H' p sg l1 l2 → Q (.ref p) H'
theorem Pap.rev {sg l : List Nat} (h : Pap sg l) : Pap sg l.reverse := fun c hc => h c (List.mem_reverse.mp hc)
theorem rev_S (l : List Nat) : (⟨(S l).cps.toList.reverse.toArray⟩ : Str) = S l.reverse := by rw [S_list]; rfl
theorem sc__law_two_papers : FnScope ["_law_bag", "_law_signs", "_law_rows", "_law_way", "_law_one"] ["_law_bag", "_law_signs", "_law_rows"] (defScope s__law_two_papers) := ⟨rfl, rfl, rfl, by decide +kernel, rfl, by decide +kernel, by decide +kernel⟩
theorem ok__law_two_papers (T : Tx K mg) : C1 P w K mg base CX0 4 "_law_two_papers" ["_law_bag", "_law_signs", "_law_rows"] (spTwoP K) := by
  obtain ⟨fd, F⟩ := d__law_two_papers T
  refine .mk1 F (g__law_two_papers T) (fun _ _ _ _ _ _ us hl => match us, hl with | [_, _, _], _ => rfl) sc__law_two_papers (fun vs H Q E h => ?_) (fun cdv A outer s H vs Q E hr h => ?_)
  · obtain ⟨a, sg, v, n, rows, rfl, B, h2, h3, R, Tb, hn, k⟩ := h
    rfl
  obtain ⟨a, sg, v, n, rows, rfl, B, h2, h3, R, Tb, hn, k⟩ := h
  have hu := hu_of hr
  have hu64 := hu64_of hr
  have hu6 := hu64' hr
  refine ⟨_, (pss_cons (ps_set (i := 3) sc__law_two_papers.nd rfl (Or.inl rfl) (pe_c1 (ok__law_pick T) (hr.mono (by decide)) (by rfl) (pa_cons (pv 0) (pa_cons pe_int pa_nil))))
      (pss_cons (ps_if (pt_cmpR op_lt (pv 3) pe_int (nomark _)) (pss_one (ps_ret (pe_c1 (ok__law_alike_papers T) (hr.mono (by decide)) (by rfl) (pa_cons (pv 0) (pa_cons (pv 1) (pa_cons (pv 2) (pa_cons (pe_cmpR op_eq (pv 3) pe_int (nomark _)) pa_nil))))))) pss_nil)
      (pss_cons (ps_if (pt_cmpR op_eq (pv 3) pe_int (nomark _)) (pss_one (ps_ret (pe_lst (pa_cons (pe_c1 (ok__law_paper_of T) (hr.mono (by decide)) (by rfl) (pa_cons (pv 0) (pa_cons (pv 1) (pa_cons pe_int pa_nil)))) (pa_cons (pe_c1 (ok__law_paper_of T) (hr.mono (by decide)) (by rfl) (pa_cons (pv 0) (pa_cons (pv 1) (pa_cons pe_int pa_nil)))) pa_nil))))) pss_nil)
      (pss_cons (ps_if (pt_cmpR op_eq (pv 3) pe_int (nomark _)) (pss_cons (ps_set (i := 4) sc__law_two_papers.nd rfl (Or.inl rfl) (pe_c1 (ok__law_paper_of T) (hr.mono (by decide)) (by rfl) (pa_cons (pv 0) (pa_cons (pv 1) (pa_cons pe_int pa_nil)))))
      (pss_one (ps_ret (pe_lst (pa_cons (pv 4) (pa_cons (pe_revS (pv 4)) pa_nil)))))) pss_nil)
      (pss_cons (ps_if (pt_cmpR op_lt (pv 3) pe_int (nomark _)) (pss_one (ps_ret (pe_lst (pa_cons (pe_c1 (ok__law_one_of T) (hr.mono (by decide)) (by rfl) (pa_cons (pv 0) (pa_cons (pv 1) pa_nil))) (pa_cons (pe_c1 (ok__law_one_of T) (hr.mono (by decide)) (by rfl) (pa_cons (pv 0) (pa_cons (pv 1) pa_nil))) pa_nil))))) pss_nil)
      (pss_one (ps_ret (pe_lst (pa_cons (pe_c1 (ok__law_paper_of T) (hr.mono (by decide)) (by rfl) (pa_cons (pv 0) (pa_cons (pv 1) (pa_cons pe_int pa_nil)))) (pa_cons (pe_c1 (ok__law_paper_of T) (hr.mono (by decide)) (by rfl) (pa_cons (pv 0) (pa_cons (pv 1) (pa_cons pe_int pa_nil)))) pa_nil)))))))))), ?_⟩
  walk_at "go"
  refine ⟨a, 10, rfl, B, by omega, by omega, fun r H1 hr1 d1 => ?_⟩
  walk_at "go"
  have fin : ∀ (l1 l2 : List Nat) (H' : Hp), Drew a H H' → Pap sg l1 → Pap sg l2 → l1.length ≤ 60 → l2.length ≤ 60 → ∀ p, H' p = none → Q (.ref p) (upd H' p (.lst [.str (S l1), .str (S l2)])) := fun l1 l2 H' d p1 p2 n1 n2 p hp =>
    k p l1 l2 _ (d.new B hp) (d.1.free (d.2.ne hp) hp) ⟨upd_same, p1, p2, n1, n2⟩
  refine iteD (fun h => ?_) (fun h => ?_)
  · walk_at "go"
    refine ⟨a, sg, v, _, n, rows, rfl, d1.2, h2, h3, R.kp (d1.kp B), Tb, hn, fun p l1 l2 H' d2 hp tp => ?_⟩
    have pa : p ≠ a := d1.2.ne hp
    exact k p l1 l2 H' (d1.trans d2) (d1.1.free pa hp) tp
  walk_at "go"
  refine iteD (fun h => ?_) (fun h => ?_)
  · walk_at "go"
    refine ⟨a, sg, 60, rfl, d1.2, by omega, by omega, by omega, fun l1 H2 n1 p1 d2 => ?_⟩
    walk_at "go"
    refine ⟨a, sg, 60, rfl, d2.2, by omega, by omega, by omega, fun l2 H3 n2 p2 d3 => ?_⟩
    walk_at "go"
    exact ⟨by simp [sizeLine], fin l1 l2 _ ((d1.trans d2).trans d3) p1 p2 n1 n2⟩
  walk_at "go"
  refine iteD (fun h => ?_) (fun h => ?_)
  · walk_at "go"
    refine ⟨a, sg, 4, rfl, d1.2, by omega, by omega, by omega, fun l1 H2 n1 p1 d2 => ?_⟩
    walk_at "go"
    refine r_revS ?_
    walk_at "go"
    refine ⟨_, rfl, by rw [S_len]; exact sl100 (by omega), ?_⟩
    rw [rev_S]
    walk_at "go"
    exact ⟨by simp [sizeLine], fin l1 l1.reverse _ (d1.trans d2) p1 p1.rev (by omega) (by simp; omega)⟩
  walk_at "go"
  refine iteD (fun h => ?_) (fun h => ?_)
  · walk_at "go"
    refine ⟨a, _, rfl, d1.2, .inl ⟨sg, rfl, by omega, by omega, fun c H2 hc d2 => ?_⟩⟩
    walk_at "go"
    refine ⟨a, _, rfl, d2.2, .inl ⟨sg, rfl, by omega, by omega, fun c2 H3 hc2 d3 => ?_⟩⟩
    walk_at "go"
    exact ⟨by simp [sizeLine], fin [c] [c2] _ ((d1.trans d2).trans d3) (Pap.one hc) (Pap.one hc2) (by simp) (by simp)⟩
  walk_at "go"
  refine ⟨a, sg, 4, rfl, d1.2, by omega, by omega, by omega, fun l1 H2 n1 p1 d2 => ?_⟩
  walk_at "go"
  refine ⟨a, sg, 4, rfl, d2.2, by omega, by omega, by omega, fun l2 H3 n2 p2 d3 => ?_⟩
  walk_at "go"
  exact ⟨by simp [sizeLine], fin l1 l2 _ ((d1.trans d2).trans d3) p1 p2 (by omega) (by omega)⟩
end

end K18
end
section
set_option maxRecDepth 100000
set_option maxHeartbeats 4000000
local macro_rules | `(tactic| walk_at "go1") => `(tactic| first
  | (with_reducible refine K18.r_seq ?_) | (with_reducible refine K18.r_ifs ?_) | (with_reducible refine K18.r_ret ?_) | (with_reducible refine K18.r_asg ?_) | (with_reducible refine K18.r_drop ?_) | (with_reducible refine K18.r_next ?_)
  | (with_reducible refine K18.r_name ?_) | (with_reducible refine K18.r_var rfl ?_) | (with_reducible refine K18.r_c ?_) | (with_reducible refine K18.r_op ?_) | (with_reducible refine K18.r_cons ?_) | (with_reducible refine K18.r_nil ?_)
  | (with_reducible refine K18.r_cb ?_) | (with_reducible refine K18.r_call ?_) | (with_reducible refine K18.r_make ?_) | (with_reducible refine K18.r_B ?_) | (with_reducible refine K18.r_test ?_) | (with_reducible refine K18.r_or ?_) | (with_reducible refine K18.r_and ?_) | (with_reducible refine K18.r_not ?_)
  | (with_reducible refine K18.r_andV ?_) | (with_reducible refine K18.r_orV ?_) | (with_reducible refine K18.r_notV ?_) | (with_reducible refine K18.r_if ?_) | (with_reducible refine K18.r_aug rfl ?_) | (with_reducible refine K18.r_ip ?_)
  | (with_reducible refine K18.r_I0 ?_) | (with_reducible refine K18.r_int1 ?_) | (with_reducible refine K18.r_mod (by first | decide | omega) ?_) | (with_reducible refine K18.r_fdivN (by first | decide | omega) (by first | decide | omega) ?_) | (with_reducible refine K18.r_mulR (by first | decide | omega) (by first | decide | omega) ?_) | (with_reducible refine K18.r_mulL (by first | decide | omega) (by first | decide | omega) ?_) | (with_reducible refine K18.r_inG ?_) | (with_reducible refine K18.r_notInG ?_) | (with_reducible refine K18.r_ltS ?_) | (with_reducible refine K18.r_ex ?_) | (with_reducible refine K18.r_eqI ?_) | (with_reducible refine K18.r_neI ?_) | (with_reducible refine K18.r_eqB ?_) | (with_reducible refine K18.r_neB ?_) | (with_reducible refine K18.r_isN ?_)
  | (with_reducible refine K18.r_tup ?_) | (with_reducible refine K18.r_lst ?_) | (with_reducible refine K18.r_yes ?_) | (with_reducible refine K18.r_gsub ?_) | (with_reducible refine K18.r_dget ?_) | (with_reducible refine K18.r_sl ?_) | (with_reducible refine K18.r_part ?_) | (with_reducible refine K18.r_nopart ?_)
  | (with_reducible refine K18.r_chain ?_) | (with_reducible refine K18.r_bm ?_) | (with_reducible refine K18.iteT ?_) | (with_reducible refine K18.iteF ?_) | (with_reducible refine K18.iteNT ?_) | (with_reducible refine K18.iteNF ?_)
  | (with_reducible refine K18.r_for ?_) | (with_reducible refine K18.r_while ?_) | (with_reducible refine K18.r_lc ?_) | (with_reducible refine K18.r_iR1 ?_) | (with_reducible refine K18.r_iR2 ?_) | (with_reducible refine K18.r_iL ?_) | (with_reducible refine K18.r_iT ?_) | (with_reducible refine K18.r_iS ?_)
  | dsimp only [L2.start, List.map, List.replicate, List.length, List.cons_append, List.nil_append, List.append_nil, Nat.reduceAdd, Nat.reduceSub, List.set])
local macro_rules | `(tactic| walk_at "go") => `(tactic| repeat walk_at "go1")
namespace K18
open PySem PySem.Spec PyProof.Rows L2
section
variable {σ : L2.St} {H : Hp} {Q : VK} {D : Ends} {td ty tv : TE}
theorem r_dnotin (h : ty σ H fun y H1 => td σ H1 fun x H2 => ∃ a o, x = .ref a ∧ DGet H2 a y o ∧ Q (.bl (!o.isSome)) H2) : tDNotIn ty td σ H Q := h
theorem r_din (h : ty σ H fun y H1 => td σ H1 fun x H2 => ∃ a o, x = .ref a ∧ DGet H2 a y o ∧ Q (.bl o.isSome) H2) : tDIn ty td σ H Q := h
theorem r_dput (h : tv σ H fun v H1 => td σ H1 fun x H2 => ty σ H2 fun y H3 => ∃ a H4, x = .ref a ∧ DPut H3 a y v H4 ∧ D.nx σ H4) : sDPut td ty tv D σ H := h
theorem r_dnewK (h : ∀ p, H p = none → Q (.ref p) (upd H p (.dK []))) : tDNewK σ H Q := h
theorem r_dnewT (h : ∀ p, H p = none → Q (.ref p) (upd H p (.dT []))) : tDNewT σ H Q := h
end
theorem r_gtup {K : PySem.W.Frag} {n : Nat} {tt : TGs} {a : Addr} {xs : List V} {σ : L2.St} {H : Hp} {Q : L2.St → Hp → Prop} (hs : SqT K H a xs) (hl : xs.length = n) (h : tt xs σ H Q) : gTup K n tt (.ref a) σ H Q := ⟨a, xs, rfl, hs, hl, h⟩
theorem r_gcons {g : TG} {u : TGs} {v : V} {r : List V} {σ : L2.St} {H : Hp} {Q : L2.St → Hp → Prop} (h : g v σ H fun σ' H' => u r σ' H' Q) : gCons g u (v :: r) σ H Q := ⟨v, r, rfl, h⟩
theorem r_gnil {σ : L2.St} {H : Hp} {Q : L2.St → Hp → Prop} (h : Q σ H) : gNil [] σ H Q := ⟨rfl, h⟩
local macro_rules | `(tactic| walk_at "go1") => `(tactic| first
  | (with_reducible refine K18.r_dnotin ?_) | (with_reducible refine K18.r_din ?_) | (with_reducible refine K18.r_dput ?_) | (with_reducible refine K18.r_dnewK ?_) | (with_reducible refine K18.r_dnewT ?_)
  | (with_reducible refine K18.r_gtup ?_) | (with_reducible refine K18.r_gcons ?_) | (with_reducible refine K18.r_gnil ?_) | (with_reducible refine K18.r_iAny ?_) | (with_reducible refine K18.r_lenZ (by first | assumption | omega) ?_))
/-! ### dicts by numbers, by pairs of numbers -/
def MapI (H : Hp) (a : Addr) (n : Nat) (m : Nat → Option V) : Prop := ∃ kvs : List (Key × V), H a = some (.dK kvs) ∧ kvs.length ≤ n ∧ ∀ z : Nat, valV kvs (.inl ((z : Nat) : Int)) = m z
def MapP (H : Hp) (a : Addr) (n : Nat) (m : Nat × Nat → Option V) : Prop := ∃ kvs : List (List Key × V), H a = some (.dT kvs) ∧ kvs.length ≤ n ∧ ∀ z : Nat × Nat, valV kvs [.inl ((z.1 : Nat) : Int), .inl ((z.2 : Nat) : Int)] = m z
theorem intkey {x y : Nat} : ((Sum.inl ((x : Nat) : Int) : Key) = Sum.inl ((y : Nat) : Int)) ↔ x = y := by
  constructor
  · intro e
    have := Sum.inl.inj e
    omega
  · intro e
    rw [e]
section
variable {H : Hp} {a : Addr} {n : Nat} {m : Nat → Option V} {z : Nat} {v : V}
theorem MapI.dget (M : MapI H a n m) (z : Nat) : DGet H a (.int ((z : Nat) : Int)) (m z) := by
  obtain ⟨kvs, h1, h2, h3⟩ := M
  rw [← h3 z]
  exact DGet.k (k := .inl ((z : Nat) : Int)) h1
theorem MapI.new {p : Addr} : MapI (upd H p (.dK [])) p 0 fun _ => none := ⟨[], upd_same, Nat.le_refl _, fun _ => rfl⟩
theorem MapI.same {H' : Hp} (M : MapI H a n m) (e : Same H H') : MapI H' a n m := let ⟨kvs, h1, h2⟩ := M; ⟨kvs, e _ _ h1, h2⟩
theorem MapI.sb {H' : Hp} {b : Addr} (M : MapI H a n m) (e : SB b H H') (ne : a ≠ b) : MapI H' a n m := let ⟨kvs, h1, h2⟩ := M; ⟨kvs, e _ _ ne h1, h2⟩
theorem MapI.upd {p : Addr} {o : HO} (M : MapI H a n m) (ne : a ≠ p) : MapI (upd H p o) a n m := let ⟨kvs, h1, h2⟩ := M; ⟨kvs, by rw [upd_ne ne]; exact h1, h2⟩
theorem MapI.put (M : MapI H a n m) (z : Nat) (v : V) (hn : n ≤ 1000) : ∃ H', DPut H a (.int ((z : Nat) : Int)) v H' ∧ MapI H' a (n + 1) (fun x => if x = z then some v else m x) ∧ (∃ o, H' = L2.upd H a o) := by
  obtain ⟨kvs, h1, h2, h3⟩ := M
  refine ⟨_, DPut.k (k := .inl ((z : Nat) : Int)) h1 (sl100' (by omega)), ⟨_, upd_same, Nat.le_trans (length_putK _ _ _) (by omega), fun x => ?_⟩, _, rfl⟩
  rw [valV_put, h3]
  show _ = if x = z then some v else m x
  by_cases e : x = z
  · rw [if_pos (intkey.mpr e), if_pos e]
  · rw [if_neg (fun q => e (intkey.mp q)), if_neg e]
theorem MapI.ext {m' : Nat → Option V} (M : MapI H a n m) (e : ∀ z, m z = m' z) : MapI H a n m' := let ⟨kvs, h1, h2, h3⟩ := M; ⟨kvs, h1, h2, fun z => (h3 z).trans (e z)⟩
end
section
variable {H : Hp} {a : Addr} {n : Nat} {m : Nat × Nat → Option V} {z : Nat × Nat} {v : V}
theorem pairkey {x y : Nat × Nat} : (([.inl ((x.1 : Nat) : Int), .inl ((x.2 : Nat) : Int)] : List Key) = [.inl ((y.1 : Nat) : Int), .inl ((y.2 : Nat) : Int)]) ↔ x = y := by
  constructor
  · intro e
    have h1 := intkey.mp (List.cons.inj e).1
    have h2 := intkey.mp (List.cons.inj (List.cons.inj e).2).1
    exact Prod.ext h1 h2
  · intro e
    rw [e]
/-- a tuple of two numbers -/
def PairT (H : Hp) (b : Addr) (z : Nat × Nat) : Prop := H b = some (.tup [.int ((z.1 : Nat) : Int), .int ((z.2 : Nat) : Int)])
theorem MapP.dget {b : Addr} (M : MapP H a n m) (h : PairT H b z) : DGet H a (.ref b) (m z) := by
  obtain ⟨kvs, h1, h2, h3⟩ := M
  rw [← h3 z]
  exact DGet.t (k := [.inl ((z.1 : Nat) : Int), .inl ((z.2 : Nat) : Int)]) h1 h
theorem MapP.new {p : Addr} : MapP (upd H p (.dT [])) p 0 fun _ => none := ⟨[], upd_same, Nat.le_refl _, fun _ => rfl⟩
theorem MapP.same {H' : Hp} (M : MapP H a n m) (e : Same H H') : MapP H' a n m := let ⟨kvs, h1, h2⟩ := M; ⟨kvs, e _ _ h1, h2⟩
theorem MapP.upd {p : Addr} {o : HO} (M : MapP H a n m) (ne : a ≠ p) : MapP (upd H p o) a n m := let ⟨kvs, h1, h2⟩ := M; ⟨kvs, by rw [upd_ne ne]; exact h1, h2⟩
theorem MapP.put {b : Addr} (M : MapP H a n m) (h : PairT H b z) (v : V) (hn : n ≤ 50000) : ∃ H', DPut H a (.ref b) v H' ∧ MapP H' a (n + 1) (fun x => if x = z then some v else m x) ∧ (∃ o, H' = L2.upd H a o) := by
  obtain ⟨kvs, h1, h2, h3⟩ := M
  refine ⟨_, DPut.t (k := [.inl ((z.1 : Nat) : Int), .inl ((z.2 : Nat) : Int)]) h1 h (sl100' (by omega)), ⟨_, upd_same, Nat.le_trans (length_putK _ _ _) (by omega), fun x => ?_⟩, _, rfl⟩
  rw [valV_put, h3]
  show _ = if x = z then some v else m x
  by_cases e : x = z
  · rw [if_pos (pairkey.mpr e), if_pos e]
  · rw [if_neg (fun q => e (pairkey.mp q)), if_neg e]
theorem MapP.ext {m' : Nat × Nat → Option V} (M : MapP H a n m) (e : ∀ z, m z = m' z) : MapP H a n m' := let ⟨kvs, h1, h2, h3⟩ := M; ⟨kvs, h1, h2, fun z => (h3 z).trans (e z)⟩
end
/-- what is seen -/
def seenM {α : Type} [DecidableEq α] (l : List α) : α → Option V := fun z => if z ∈ l then some (.bl true) else none
theorem seenM_none {α : Type} [DecidableEq α] {l : List α} {z : α} : (!(seenM l z).isSome) = true ↔ z ∉ l := by
  unfold seenM
  by_cases h : z ∈ l
  · rw [if_pos h]; simp [h]
  · rw [if_neg h]; simp [h]
theorem seenM_add {α : Type} [DecidableEq α] {l : List α} {z : α} (x : α) : (if x = z then some (.bl true) else seenM l x) = seenM (l ++ [z]) x := by
  unfold seenM
  by_cases h : x = z
  · subst h; simp
  · rw [if_neg h]
    by_cases g : x ∈ l
    · rw [if_pos g, if_pos (List.mem_append_left _ g)]
    · rw [if_neg g, if_neg (fun q => by
        rcases List.mem_append.mp q with q | q
        · exact g q
        · exact h (List.mem_singleton.mp q))]
/-- a word's paper -/
def cod (sg : List Nat) (w : Wd) : List Nat := w.map fun u => sg.getD u 0
theorem cod_len (sg : List Nat) (w : Wd) : (cod sg w).length = w.length := List.length_map _
theorem cod_snoc (sg : List Nat) (w : Wd) (u : Nat) : cod sg (w ++ [u]) = cod sg w ++ [sg.getD u 0] := by
  unfold cod
  rw [List.map_append]
  rfl
theorem cod_app (sg : List Nat) (w x : Wd) : cod sg (w ++ x) = cod sg w ++ cod sg x := List.map_append
/-- told things: a state and a paper -/
def Told (sg : List Nat) (H : Hp) (ys : List V) (told : List (Nat × Wd)) : Prop := Paired (fun p y => ∃ q, y = .ref q ∧ H q = some (.tup [.int ((p.1 : Nat) : Int), .str (S (cod sg p.2))])) told ys
/-- tuples stay -/
def Kt (H H' : Hp) : Prop := ∀ b xs, H b = some (.tup xs) → H' b = some (.tup xs)
theorem Kt.refl (H : Hp) : Kt H H := fun _ _ h => h
theorem Kt.trans {H H1 H2 : Hp} (a : Kt H H1) (b : Kt H1 H2) : Kt H H2 := fun c xs h => b c xs (a c xs h)
theorem same_kt {H H' : Hp} (e : Same H H') : Kt H H' := fun b xs h => e b _ h
theorem kt_upd {H : Hp} {a : Addr} {o : HO} (h : ∀ xs, H a ≠ some (.tup xs)) : Kt H (upd H a o) := fun b xs hb => by
  rw [upd_ne (fun z => h xs (by rw [← z]; exact hb))]
  exact hb
theorem kt_updL {H : Hp} {a : Addr} {o : HO} {xs : List V} (h : H a = some (.lst xs)) : Kt H (upd H a o) := kt_upd fun ys z => by rw [h] at z; cases z
theorem MapI.kt {H : Hp} {a : Addr} {n : Nat} {m : Nat → Option V} {o : HO} (M : MapI H a n m) : Kt H (L2.upd H a o) := kt_upd fun ys z => by
  obtain ⟨kvs, h, _⟩ := M
  rw [h] at z
  cases z
theorem MapP.kt {H : Hp} {a : Addr} {n : Nat} {m : Nat × Nat → Option V} {o : HO} (M : MapP H a n m) : Kt H (L2.upd H a o) := kt_upd fun ys z => by
  obtain ⟨kvs, h, _⟩ := M
  rw [h] at z
  cases z
theorem Told.kt {sg : List Nat} {H H' : Hp} {ys : List V} {told : List (Nat × Wd)} (h : Told sg H ys told) (e : Kt H H') : Told sg H' ys told := Paired.mapP h fun _ _ ⟨q, h1, h2⟩ => ⟨q, h1, e _ _ h2⟩
theorem Told.kp {sg : List Nat} {H H' : Hp} {ys : List V} {told : List (Nat × Wd)} (h : Told sg H ys told) (e : Kp H H') : Told sg H' ys told := Paired.mapP h fun _ _ ⟨q, h1, h2⟩ => ⟨q, h1, e _ _ (fun _ z => by cases z) h2⟩
theorem run_range {k n : Nat} {rows : List (List Nat)} (Tb : Tab k n rows) {z : Nat} (hz : z < n) : ∀ w, Ltk k w → run (stp rows) z w ∈ List.range n := fun _ hw => List.mem_range.mpr (Tb.run_lt hz hw)
theorem getS {sg : List Nat} {v : Nat} (h : v < sg.length) : sg.getD v 0 = sg[v] := by
  rw [List.getD_eq_getElem?_getD, List.getElem?_eq_getElem h]
  rfl
/-- words are no longer than their place -/
def ShortW {α : Type} (told : List (α × Wd)) : Prop := ∀ (j : Nat) (p : α × Wd), told[j]? = some p → p.2.length ≤ j
theorem ShortW.snoc {α : Type} {told : List (α × Wd)} (h : ShortW told) {i : Nat} {p : α × Wd} (hp : told[i]? = some p) (x : α) (v : Nat) : ShortW (told ++ [(x, p.2 ++ [v])]) := fun j q hq => by
  rcases Nat.lt_or_ge j told.length with g | g
  · rw [List.getElem?_append_left g] at hq
    exact h j q hq
  · rw [List.getElem?_append_right g] at hq
    have := h i p hp
    have hi := (List.getElem?_eq_some_iff.mp hp).1
    have h0 : j - told.length = 0 := by
      have := (List.getElem?_eq_some_iff.mp hq).1
      simp at this
      omega
    rw [h0] at hq
    cases (Option.some.inj hq : (x, p.2 ++ [v]) = q)
    simp
    omega
theorem ShortW.one {α : Type} (a : α) : ShortW [(a, ([] : Wd))] := fun j p hp => by
  have : j = 0 := by
    have := (List.getElem?_eq_some_iff.mp hp).1
    simp at this
    omega
  subst this
  cases (Option.some.inj hp : (a, ([] : Wd)) = p)
  exact Nat.le_refl _
section
variable {P : Program} {w : World} {K : PySem.W.Frag} {mg : Str → Option Value} {base : Heap}
def spAheads (K : PySem.W.Frag) : Sp := fun vs H Q _ => ∃ (sg : List Nat) (v : V) (n : Nat) (rows : List (List Nat)), vs = [.str (S sg), v] ∧ RowsT K H v rows ∧ Tab sg.length n rows ∧ n ≤ 40 ∧ sg.length ≤ 12 ∧
  ∀ p ys told H', Same H H' → H p = none → H' p = some (.lst ys) → Told sg H' ys told → BInv (stp rows) sg.length 0 told told.length 0 → ShortW told → told.length ≤ n → Q (.ref p) H'
theorem sc__law_aheads : FnScope ["_law_signs", "_law_rows", "_law_told", "_law_seen", "_law_at", "_law_v", "_law_onto"] ["_law_signs", "_law_rows"] (defScope s__law_aheads) := ⟨rfl, rfl, rfl, by decide +kernel, rfl, by decide +kernel, by decide +kernel⟩
theorem ok__law_aheads (T : Tx K mg) : C1 P w K mg base CX0 1 "_law_aheads" ["_law_signs", "_law_rows"] (spAheads K) := by
  obtain ⟨fd, F⟩ := d__law_aheads T
  refine .mk1 F (g__law_aheads T) (fun _ _ _ _ _ _ us hl => match us, hl with | [_, _], _ => rfl) sc__law_aheads (fun vs H Q E h => ?_) (fun cdv A outer s H vs Q E hr h => ?_)
  · obtain ⟨sg, v, n, rows, rfl, R, Tb, hn, h12, k⟩ := h
    rfl
  obtain ⟨sg, v, n, rows, rfl, R, Tb, hn, h12, k⟩ := h
  have hu := hu_of hr
  have hu64 := hu64_of hr
  have hu6 := hu64' hr
  refine ⟨_, (pss_cons (ps_set (i := 2) sc__law_aheads.nd rfl (Or.inl rfl) (pe_lst (pa_cons (pe_tup (pa_cons pe_int (pa_cons pe_str pa_nil))) pa_nil)))
      (pss_cons (ps_set (i := 3) sc__law_aheads.nd rfl (Or.inl rfl) pe_dnewK)
      (pss_cons (ps_dput hu (pv 3) pe_int pe_bl rfl)
      (pss_cons (ps_set (i := 4) sc__law_aheads.nd rfl (Or.inl rfl) pe_int)
      (pss_cons (ps_while PassesOwn.never (pt_cmpR op_lt (pv 4) (pe_callB (call_lenK K (by rfl)) (by rfl) (f_len T) PySem.boot_len (pa_cons (pv 2) pa_nil)) (nomark _)) (pss_cons (ps_for PassesOwn.never rfl (pi_range1 (by rfl) (f_range T) (pa_cons (pe_callB call_lenZ (by rfl) (f_len T) PySem.boot_len (pa_cons (pv 0) pa_nil)) pa_nil)) (pg_name (i := 5) sc__law_aheads.nd rfl (Or.inl rfl)) (pss_cons (ps_set (i := 6) sc__law_aheads.nd rfl (Or.inl rfl) (pe_ix (ix_tupK K (by rfl)) (pe_ix (ix_tupK K (by rfl)) (pv 1) (pe_ix (ix_tupK K (by rfl)) (pe_ix (ix_listK K (by rfl)) (pv 2) (pv 4) (fun _ _ => rfl)) pe_int (fun _ _ => rfl)) (fun _ _ => rfl)) (pv 5) (fun _ _ => rfl)))
      (pss_one (ps_if (pt_cmp (pc_dnotin hu (pv 6) (pv 3))) (pss_cons (ps_dput hu (pv 3) (pv 6) pe_bl rfl)
      (pss_one (ps_expr (pe_bmK K (by rfl) PySem.F.plainAttrs_list PySem.F.slot_list_append PySem.F.type_list_append mt_append (pv 2) (pa_cons (pe_tup (pa_cons (pv 6) (pa_cons (pe_op op_catS (pe_ix (ix_tupK K (by rfl)) (pe_ix (ix_listK K (by rfl)) (pv 2) (pv 4) (fun _ _ => rfl)) pe_int (fun _ _ => rfl)) (pe_ix ix_str (pv 0) (pv 5) (fun _ _ => rfl))) pa_nil))) pa_nil))))) pss_nil))))
      (pss_one (ps_set (i := 4) sc__law_aheads.nd rfl (Or.inl rfl) (pe_op op_add (pv 4) pe_int)))))
      (pss_one (ps_ret (pv 2)))))))), ?_⟩
  walk_at "go"
  refine ⟨by decide, fun q hq => ?_⟩
  walk_at "go"
  refine ⟨by decide, fun t ht => ?_⟩
  walk_at "go"
  intro s hs
  walk_at "go"
  have ts : t ≠ s := fun z => by rw [z.symm, upd_same] at hs; cases hs
  have qt : q ≠ t := fun z => by rw [z.symm, upd_same] at ht; cases ht
  have qs : q ≠ s := fun z => by rw [z.symm, upd_ne qt, upd_same] at hs; cases hs
  have ht0 : H t = none := by rw [upd_ne qt.symm] at ht; exact ht
  have hs0 : H s = none := by rw [upd_ne ts.symm, upd_ne qs.symm] at hs; exact hs
  obtain ⟨H4, P4, M4, o4, e4⟩ := (MapI.new (H := upd (upd H q (.tup [.int 0, .str ""])) t (.lst [.ref q])) (p := s)).put 0 (.bl true) (by omega)
  refine ⟨s, H4, rfl, P4, ?_⟩
  have kn : (rows.length = n) := Tb.len
  have S4 : Same H H4 := by
    rw [e4]
    exact same_mut (((same_new hq).trans (same_new ht)).trans (same_new hs)) hs0
  walk_at "go"
  refine ⟨fun m σ H' => ∃ (i : Nat) (told : List (Nat × Wd)) (ys : List V) (u u' : Option V), m = n + 1 - i ∧ σ = [some (.str (S sg)), some v, some (.ref t), some (.ref s), some (.int ((i : Nat) : Int)), u, u'] ∧ Same H H' ∧ H' t = some (.lst ys) ∧ Told sg H' ys told ∧
    MapI H' s told.length (seenM (told.map (·.1))) ∧ BInv (stp rows) sg.length 0 told i 0 ∧ ShortW told ∧ i ≤ told.length, ⟨n + 1 - 0, 0, [(0, [])], [.ref q], none, none, rfl, rfl, S4, ?_, ?_, ?_, BInv.start, ShortW.one 0, by simp⟩, ?_⟩
  · rw [e4, upd_ne ts, upd_ne ts, upd_same]
  · refine .cons ⟨q, rfl, ?_⟩ .nil
    rw [e4, upd_ne qs, upd_ne qs, upd_ne qt, upd_same]
    rfl
  · refine M4.ext fun z => ?_
    show (if z = 0 then some (V.bl true) else none) = seenM [0] z
    unfold seenM
    simp
  rintro m σ' H5 ⟨i, told, ys, u, u', hm, rfl, s5, h5, T5, M5, B5, W5, hi⟩
  have cnt := B5.count (run_range Tb Tb.pos)
  rw [List.length_range] at cnt
  have lty := Paired.length T5
  walk_at "go"
  refine r_lenQL (SqL.of h5) ?_
  walk_at "go"
  refine iteD (fun h => ?_) (fun h => ?_)
  · refine ⟨_, fun _ _ z => z, ?_⟩
    have hil : i < told.length := by omega
    have hti : told[i]? = some told[i] := List.getElem?_eq_some_iff.mpr ⟨hil, rfl⟩
    walk_at "go"
    refine ⟨_, rfl, by omega, by omega, ?_⟩
    refine fo_R (n := sg.length) (fun x σ H' => ∃ (told2 : List (Nat × Wd)) (ys : List V) (u u' : Option V), σ = [some (.str (S sg)), some v, some (.ref t), some (.ref s), some (.int ((i : Nat) : Int)), u, u'] ∧ Same H H' ∧ H' t = some (.lst ys) ∧ Told sg H' ys told2 ∧
      MapI H' s told2.length (seenM (told2.map (·.1))) ∧ BInv (stp rows) sg.length 0 told2 i x ∧ ShortW told2 ∧ told2[i]? = some told[i]) ⟨told, ys, u, u', rfl, s5, h5, T5, M5, B5, W5, hti⟩ ?_ ?_
    · rintro x σ6 H6 hx ⟨told2, ys2, v1, v2, rfl, s6, h6, T6, M6, B6, W6, hi6⟩
      have R6 := R.kp (same_kp s6)
      obtain ⟨y, hy, qy, rfl, hqy⟩ := paired_get T6 hi6
      walk_at "go"
      refine r_ixL (SqL.of h6) (atI_nat hy) ?_
      walk_at "go"
      refine r_ixT (SqT.of hqy) rfl ?_
      walk_at "go"
      have hz : told[i].1 < n := by
        obtain ⟨h1, h2⟩ := B6.run _ (List.mem_of_getElem? hi6)
        rw [← h2]
        exact Tb.run_lt Tb.pos h1
      obtain ⟨r, e1, e2⟩ := Tb.get2 R6 hz hx
      refine R6.get e1 fun yr hyr => ?_
      walk_at "go"
      refine hyr.get e2 ?_
      walk_at "go"
      refine ⟨s, _, rfl, M6.dget _, ?_⟩
      walk_at "go"
      have cnt6 := B6.count (run_range Tb Tb.pos)
      rw [List.length_range] at cnt6
      have lty6 := Paired.length T6
      refine iteB (fun hn6 => ?_) (fun hn6 => ?_)
      · have hnew := seenM_none.mp hn6
        walk_at "go"
        obtain ⟨H7, P7, M7, o7, e7⟩ := M6.put (stp rows told[i].1 x) (.bl true) (by omega)
        refine ⟨s, H7, rfl, P7, ?_⟩
        have s7 : Same H H7 := by
          rw [e7]
          exact same_mut s6 hs0
        have h7 : H7 t = some (.lst ys2) := by rw [e7, upd_ne ts]; exact h6
        have qys : qy ≠ s := fun z => by
          obtain ⟨kvs, z1, _⟩ := M6
          rw [← z, hqy] at z1
          cases z1
        have hqy7 := (show Kt H6 H7 by rw [e7]; exact M6.kt) _ _ hqy
        walk_at "go"
        refine ⟨r_tyL h7, ?_⟩
        walk_at "go"
        refine r_ixL (SqL.of h7) (atI_nat hy) ?_
        walk_at "go"
        refine r_ixT (SqT.of hqy7) rfl ?_
        walk_at "go"
        refine r_ixS hx (by omega) ?_
        walk_at "go"
        have wl := W6 i _ hi6
        refine r_catS ?hl ?_
        case hl => rw [cod_len]; simp; omega
        walk_at "go"
        refine ⟨by decide, fun p hp => ?_⟩
        have tp : t ≠ p := ne_of_none h7 hp
        walk_at "go"
        refine r_app' (xs := ys2) ((upd_ne tp).trans h7) (by omega) ?_
        walk_at "go"
        have e9 : cod sg told[i].2 ++ [sg[x]] = cod sg (told[i].2 ++ [x]) := by rw [cod_snoc, getS hx]
        rw [e9]
        have h7p : upd H7 p (.tup [V.int ((stp rows told[i].1 x : Nat) : Int), .str (S (cod sg (told[i].2 ++ [x])))]) t = some (.lst ys2) := by rw [upd_ne tp]; exact h7
        have k7 : Kt H6 H7 := by rw [e7]; exact M6.kt
        have sp : s ≠ p := by
          obtain ⟨kvs, z1, _⟩ := M7
          exact ne_of_none z1 hp
        refine ⟨told2 ++ [(stp rows told[i].1 x, told[i].2 ++ [x])], _, _, _, rfl, ?_, upd_same, ?_, ?_, B6.new hi6 hx hnew, W6.snoc hi6 _ _, ?_⟩
        · exact same_mut (s7.trans (same_new hp)) ht0
        · exact Paired.snoc (T6.kt (k7.trans ((same_kt (same_new hp)).trans (kt_updL h7p)))) ⟨p, rfl, by rw [upd_ne tp.symm, upd_same]⟩
        · rw [List.length_append, List.map_append]
          exact ((M7.upd sp).upd ts.symm).ext fun z => seenM_add z
        · rw [List.getElem?_append_left (List.getElem?_eq_some_iff.mp hi6).1]
          exact hi6
      · have hold : stp rows told[i].1 x ∈ told2.map (·.1) := by
          refine Classical.byContradiction fun z => ?_
          rw [seenM_none.mpr z] at hn6
          cases hn6
        walk_at "go"
        exact ⟨told2, ys2, _, _, rfl, s6, h6, T6, M6, B6.old hi6 hx hold, W6, hi6⟩
    · rintro σ6 H6 ⟨told2, ys2, v1, v2, rfl, s6, h6, T6, M6, B6, W6, hi6⟩
      walk_at "go"
      rw [show ((i : Nat) : Int) + 1 = ((i + 1 : Nat) : Int) by omega]
      have := (List.getElem?_eq_some_iff.mp hi6).1
      exact ⟨n + 1 - (i + 1), by omega, i + 1, told2, ys2, _, _, rfl, rfl, s6, h6, T6, M6, B6.row, W6, by omega⟩
  · have : i = told.length := by omega
    subst this
    walk_at "go"
    exact k t ys told H5 s5 ht0 h5 T5 B5 W5 cnt
end

end K18
end
section
set_option maxRecDepth 100000
set_option maxHeartbeats 4000000
local macro_rules | `(tactic| walk_at "go1") => `(tactic| first
  | (with_reducible refine K18.r_seq ?_) | (with_reducible refine K18.r_ifs ?_) | (with_reducible refine K18.r_ret ?_) | (with_reducible refine K18.r_asg ?_) | (with_reducible refine K18.r_drop ?_) | (with_reducible refine K18.r_next ?_)
  | (with_reducible refine K18.r_name ?_) | (with_reducible refine K18.r_var rfl ?_) | (with_reducible refine K18.r_c ?_) | (with_reducible refine K18.r_op ?_) | (with_reducible refine K18.r_cons ?_) | (with_reducible refine K18.r_nil ?_)
  | (with_reducible refine K18.r_cb ?_) | (with_reducible refine K18.r_call ?_) | (with_reducible refine K18.r_make ?_) | (with_reducible refine K18.r_B ?_) | (with_reducible refine K18.r_test ?_) | (with_reducible refine K18.r_or ?_) | (with_reducible refine K18.r_and ?_) | (with_reducible refine K18.r_not ?_)
  | (with_reducible refine K18.r_andV ?_) | (with_reducible refine K18.r_orV ?_) | (with_reducible refine K18.r_notV ?_) | (with_reducible refine K18.r_if ?_) | (with_reducible refine K18.r_aug rfl ?_) | (with_reducible refine K18.r_ip ?_)
  | (with_reducible refine K18.r_I0 ?_) | (with_reducible refine K18.r_int1 ?_) | (with_reducible refine K18.r_mod (by first | decide | omega) ?_) | (with_reducible refine K18.r_fdivN (by first | decide | omega) (by first | decide | omega) ?_) | (with_reducible refine K18.r_mulR (by first | decide | omega) (by first | decide | omega) ?_) | (with_reducible refine K18.r_mulL (by first | decide | omega) (by first | decide | omega) ?_) | (with_reducible refine K18.r_inG ?_) | (with_reducible refine K18.r_notInG ?_) | (with_reducible refine K18.r_ltS ?_) | (with_reducible refine K18.r_ex ?_) | (with_reducible refine K18.r_eqI ?_) | (with_reducible refine K18.r_neI ?_) | (with_reducible refine K18.r_eqB ?_) | (with_reducible refine K18.r_neB ?_) | (with_reducible refine K18.r_isN ?_)
  | (with_reducible refine K18.r_tup ?_) | (with_reducible refine K18.r_lst ?_) | (with_reducible refine K18.r_yes ?_) | (with_reducible refine K18.r_gsub ?_) | (with_reducible refine K18.r_dget ?_) | (with_reducible refine K18.r_sl ?_) | (with_reducible refine K18.r_part ?_) | (with_reducible refine K18.r_nopart ?_)
  | (with_reducible refine K18.r_chain ?_) | (with_reducible refine K18.r_bm ?_) | (with_reducible refine K18.iteT ?_) | (with_reducible refine K18.iteF ?_) | (with_reducible refine K18.iteNT ?_) | (with_reducible refine K18.iteNF ?_)
  | (with_reducible refine K18.r_for ?_) | (with_reducible refine K18.r_while ?_) | (with_reducible refine K18.r_lc ?_) | (with_reducible refine K18.r_iR1 ?_) | (with_reducible refine K18.r_iR2 ?_) | (with_reducible refine K18.r_iL ?_) | (with_reducible refine K18.r_iT ?_) | (with_reducible refine K18.r_iS ?_)
  | dsimp only [L2.start, List.map, List.replicate, List.length, List.cons_append, List.nil_append, List.append_nil, Nat.reduceAdd, Nat.reduceSub, List.set])
local macro_rules | `(tactic| walk_at "go") => `(tactic| repeat walk_at "go1")
local macro_rules | `(tactic| walk_at "go1") => `(tactic| first
  | (with_reducible refine K18.r_dnotin ?_) | (with_reducible refine K18.r_din ?_) | (with_reducible refine K18.r_dput ?_) | (with_reducible refine K18.r_dnewK ?_) | (with_reducible refine K18.r_dnewT ?_)
  | (with_reducible refine K18.r_gtup ?_) | (with_reducible refine K18.r_gcons ?_) | (with_reducible refine K18.r_gnil ?_) | (with_reducible refine K18.r_iAny ?_) | (with_reducible refine K18.r_lenZ (by first | assumption | omega) ?_))
namespace K18
open PySem PySem.Spec PyProof.Rows L2
/-- the least word that has a thing -/
def LeastW (k : Nat) (g : Wd → Bool) : Option Wd → Prop
  | none => ∀ w, Ltk k w → g w = false
  | some w => Ltk k w ∧ g w = true ∧ ∀ x, Ltk k x → g x = true → sle w x
def oV (sg : List Nat) : Option Wd → V
  | none => .non
  | some w => .str (S (cod sg w))
def d2 (rows : List (List Nat)) (z : Nat × Nat) (v : Nat) : Nat × Nat := (stp rows z.1 v, stp rows z.2 v)
def want (both : Bool) (gs : List Nat) (z : Nat × Nat) : Bool := if both = true then (decide (z.1 ∈ gs) && decide (z.2 ∈ gs)) else (decide (z.1 ∈ gs) != decide (z.2 ∈ gs))
theorem run_d2 (rows : List (List Nat)) : ∀ (w : Wd) (z : Nat × Nat), run (d2 rows) z w = (run (stp rows) z.1 w, run (stp rows) z.2 w)
  | [], _ => rfl
  | u :: w, z => by
    rw [run_cons, run_cons, run_cons]
    exact run_d2 rows w _
def allP (n : Nat) : List (Nat × Nat) := (List.range n).flatMap fun a => (List.range n).map fun b => (a, b)
theorem allP_len (n : Nat) : (allP n).length = n * n := by
  unfold allP
  have e : ∀ l : List Nat, (l.flatMap fun a => (List.range n).map fun b => (a, b)).length = l.length * n := by
    intro l
    induction l with
    | nil => simp
    | cons a l ih => rw [List.flatMap_cons, List.length_append, ih, List.length_map, List.length_range, List.length_cons, Nat.succ_mul]; omega
  rw [e, List.length_range]
theorem allP_mem {n : Nat} {z : Nat × Nat} (h1 : z.1 < n) (h2 : z.2 < n) : z ∈ allP n := List.mem_flatMap.mpr ⟨z.1, List.mem_range.mpr h1, List.mem_map.mpr ⟨z.2, List.mem_range.mpr h2, rfl⟩⟩
theorem run_allP {k n : Nat} {rows : List (List Nat)} (Tb : Tab k n rows) {z : Nat × Nat} (h1 : z.1 < n) (h2 : z.2 < n) : ∀ w, Ltk k w → run (d2 rows) z w ∈ allP n := fun w hw => by
  rw [run_d2]
  exact allP_mem (Tb.run_lt h1 hw) (Tb.run_lt h2 hw)
def Told2 (sg : List Nat) (H : Hp) (ys : List V) (told : List ((Nat × Nat) × Wd)) : Prop := Paired (fun p y => ∃ q b, y = .ref q ∧ H q = some (.tup [.ref b, .str (S (cod sg p.2))]) ∧ PairT H b p.1) told ys
theorem Told2.kt {sg : List Nat} {H H' : Hp} {ys : List V} {told : List ((Nat × Nat) × Wd)} (h : Told2 sg H ys told) (e : Kt H H') : Told2 sg H' ys told := Paired.mapP h fun _ _ ⟨q, b, h1, h2, h3⟩ => ⟨q, b, h1, e _ _ h2, e _ _ h3⟩
/-! ### a test that is a if t else b -/
def tIfB (t ta tb : TT) : TT := fun σ H Q => t σ H fun c H1 => if c = true then ta σ H1 Q else tb σ H1 Q
theorem pt_ifE {X : Cx} {c a b : Expr} {pos : Pos} {tA ta tb : TT} (hc : PT X c tA) (ha : PT X a ta) (hb : PT X b tb) : PT X (.IfExp c a b pos) (tIfB tA ta tb) := by
  refine ⟨fun pins s σ H Q I h => ?_⟩
  show wpAny _ _ (do if ← PySem.isTrue c X.env (eval c X.env) then PySem.isTrue a X.env (eval a X.env) else PySem.isTrue b X.env (eval b X.env)) _ _ _
  refine wpAny_bind (thn (hc.run pins s σ H _ I h) fun d s1 ⟨H1, I1, q1⟩ => ?_)
  cases d with
  | true => exact ha.run pins s1 σ H1 Q I1 q1
  | false => exact hb.run pins s1 σ H1 Q I1 q1
theorem r_ifB {t ta tb : TT} {σ : L2.St} {H : Hp} {Q : Bool → Hp → Prop} (h : t σ H fun c H1 => if c = true then ta σ H1 Q else tb σ H1 Q) : tIfB t ta tb σ H Q := h
theorem shp_bools (a b : Bool) : SeqAt.shaped (.list [.bool a, .bool b]) = true := by cases a <;> cases b <;> decide
theorem eqv_bools (a b : Bool) : PyData.eqv (.list [.bool a, .bool b]) (.list [.bool true, .bool true]) = (a && b) := by cases a <;> cases b <;> decide
theorem inV_rI (x : Nat) (l : List Nat) : inV (.int ((x : Nat) : Int)) (rI l) = decide (x ∈ l) := by
  induction l with
  | nil => rfl
  | cons a l ih =>
    show (((a : Nat) : Int) == ((x : Nat) : Int) || inV (.int ((x : Nat) : Int)) (rI l)) = _
    rw [ih, Bool.eq_iff_iff]
    simp only [Bool.or_eq_true, beq_iff_eq, decide_eq_true_eq, List.mem_cons]
    rw [show (((a : Nat) : Int) = ((x : Nat) : Int)) ↔ x = a from by omega]
theorem flat_rI (l : List Nat) : (rI l).all flatV = true := by
  rw [List.all_eq_true]
  intro x hx
  obtain ⟨u, _, rfl⟩ := nat_of_mem hx
  rfl
theorem r_inRow {K : PySem.W.Frag} {H : Hp} {Q : VK} {v : V} {l : List Nat} {x : Nat} (h : RowT K H v l) (q : Q (.bl (decide (x ∈ l))) H) : rIn K false (.int ((x : Nat) : Int)) v H Q := by
  obtain ⟨a, rfl, hs⟩ := h
  refine ⟨a, rI l, rfl, .inr hs, rfl, flat_rI l, ?_⟩
  show Q (.bl (inV _ _)) H
  rw [inV_rI]
  exact q
section
variable {P : Program} {w : World} {K : PySem.W.Frag} {mg : Str → Option Value} {base : Heap}
def spAfter (K : PySem.W.Frag) : Sp := fun vs H Q _ => ∃ (sg : List Nat) (p b : Addr) (both : Bool) (z0 : Nat × Nat) (n : Nat) (rows : List (List Nat)) (gs : List Nat), vs = [.str (S sg), .ref p, .ref b, .bl both] ∧ RawD K H p sg.length n rows gs ∧ PairT H b z0 ∧ z0.1 < n ∧ z0.2 < n ∧ n ≤ 16 ∧ sg.length ≤ 12 ∧
  ∀ o H', Same H H' → (∀ u, o = some u → u.length ≤ 256) → LeastW sg.length (fun u => want both gs (run (d2 rows) z0 u)) o → Q (oV sg o) H'
theorem sc__law_after_of : FnScope ["_law_signs", "_law_walk", "_law_begin", "_law_both", "_law_told", "_law_seen", "_law_at", "_law_here", "_law_paper", "_law_flags", "_law_v", "_law_onto"] ["_law_signs", "_law_walk", "_law_begin", "_law_both"] (defScope s__law_after_of) := ⟨rfl, rfl, rfl, by decide +kernel, rfl, by decide +kernel, by decide +kernel⟩
theorem ok__law_after_of (T : Tx K mg) : C1 P w K mg base CX0 1 "_law_after_of" ["_law_signs", "_law_walk", "_law_begin", "_law_both"] (spAfter K) := by
  obtain ⟨fd, F⟩ := d__law_after_of T
  refine .mk1 F (g__law_after_of T) (fun _ _ _ _ _ _ us hl => match us, hl with | [_, _, _, _], _ => rfl) sc__law_after_of (fun vs H Q E h => ?_) (fun cdv A outer s H vs Q E hr h => ?_)
  · obtain ⟨sg, p, b, both, z0, n, rows, gs, rfl, W, hb0, hz1, hz2, hn, h12, k⟩ := h
    rfl
  obtain ⟨sg, p, b, both, z0, n, rows, gs, rfl, W, hb0, hz1, hz2, hn, h12, k⟩ := h
  have hu := hu_of hr
  have hu64 := hu64_of hr
  have hu6 := hu64' hr
  refine ⟨_, (pss_cons (ps_set (i := 4) sc__law_after_of.nd rfl (Or.inl rfl) (pe_lst (pa_cons (pe_tup (pa_cons (pv 2) (pa_cons pe_str pa_nil))) pa_nil)))
      (pss_cons (ps_set (i := 5) sc__law_after_of.nd rfl (Or.inl rfl) pe_dnewT)
      (pss_cons (ps_dput hu (pv 5) (pv 2) pe_bl rfl)
      (pss_cons (ps_set (i := 6) sc__law_after_of.nd rfl (Or.inl rfl) pe_int)
      (pss_cons (ps_while PassesOwn.never (pt_cmpR op_lt (pv 6) (pe_callB (call_lenK K (by rfl)) (by rfl) (f_len T) PySem.boot_len (pa_cons (pv 4) pa_nil)) (nomark _)) (pss_cons (ps_asg (pe_ix (ix_listK K (by rfl)) (pv 4) (pv 6) (fun _ _ => rfl)) (pg_tupK K (by rfl) rfl (pgs_cons (pg_name (i := 7) sc__law_after_of.nd rfl (Or.inl rfl)) (pgs_cons (pg_name (i := 8) sc__law_after_of.nd rfl (Or.inl rfl)) pgs_nil))))
      (pss_cons (ps_set (i := 9) sc__law_after_of.nd rfl (Or.inl rfl) (pe_lst (pa_cons (pe_cmpR (op_in_seqK K (by rfl)) (pe_ix (ix_tupK K (by rfl)) (pv 7) pe_int (fun _ _ => rfl)) (pe_ix (ix_listK K (by rfl)) (pv 1) pe_int (fun _ _ => rfl)) (by rfl)) (pa_cons (pe_cmpR (op_in_seqK K (by rfl)) (pe_ix (ix_tupK K (by rfl)) (pv 7) pe_int (fun _ _ => rfl)) (pe_ix (ix_listK K (by rfl)) (pv 1) pe_int (fun _ _ => rfl)) (by rfl)) pa_nil))))
      (pss_cons (ps_if (pt_ifE (pt_val (pv 3)) (pt_cmpR (op_eqDK K (by rfl) hu6) (pv 9) (pe_lst (pa_cons pe_bl (pa_cons pe_bl pa_nil))) (nomark _)) (pt_cmpR op_ne (pe_ix (ix_listK K (by rfl)) (pv 9) pe_int (fun _ _ => rfl)) (pe_ix (ix_listK K (by rfl)) (pv 9) pe_int (fun _ _ => rfl)) (nomark _))) (pss_one (ps_ret (pv 8))) pss_nil)
      (pss_cons (ps_for PassesOwn.never rfl (pi_range1 (by rfl) (f_range T) (pa_cons (pe_callB call_lenZ (by rfl) (f_len T) PySem.boot_len (pa_cons (pv 0) pa_nil)) pa_nil)) (pg_name (i := 10) sc__law_after_of.nd rfl (Or.inl rfl)) (pss_cons (ps_set (i := 11) sc__law_after_of.nd rfl (Or.inl rfl) (pe_tup (pa_cons (pe_ix (ix_tupK K (by rfl)) (pe_ix (ix_tupK K (by rfl)) (pe_ix (ix_listK K (by rfl)) (pv 1) pe_int (fun _ _ => rfl)) (pe_ix (ix_tupK K (by rfl)) (pv 7) pe_int (fun _ _ => rfl)) (fun _ _ => rfl)) (pv 10) (fun _ _ => rfl)) (pa_cons (pe_ix (ix_tupK K (by rfl)) (pe_ix (ix_tupK K (by rfl)) (pe_ix (ix_listK K (by rfl)) (pv 1) pe_int (fun _ _ => rfl)) (pe_ix (ix_tupK K (by rfl)) (pv 7) pe_int (fun _ _ => rfl)) (fun _ _ => rfl)) (pv 10) (fun _ _ => rfl)) pa_nil))))
      (pss_one (ps_if (pt_cmp (pc_dnotin hu (pv 11) (pv 5))) (pss_cons (ps_dput hu (pv 5) (pv 11) pe_bl rfl)
      (pss_one (ps_expr (pe_bmK K (by rfl) PySem.F.plainAttrs_list PySem.F.slot_list_append PySem.F.type_list_append mt_append (pv 4) (pa_cons (pe_tup (pa_cons (pv 11) (pa_cons (pe_op op_catS (pv 8) (pe_ix ix_str (pv 0) (pv 10) (fun _ _ => rfl))) pa_nil))) pa_nil))))) pss_nil))))
      (pss_one (ps_set (i := 6) sc__law_after_of.nd rfl (Or.inl rfl) (pe_op op_add (pv 6) pe_int))))))))
      (pss_one (ps_ret pe_non))))))), ?_⟩
  walk_at "go"
  obtain ⟨⟨rv, gv, hp, Rr, Rg⟩, Tb, G⟩ := W
  refine ⟨by decide, fun q hq => ?_⟩
  walk_at "go"
  refine ⟨by decide, fun t ht => ?_⟩
  walk_at "go"
  intro s hs
  walk_at "go"
  have ts : t ≠ s := fun z => by rw [z.symm, upd_same] at hs; cases hs
  have qt : q ≠ t := fun z => by rw [z.symm, upd_same] at ht; cases ht
  have qs : q ≠ s := fun z => by rw [z.symm, upd_ne qt, upd_same] at hs; cases hs
  have ht0 : H t = none := by rw [upd_ne qt.symm] at ht; exact ht
  have hs0 : H s = none := by rw [upd_ne ts.symm, upd_ne qs.symm] at hs; exact hs
  have S3 : Same H (upd (upd (upd H q (.tup [.ref b, .str ""])) t (.lst [.ref q])) s (.dT [])) := ((same_new hq).trans (same_new ht)).trans (same_new hs)
  obtain ⟨H4, P4, M4, o4, e4⟩ := (MapP.new (H := upd (upd H q (.tup [.ref b, .str ""])) t (.lst [.ref q])) (p := s)).put (z := z0) (b := b) (S3 _ _ hb0) (.bl true) (by omega)
  refine ⟨s, H4, rfl, P4, ?_⟩
  have S4 : Same H H4 := by
    rw [e4]
    exact same_mut S3 hs0
  walk_at "go"
  have nn : n * n ≤ 256 := Nat.mul_le_mul hn hn
  refine ⟨fun m σ H' => ∃ (i : Nat) (told : List ((Nat × Nat) × Wd)) (ys : List V) (u1 u2 u3 u4 u5 : Option V), m = n * n + 1 - i ∧ σ = [some (.str (S sg)), some (.ref p), some (.ref b), some (.bl both), some (.ref t), some (.ref s), some (.int ((i : Nat) : Int)), u1, u2, u3, u4, u5] ∧ Same H H' ∧ H' t = some (.lst ys) ∧ Told2 sg H' ys told ∧
    MapP H' s told.length (seenM (told.map (·.1))) ∧ BInv (d2 rows) sg.length z0 told i 0 ∧ ShortW told ∧ i ≤ told.length ∧ ∀ j x, j < i → told[j]? = some x → want both gs x.1 = false, ⟨n * n + 1 - 0, 0, [(z0, [])], [.ref q], _, _, _, _, _, rfl, rfl, S4, ?_, ?_, ?_, BInv.start, ShortW.one z0, by simp, fun j x hj => by omega⟩, ?_⟩
  · rw [e4, upd_ne ts, upd_ne ts, upd_same]
  · refine .cons ⟨q, b, rfl, ?_, S4 _ _ hb0⟩ .nil
    rw [e4, upd_ne qs, upd_ne qs, upd_ne qt, upd_same]
    rfl
  · refine M4.ext fun z => ?_
    show (if z = z0 then some (V.bl true) else none) = seenM [z0] z
    unfold seenM
    simp
  rintro m σ' H5 ⟨i, told, ys, u1, u2, u3, u4, u5, hm, rfl, s5, h5, T5, M5, B5, W5, hi, no5⟩
  have cnt := B5.count (run_allP Tb hz1 hz2)
  rw [allP_len] at cnt
  have lty := Paired.length T5
  walk_at "go"
  refine r_lenQL (SqL.of h5) ?_
  walk_at "go"
  refine iteD (fun h => ?_) (fun h => ?_)
  · refine ⟨_, fun _ _ z => z, ?_⟩
    have hil : i < told.length := by omega
    have hti : told[i]? = some told[i] := List.getElem?_eq_some_iff.mpr ⟨hil, rfl⟩
    obtain ⟨y, hy, qy, by_, rfl, hqy, hby⟩ := paired_get T5 hti
    have hw := B5.run _ (List.mem_of_getElem? hti)
    have hlt1 : told[i].1.1 < n := by
      rw [← hw.2, run_d2]
      exact Tb.run_lt hz1 hw.1
    have hlt2 : told[i].1.2 < n := by
      rw [← hw.2, run_d2]
      exact Tb.run_lt hz2 hw.1
    walk_at "go"
    refine r_ixL (SqL.of h5) (atI_nat hy) ?_
    refine r_gtup (SqT.of hqy) rfl ?_
    walk_at "go"
    refine r_ixT (SqT.of hby) rfl ?_
    walk_at "go"
    have hp5 := s5 _ _ hp
    have Rg5 := Rg.kp (same_kp s5)
    refine r_ixL (SqL.of hp5) rfl ?_
    refine r_inRow Rg5 ?_
    walk_at "go"
    refine r_ixT (SqT.of hby) rfl ?_
    walk_at "go"
    refine r_ixL (SqL.of hp5) rfl ?_
    refine r_inRow Rg5 ?_
    walk_at "go"
    refine ⟨by decide, fun f hf => ?_⟩
    have ft : t ≠ f := ne_of_none h5 hf
    have s6 := same_new (o := .lst [.bl (decide (told[i].1.1 ∈ gs)), .bl (decide (told[i].1.2 ∈ gs))]) hf
    walk_at "go"
    refine r_ifB ?_
    walk_at "go"
    cases both with
    | true =>
      refine L2.iteT ?_
      walk_at "go"
      refine ⟨by decide, fun f2 hf2 => ?_⟩
      have s62 := same_new (o := .lst [.bl true, .bl true]) hf2
      have hff : upd (upd H5 f (.lst [.bl (decide (told[i].1.1 ∈ gs)), .bl (decide (told[i].1.2 ∈ gs))])) f2 (.lst [.bl true, .bl true]) f = _ := s62 _ _ upd_same
      refine ⟨.list [.bool (decide (told[i].1.1 ∈ gs)), .bool (decide (told[i].1.2 ∈ gs))], .list [.bool true, .bool true], .lst (SqL.of hff) (.cons (.bl _) (.cons (.bl _) .nil)), .lst (SqL.of upd_same) (.cons (.bl _) (.cons (.bl _) .nil)), shp_bools _ _, shp_bools _ _, ?_⟩
      rw [eqv_bools]
      walk_at "go"
      have s7 := s6.trans s62
      generalize upd (upd H5 f (.lst [.bl (decide (told[i].1.1 ∈ gs)), .bl (decide (told[i].1.2 ∈ gs))])) f2 (.lst [.bl true, .bl true]) = H7 at s7 ⊢
      change if want true gs told[i].1 = true then _ else _
      refine iteB (fun hwt => ?_) (fun hwt => ?_)
      · walk_at "go"
        refine k (some told[i].2) H7 (s5.trans s7) (fun u e => by cases e; have := W5 i _ hti; omega) ⟨hw.1, ?_, fun x hx hgx => B5.least hti no5 x hx hgx⟩
        show want _ gs (run (d2 rows) z0 told[i].2) = true
        rw [hw.2]
        exact hwt
      walk_at "go"
      refine ⟨_, rfl, by omega, by omega, ?_⟩
      refine fo_R (n := sg.length) (fun x σ H' => ∃ (told2 : List ((Nat × Nat) × Wd)) (ys : List V) (u4 u5 : Option V), σ = [some (.str (S sg)), some (.ref p), some (.ref b), some (.bl true), some (.ref t), some (.ref s), some (.int ((i : Nat) : Int)), some (.ref by_), some (.str (S (cod sg told[i].2))), some (.ref f), u4, u5] ∧ Same H H' ∧ H' t = some (.lst ys) ∧ Told2 sg H' ys told2 ∧
        MapP H' s told2.length (seenM (told2.map (·.1))) ∧ BInv (d2 rows) sg.length z0 told2 i x ∧ ShortW told2 ∧ told2[i]? = some told[i] ∧ (∀ j x, j < i → told2[j]? = some x → want true gs x.1 = false) ∧ H' by_ = some (.tup [.int ((told[i].1.1 : Nat) : Int), .int ((told[i].1.2 : Nat) : Int)]))
        ⟨told, ys, _, _, rfl, s5.trans s7, s7 _ _ h5, T5.kt (same_kt s7), M5.same s7, B5, W5, hti, no5, s7 _ _ hby⟩ ?_ ?_
      · rintro x σ6 H6 hx ⟨told2, ys2, v4, v5, rfl, s6, h6, T6, M6, B6, W6, hi6, no6, hby6⟩
        have R6 := Rr.kp (same_kp s6)
        have hp6 := s6 _ _ hp
        walk_at "go"
        refine r_ixL (SqL.of hp6) rfl ?_
        walk_at "go"
        refine r_ixT (SqT.of hby6) rfl ?_
        obtain ⟨r1, e1, e2⟩ := Tb.get2 R6 hlt1 hx
        refine R6.get e1 fun yr1 hyr1 => ?_
        walk_at "go"
        refine hyr1.get e2 ?_
        walk_at "go"
        refine r_ixL (SqL.of hp6) rfl ?_
        walk_at "go"
        refine r_ixT (SqT.of hby6) rfl ?_
        obtain ⟨r2, e3, e4⟩ := Tb.get2 R6 hlt2 hx
        refine R6.get e3 fun yr2 hyr2 => ?_
        walk_at "go"
        refine hyr2.get e4 ?_
        walk_at "go"
        refine ⟨by decide, fun c hc => ?_⟩
        walk_at "go"
        have sc := same_new (o := .tup [.int ((stp rows told[i].1.1 x : Nat) : Int), .int ((stp rows told[i].1.2 x : Nat) : Int)]) hc
        have pc : PairT (upd H6 c (.tup [.int ((stp rows told[i].1.1 x : Nat) : Int), .int ((stp rows told[i].1.2 x : Nat) : Int)])) c (d2 rows told[i].1 x) := upd_same
        have M6c := M6.same sc
        refine ⟨s, _, rfl, M6c.dget pc, ?_⟩
        walk_at "go"
        have cnt6 := B6.count (run_allP Tb hz1 hz2)
        rw [allP_len] at cnt6
        have lty6 := Paired.length T6
        have hi6' := (List.getElem?_eq_some_iff.mp hi6).1
        refine iteB (fun hn6 => ?_) (fun hn6 => ?_)
        · have hnew := seenM_none.mp hn6
          walk_at "go"
          obtain ⟨H7', P7, M7, o7, e7⟩ := M6c.put pc (.bl true) (by omega)
          refine ⟨s, H7', rfl, P7, ?_⟩
          have s7' : Same H H7' := by
            rw [e7]
            exact same_mut (s6.trans sc) hs0
          have k7 : Kt H6 H7' := by
            rw [e7]
            exact (same_kt sc).trans M6c.kt
          have pc7 : PairT H7' c (d2 rows told[i].1 x) := by
            rw [e7]
            exact M6c.kt _ _ pc
          have h7 : H7' t = some (.lst ys2) := by
            rw [e7, upd_ne ts]
            exact sc _ _ h6
          walk_at "go"
          refine ⟨r_tyL h7, ?_⟩
          walk_at "go"
          refine r_ixS hx (by omega) ?_
          walk_at "go"
          have wl := W6 i _ hi6
          refine r_catS ?hl ?_
          case hl => rw [cod_len]; simp; omega
          walk_at "go"
          refine ⟨by decide, fun q2 hq2 => ?_⟩
          have tq2 : t ≠ q2 := ne_of_none h7 hq2
          walk_at "go"
          refine r_app' (xs := ys2) ((upd_ne tq2).trans h7) (by omega) ?_
          walk_at "go"
          have e9 : cod sg told[i].2 ++ [sg[x]] = cod sg (told[i].2 ++ [x]) := by rw [cod_snoc, getS hx]
          rw [e9]
          have sp : s ≠ q2 := by
            obtain ⟨kvs, z1, _⟩ := M7
            exact ne_of_none z1 hq2
          have kq := same_kt (same_new (o := .tup [.ref c, .str (S (cod sg (told[i].2 ++ [x])))]) hq2)
          have kt2 : Kt (upd H7' q2 (.tup [.ref c, .str (S (cod sg (told[i].2 ++ [x])))])) (upd (upd H7' q2 (.tup [.ref c, .str (S (cod sg (told[i].2 ++ [x])))])) t (.lst (ys2 ++ [.ref q2]))) := kt_updL ((upd_ne tq2).trans h7)
          have k9 := kq.trans kt2
          refine ⟨told2 ++ [(d2 rows told[i].1 x, told[i].2 ++ [x])], _, _, _, rfl, ?_, upd_same, ?_, ?_, B6.new hi6 hx hnew, W6.snoc hi6 _ _, ?_, ?_, ?_⟩
          · exact same_mut (s7'.trans (same_new hq2)) ht0
          · exact Paired.snoc (T6.kt (k7.trans k9)) ⟨q2, c, rfl, by rw [upd_ne tq2.symm, upd_same], k9 _ _ pc7⟩
          · rw [List.length_append, List.map_append]
            exact ((M7.upd sp).upd ts.symm).ext fun z => seenM_add z
          · rw [List.getElem?_append_left hi6']
            exact hi6
          · intro j x' hj hx'
            rw [List.getElem?_append_left (by omega)] at hx'
            exact no6 j x' hj hx'
          · exact (k7.trans k9) _ _ hby6
        · have hold : d2 rows told[i].1 x ∈ told2.map (·.1) := by
            refine Classical.byContradiction fun z => ?_
            rw [seenM_none.mpr z] at hn6
            cases hn6
          walk_at "go"
          exact ⟨told2, ys2, _, _, rfl, s6.trans sc, sc _ _ h6, T6.kt (same_kt sc), M6c, B6.old hi6 hx hold, W6, hi6, no6, sc _ _ hby6⟩
      · rintro σ6 H6 ⟨told2, ys2, v4, v5, rfl, s6, h6, T6, M6, B6, W6, hi6, no6, hby6⟩
        walk_at "go"
        rw [show ((i : Nat) : Int) + 1 = ((i + 1 : Nat) : Int) by omega]
        have := (List.getElem?_eq_some_iff.mp hi6).1
        refine ⟨n * n + 1 - (i + 1), by omega, i + 1, told2, ys2, _, _, _, _, _, rfl, rfl, s6, h6, T6, M6, B6.row, W6, by omega, fun j x hj hx => ?_⟩
        rcases Nat.lt_or_ge j i with g | g
        · exact no6 j x g hx
        · have : j = i := by omega
          subst this
          rw [hi6] at hx
          cases hx
          exact hwt
    | false =>
      refine L2.iteF ?_
      walk_at "go"
      refine r_ixL (SqL.of upd_same) rfl ?_
      walk_at "go"
      refine r_ixL (SqL.of upd_same) rfl ?_
      walk_at "go"
      have s7 := s6
      generalize upd H5 f (.lst [.bl (decide (told[i].1.1 ∈ gs)), .bl (decide (told[i].1.2 ∈ gs))]) = H7 at s7 ⊢
      change if want false gs told[i].1 = true then _ else _
      refine iteB (fun hwt => ?_) (fun hwt => ?_)
      · walk_at "go"
        refine k (some told[i].2) H7 (s5.trans s7) (fun u e => by cases e; have := W5 i _ hti; omega) ⟨hw.1, ?_, fun x hx hgx => B5.least hti no5 x hx hgx⟩
        show want _ gs (run (d2 rows) z0 told[i].2) = true
        rw [hw.2]
        exact hwt
      walk_at "go"
      refine ⟨_, rfl, by omega, by omega, ?_⟩
      refine fo_R (n := sg.length) (fun x σ H' => ∃ (told2 : List ((Nat × Nat) × Wd)) (ys : List V) (u4 u5 : Option V), σ = [some (.str (S sg)), some (.ref p), some (.ref b), some (.bl false), some (.ref t), some (.ref s), some (.int ((i : Nat) : Int)), some (.ref by_), some (.str (S (cod sg told[i].2))), some (.ref f), u4, u5] ∧ Same H H' ∧ H' t = some (.lst ys) ∧ Told2 sg H' ys told2 ∧
        MapP H' s told2.length (seenM (told2.map (·.1))) ∧ BInv (d2 rows) sg.length z0 told2 i x ∧ ShortW told2 ∧ told2[i]? = some told[i] ∧ (∀ j x, j < i → told2[j]? = some x → want false gs x.1 = false) ∧ H' by_ = some (.tup [.int ((told[i].1.1 : Nat) : Int), .int ((told[i].1.2 : Nat) : Int)]))
        ⟨told, ys, _, _, rfl, s5.trans s7, s7 _ _ h5, T5.kt (same_kt s7), M5.same s7, B5, W5, hti, no5, s7 _ _ hby⟩ ?_ ?_
      · rintro x σ6 H6 hx ⟨told2, ys2, v4, v5, rfl, s6, h6, T6, M6, B6, W6, hi6, no6, hby6⟩
        have R6 := Rr.kp (same_kp s6)
        have hp6 := s6 _ _ hp
        walk_at "go"
        refine r_ixL (SqL.of hp6) rfl ?_
        walk_at "go"
        refine r_ixT (SqT.of hby6) rfl ?_
        obtain ⟨r1, e1, e2⟩ := Tb.get2 R6 hlt1 hx
        refine R6.get e1 fun yr1 hyr1 => ?_
        walk_at "go"
        refine hyr1.get e2 ?_
        walk_at "go"
        refine r_ixL (SqL.of hp6) rfl ?_
        walk_at "go"
        refine r_ixT (SqT.of hby6) rfl ?_
        obtain ⟨r2, e3, e4⟩ := Tb.get2 R6 hlt2 hx
        refine R6.get e3 fun yr2 hyr2 => ?_
        walk_at "go"
        refine hyr2.get e4 ?_
        walk_at "go"
        refine ⟨by decide, fun c hc => ?_⟩
        walk_at "go"
        have sc := same_new (o := .tup [.int ((stp rows told[i].1.1 x : Nat) : Int), .int ((stp rows told[i].1.2 x : Nat) : Int)]) hc
        have pc : PairT (upd H6 c (.tup [.int ((stp rows told[i].1.1 x : Nat) : Int), .int ((stp rows told[i].1.2 x : Nat) : Int)])) c (d2 rows told[i].1 x) := upd_same
        have M6c := M6.same sc
        refine ⟨s, _, rfl, M6c.dget pc, ?_⟩
        walk_at "go"
        have cnt6 := B6.count (run_allP Tb hz1 hz2)
        rw [allP_len] at cnt6
        have lty6 := Paired.length T6
        have hi6' := (List.getElem?_eq_some_iff.mp hi6).1
        refine iteB (fun hn6 => ?_) (fun hn6 => ?_)
        · have hnew := seenM_none.mp hn6
          walk_at "go"
          obtain ⟨H7', P7, M7, o7, e7⟩ := M6c.put pc (.bl true) (by omega)
          refine ⟨s, H7', rfl, P7, ?_⟩
          have s7' : Same H H7' := by
            rw [e7]
            exact same_mut (s6.trans sc) hs0
          have k7 : Kt H6 H7' := by
            rw [e7]
            exact (same_kt sc).trans M6c.kt
          have pc7 : PairT H7' c (d2 rows told[i].1 x) := by
            rw [e7]
            exact M6c.kt _ _ pc
          have h7 : H7' t = some (.lst ys2) := by
            rw [e7, upd_ne ts]
            exact sc _ _ h6
          walk_at "go"
          refine ⟨r_tyL h7, ?_⟩
          walk_at "go"
          refine r_ixS hx (by omega) ?_
          walk_at "go"
          have wl := W6 i _ hi6
          refine r_catS ?hl ?_
          case hl => rw [cod_len]; simp; omega
          walk_at "go"
          refine ⟨by decide, fun q2 hq2 => ?_⟩
          have tq2 : t ≠ q2 := ne_of_none h7 hq2
          walk_at "go"
          refine r_app' (xs := ys2) ((upd_ne tq2).trans h7) (by omega) ?_
          walk_at "go"
          have e9 : cod sg told[i].2 ++ [sg[x]] = cod sg (told[i].2 ++ [x]) := by rw [cod_snoc, getS hx]
          rw [e9]
          have sp : s ≠ q2 := by
            obtain ⟨kvs, z1, _⟩ := M7
            exact ne_of_none z1 hq2
          have kq := same_kt (same_new (o := .tup [.ref c, .str (S (cod sg (told[i].2 ++ [x])))]) hq2)
          have kt2 : Kt (upd H7' q2 (.tup [.ref c, .str (S (cod sg (told[i].2 ++ [x])))])) (upd (upd H7' q2 (.tup [.ref c, .str (S (cod sg (told[i].2 ++ [x])))])) t (.lst (ys2 ++ [.ref q2]))) := kt_updL ((upd_ne tq2).trans h7)
          have k9 := kq.trans kt2
          refine ⟨told2 ++ [(d2 rows told[i].1 x, told[i].2 ++ [x])], _, _, _, rfl, ?_, upd_same, ?_, ?_, B6.new hi6 hx hnew, W6.snoc hi6 _ _, ?_, ?_, ?_⟩
          · exact same_mut (s7'.trans (same_new hq2)) ht0
          · exact Paired.snoc (T6.kt (k7.trans k9)) ⟨q2, c, rfl, by rw [upd_ne tq2.symm, upd_same], k9 _ _ pc7⟩
          · rw [List.length_append, List.map_append]
            exact ((M7.upd sp).upd ts.symm).ext fun z => seenM_add z
          · rw [List.getElem?_append_left hi6']
            exact hi6
          · intro j x' hj hx'
            rw [List.getElem?_append_left (by omega)] at hx'
            exact no6 j x' hj hx'
          · exact (k7.trans k9) _ _ hby6
        · have hold : d2 rows told[i].1 x ∈ told2.map (·.1) := by
            refine Classical.byContradiction fun z => ?_
            rw [seenM_none.mpr z] at hn6
            cases hn6
          walk_at "go"
          exact ⟨told2, ys2, _, _, rfl, s6.trans sc, sc _ _ h6, T6.kt (same_kt sc), M6c, B6.old hi6 hx hold, W6, hi6, no6, sc _ _ hby6⟩
      · rintro σ6 H6 ⟨told2, ys2, v4, v5, rfl, s6, h6, T6, M6, B6, W6, hi6, no6, hby6⟩
        walk_at "go"
        rw [show ((i : Nat) : Int) + 1 = ((i + 1 : Nat) : Int) by omega]
        have := (List.getElem?_eq_some_iff.mp hi6).1
        refine ⟨n * n + 1 - (i + 1), by omega, i + 1, told2, ys2, _, _, _, _, _, rfl, rfl, s6, h6, T6, M6, B6.row, W6, by omega, fun j x hj hx => ?_⟩
        rcases Nat.lt_or_ge j i with g | g
        · exact no6 j x g hx
        · have : j = i := by omega
          subst this
          rw [hi6] at hx
          cases hx
          exact hwt
  · have : i = told.length := by omega
    subst this
    walk_at "go"
    exact k none H5 s5 (fun u e => nomatch e) fun w hw => B5.none (Nat.le_refl _) no5 w hw
end

end K18
end
section
set_option maxRecDepth 100000
set_option maxHeartbeats 4000000
local macro_rules | `(tactic| walk_at "go1") => `(tactic| first
  | (with_reducible refine K18.r_seq ?_) | (with_reducible refine K18.r_ifs ?_) | (with_reducible refine K18.r_ret ?_) | (with_reducible refine K18.r_asg ?_) | (with_reducible refine K18.r_drop ?_) | (with_reducible refine K18.r_next ?_)
  | (with_reducible refine K18.r_name ?_) | (with_reducible refine K18.r_var rfl ?_) | (with_reducible refine K18.r_c ?_) | (with_reducible refine K18.r_op ?_) | (with_reducible refine K18.r_cons ?_) | (with_reducible refine K18.r_nil ?_)
  | (with_reducible refine K18.r_cb ?_) | (with_reducible refine K18.r_call ?_) | (with_reducible refine K18.r_make ?_) | (with_reducible refine K18.r_B ?_) | (with_reducible refine K18.r_test ?_) | (with_reducible refine K18.r_or ?_) | (with_reducible refine K18.r_and ?_) | (with_reducible refine K18.r_not ?_)
  | (with_reducible refine K18.r_andV ?_) | (with_reducible refine K18.r_orV ?_) | (with_reducible refine K18.r_notV ?_) | (with_reducible refine K18.r_if ?_) | (with_reducible refine K18.r_aug rfl ?_) | (with_reducible refine K18.r_ip ?_)
  | (with_reducible refine K18.r_I0 ?_) | (with_reducible refine K18.r_int1 ?_) | (with_reducible refine K18.r_mod (by first | decide | omega) ?_) | (with_reducible refine K18.r_fdivN (by first | decide | omega) (by first | decide | omega) ?_) | (with_reducible refine K18.r_mulR (by first | decide | omega) (by first | decide | omega) ?_) | (with_reducible refine K18.r_mulL (by first | decide | omega) (by first | decide | omega) ?_) | (with_reducible refine K18.r_inG ?_) | (with_reducible refine K18.r_notInG ?_) | (with_reducible refine K18.r_ltS ?_) | (with_reducible refine K18.r_ex ?_) | (with_reducible refine K18.r_eqI ?_) | (with_reducible refine K18.r_neI ?_) | (with_reducible refine K18.r_eqB ?_) | (with_reducible refine K18.r_neB ?_) | (with_reducible refine K18.r_isN ?_)
  | (with_reducible refine K18.r_tup ?_) | (with_reducible refine K18.r_lst ?_) | (with_reducible refine K18.r_yes ?_) | (with_reducible refine K18.r_gsub ?_) | (with_reducible refine K18.r_dget ?_) | (with_reducible refine K18.r_sl ?_) | (with_reducible refine K18.r_part ?_) | (with_reducible refine K18.r_nopart ?_)
  | (with_reducible refine K18.r_chain ?_) | (with_reducible refine K18.r_bm ?_) | (with_reducible refine K18.iteT ?_) | (with_reducible refine K18.iteF ?_) | (with_reducible refine K18.iteNT ?_) | (with_reducible refine K18.iteNF ?_)
  | (with_reducible refine K18.r_for ?_) | (with_reducible refine K18.r_while ?_) | (with_reducible refine K18.r_lc ?_) | (with_reducible refine K18.r_iR1 ?_) | (with_reducible refine K18.r_iR2 ?_) | (with_reducible refine K18.r_iL ?_) | (with_reducible refine K18.r_iT ?_) | (with_reducible refine K18.r_iS ?_)
  | dsimp only [L2.start, List.map, List.replicate, List.length, List.cons_append, List.nil_append, List.append_nil, Nat.reduceAdd, Nat.reduceSub, List.set])
local macro_rules | `(tactic| walk_at "go") => `(tactic| repeat walk_at "go1")
local macro_rules | `(tactic| walk_at "go1") => `(tactic| first
  | (with_reducible refine K18.r_dnotin ?_) | (with_reducible refine K18.r_din ?_) | (with_reducible refine K18.r_dput ?_) | (with_reducible refine K18.r_dnewK ?_) | (with_reducible refine K18.r_dnewT ?_)
  | (with_reducible refine K18.r_gtup ?_) | (with_reducible refine K18.r_gcons ?_) | (with_reducible refine K18.r_gnil ?_) | (with_reducible refine K18.r_iAny ?_) | (with_reducible refine K18.r_lenZ (by first | assumption | omega) ?_))
namespace K18
open PySem PySem.Spec PyProof.Rows L2
/-! ### < of tuples -/
def rLtD (K : PySem.W.Frag) : R2 := fun x y H Q => ∃ d e, Dp K H x d ∧ Dp K H y e ∧ W.alike d e = true ∧ d ≠ .none ∧ d.depth ≤ 64 ∧ Q (.bl (W.dataLt d e)) H
theorem op_ltD {X : Cx} (hu : X.A.units + 64 < cLine) : OpR X (compareOp .Lt) (rLtD X.K) := by
  intro pins s σ H x y v u Q I rx ry h
  obtain ⟨d, e, hd, he, al, nn, dp, q⟩ := h
  obtain ⟨as, r1⟩ := Dp.reads I d x v hd rx
  obtain ⟨bs, r2⟩ := Dp.reads I e y u he ry
  exact W.rcLt_alike d e X.A s v u as bs r1 r2 al nn (by have := Nat.min_le_left d.depth e.depth; omega) X.prog X.w X.xe _ ⟨.bl _, H, I, rfl, q⟩
theorem op_ltDK {X : Cx} (K : PySem.W.Frag) (hK : X.K = K) (hu : X.A.units + 64 < cLine) : OpR X (compareOp .Lt) (rLtD K) := hK ▸ op_ltD hu
theorem r_notN {x : V} {H : Hp} {Q : VK} (h : Q (.bl (!decide (x = .non))) H) : (fun x y H Q => y = V.non ∧ Q (V.bl (!decide (x = V.non))) H : R2) x .non H Q := ⟨rfl, h⟩
theorem r_truth {K : PySem.W.Frag} {ta : TE} {σ : L2.St} {H : Hp} {Q : Bool → Hp → Prop} (h : ta σ H fun x H' => ∃ k, TruV K x H' k ∧ Q k H') : tTruth K ta σ H Q := h
local macro_rules | `(tactic| walk_at "go1") => `(tactic| first
  | (with_reducible refine K18.r_notN ?_) | (with_reducible refine K18.r_truth ?_))
theorem ltAll {x y : PyData} {xs ys : List PyData} (h : W.alike x y = true) : W.dataLt (.tuple (x :: xs)) (.tuple (y :: ys)) = if PyData.eqv x y = true then W.dataLt (.tuple xs) (.tuple ys) else W.dataLt x y := by
  rw [W.dataLt_tuple]
  cases e : PyData.eqv x y with
  | true => rw [W.dataLt_all_yes h e, W.dataLt_tuple]; rfl
  | false => rw [W.dataLt_all_no h e]; rfl
theorem cod_inj {sg : List Nat} (asc : sg.Pairwise (· < ·)) : ∀ {a b : Wd}, Ltk sg.length a → Ltk sg.length b → cod sg a = cod sg b → a = b := by
  intro a
  induction a with
  | nil =>
    intro b _ _ e
    cases b with
    | nil => rfl
    | cons y b => cases e
  | cons x a ih =>
    intro b ha hb e
    cases b with
    | nil => cases e
    | cons y b =>
      have h1 : sg.getD x 0 = sg.getD y 0 := (List.cons.inj e).1
      have h2 := ih (fun c hc => ha c (by simp [hc])) (fun c hc => hb c (by simp [hc])) (List.cons.inj e).2
      have hx := ha x (by simp)
      have hy := hb y (by simp)
      rw [getS hx, getS hy] at h1
      rcases Nat.lt_trichotomy x y with g | g | g
      · have := List.pairwise_iff_getElem.mp asc x y hx hy g
        omega
      · rw [g, h2]
      · have := List.pairwise_iff_getElem.mp asc y x hy hx g
        omega
theorem cod_lt {sg : List Nat} (asc : sg.Pairwise (· < ·)) : ∀ {a b : Wd}, Ltk sg.length a → Ltk sg.length b → (cod sg a < cod sg b ↔ a < b) := by
  intro a
  induction a with
  | nil =>
    intro b _ _
    cases b with
    | nil => exact ⟨fun h => absurd h (lex_irrefl _), fun h => absurd h (lex_irrefl _)⟩
    | cons y b => exact ⟨fun _ => List.nil_lt_cons _ _, fun _ => List.nil_lt_cons _ _⟩
  | cons x a ih =>
    intro b ha hb
    cases b with
    | nil => exact ⟨fun h => absurd h (List.not_lt_nil _), fun h => absurd h (List.not_lt_nil _)⟩
    | cons y b =>
      have ih' := ih (b := b) (fun c hc => ha c (by simp [hc])) (fun c hc => hb c (by simp [hc]))
      have hx := ha x (by simp)
      have hy := hb y (by simp)
      show sg.getD x 0 :: cod sg a < sg.getD y 0 :: cod sg b ↔ _
      rw [List.cons_lt_cons_iff, List.cons_lt_cons_iff, ih', getS hx, getS hy]
      have m1 : sg[x] < sg[y] ↔ x < y := by
        rcases Nat.lt_trichotomy x y with g | g | g
        · exact ⟨fun _ => g, fun _ => List.pairwise_iff_getElem.mp asc x y hx hy g⟩
        · subst g; exact ⟨fun h => absurd h (Nat.lt_irrefl _), fun h => absurd h (Nat.lt_irrefl _)⟩
        · have := List.pairwise_iff_getElem.mp asc y x hy hx g
          exact ⟨fun h => by omega, fun h => by omega⟩
      have m2 : sg[x] = sg[y] ↔ x = y := by
        rcases Nat.lt_trichotomy x y with g | g | g
        · have := List.pairwise_iff_getElem.mp asc x y hx hy g
          exact ⟨fun h => by omega, fun h => by omega⟩
        · subst g; exact ⟨fun _ => rfl, fun _ => rfl⟩
        · have := List.pairwise_iff_getElem.mp asc y x hy hx g
          exact ⟨fun h => by omega, fun h => by omega⟩
      rw [m1, m2]
/-- the law's key of a context -/
def keyD (sg : List Nat) (c : Cw) : PyData := .tuple [.int ((tot c : Nat) : Int), .int ((c.1.length : Nat) : Int), .str (S (cod sg c.1)), .int ((c.2.length : Nat) : Int), .str (S (cod sg c.2))]
theorem S_eq {a b : List Nat} : S a = S b ↔ a = b := ⟨S_inj, fun h => by rw [h]⟩
theorem key_lt {sg : List Nat} (asc : sg.Pairwise (· < ·)) {c d : Cw} (hc : CL sg.length c) (hd : CL sg.length d) : W.dataLt (keyD sg c) (keyD sg d) = true ↔ clt c d := by
  unfold keyD
  rw [ltAll (by rfl), ltAll (by rfl), ltAll (by rfl), ltAll (by rfl), ltAll (by rfl), W.dataLt_int, W.dataLt_int, W.dataLt_int, W.dataLt_str, W.dataLt_str]
  have ei : ∀ a b : Nat, PyData.eqv (.int ((a : Nat) : Int)) (.int ((b : Nat) : Int)) = true ↔ a = b := fun a b => by
    show (((a : Nat) : Int) == ((b : Nat) : Int)) = true ↔ _
    rw [beq_iff_eq]
    omega
  have es : ∀ a b : Wd, Ltk sg.length a → Ltk sg.length b → (PyData.eqv (.str (S (cod sg a))) (.str (S (cod sg b))) = true ↔ a = b) := fun a b ha hb => by
    show (S (cod sg a) == S (cod sg b)) = true ↔ _
    rw [beq_iff_eq, S_eq]
    exact ⟨cod_inj asc ha hb, fun h => by rw [h]⟩
  rw [S_list, S_list, S_list, S_list]
  by_cases h1 : tot c = tot d
  · rw [if_pos ((ei _ _).mpr h1)]
    by_cases h2 : c.1.length = d.1.length
    · rw [if_pos ((ei _ _).mpr h2)]
      have h3' : c.2.length = d.2.length := by unfold tot at h1; omega
      by_cases h3 : c.1 = d.1
      · rw [if_pos ((es _ _ hc.1 hd.1).mpr h3), if_pos ((ei _ _).mpr h3')]
        by_cases h4 : c.2 = d.2
        · rw [if_pos ((es _ _ hc.2 hd.2).mpr h4)]
          have : c = d := Prod.ext h3 h4
          subst this
          exact ⟨fun h => by rw [W.dataLt_tuple] at h; exact absurd h (by decide), fun h => absurd h (clt_irrefl _)⟩
        · rw [if_neg (fun z => h4 ((es _ _ hc.2 hd.2).mp z)), decide_eq_true_eq, cod_lt asc hc.2 hd.2]
          constructor
          · exact fun h => .inr ⟨h1, .inr ⟨h3, .inr ⟨h3', h⟩⟩⟩
          · rintro (h | ⟨_, h | ⟨_, h | ⟨_, h⟩⟩⟩)
            · omega
            · rw [h3] at h
              exact absurd h (slt_irrefl _)
            · omega
            · exact h
      · rw [if_neg (fun z => h3 ((es _ _ hc.1 hd.1).mp z)), decide_eq_true_eq, cod_lt asc hc.1 hd.1]
        constructor
        · exact fun h => .inr ⟨h1, .inl (.inr ⟨h2, h⟩)⟩
        · rintro (h | ⟨_, (h | ⟨_, h⟩) | ⟨h, _⟩⟩)
          · omega
          · omega
          · exact h
          · exact absurd h h3
    · rw [if_neg (fun z => h2 ((ei _ _).mp z)), decide_eq_true_eq]
      constructor
      · exact fun h => .inr ⟨h1, .inl (.inl (by omega))⟩
      · rintro (h | ⟨_, (h | ⟨h, _⟩) | ⟨h, _⟩⟩)
        · omega
        · omega
        · exact absurd h h2
        · exact absurd (by rw [h]) h2
  · rw [if_neg (fun z => h1 ((ei _ _).mp z)), decide_eq_true_eq]
    constructor
    · exact fun h => .inl (by omega)
    · rintro (h | ⟨h, _⟩)
      · omega
      · exact absurd h h1
/-- the best of those looked at -/
def BestI (k : Nat) (P : Cw → Bool) (l : List (Nat × Wd)) : Option Cw → Prop
  | none => ∀ q ∈ l, ∀ t, Ltk k t → P (q.2, t) = false
  | some c => CL k c ∧ P c = true ∧ ∀ q ∈ l, ∀ t, Ltk k t → P (q.2, t) = true → cle c (q.2, t)
theorem BestI.none {k : Nat} {P : Cw → Bool} {l : List (Nat × Wd)} {q : Nat × Wd} {bo : Option Cw} (B : BestI k P l bo) (h : ∀ t, Ltk k t → P (q.2, t) = false) : BestI k P (l ++ [q]) bo := by
  cases bo with
  | none =>
    intro r hr t ht
    rcases List.mem_append.mp hr with z | z
    · exact B r z t ht
    · rw [List.mem_singleton.mp z]
      exact h t ht
  | some c =>
    refine ⟨B.1, B.2.1, fun r hr t ht hp => ?_⟩
    rcases List.mem_append.mp hr with z | z
    · exact B.2.2 r z t ht hp
    · rw [List.mem_singleton.mp z, h t ht] at hp
      cases hp
theorem BestI.new {k : Nat} {P : Cw → Bool} {l : List (Nat × Wd)} {q : Nat × Wd} {u : Wd} {bo : Option Cw} (B : BestI k P l bo) (hb : bo = Option.none ∨ ∃ c, bo = some c ∧ clt (q.2, u) c) (hc : CL k (q.2, u)) (hp : P (q.2, u) = true) (h : ∀ t, Ltk k t → P (q.2, t) = true → sle u t) : BestI k P (l ++ [q]) (some (q.2, u)) := by
  refine ⟨hc, hp, fun r hr t ht hpr => ?_⟩
  rcases List.mem_append.mp hr with z | z
  · rcases hb with e | ⟨c, e, lt⟩
    · subst e
      have := B r z t ht
      rw [hpr] at this
      cases this
    · subst e
      exact cle_trans (.inl lt) (B.2.2 r z t ht hpr)
  · rw [List.mem_singleton.mp z] at hpr ⊢
    exact cle_of (sle_refl _) (h t ht hpr)
theorem BestI.keep {k : Nat} {P : Cw → Bool} {l : List (Nat × Wd)} {q : Nat × Wd} {u : Wd} {c : Cw} (B : BestI k P l (some c)) (lt : ¬ clt (q.2, u) c) (h : ∀ t, Ltk k t → P (q.2, t) = true → sle u t) : BestI k P (l ++ [q]) (some c) := by
  refine ⟨B.1, B.2.1, fun r hr t ht hpr => ?_⟩
  rcases List.mem_append.mp hr with z | z
  · exact B.2.2 r z t ht hpr
  · rw [List.mem_singleton.mp z] at hpr ⊢
    exact cle_trans (not_clt lt) (cle_of (sle_refl _) (h t ht hpr))
/-- the pair of a context -/
def prC (rows : List (List Nat)) (w1 w2 : Wd) (c : Cw) : Nat × Nat := run (d2 rows) (run (stp rows) (run (stp rows) 0 c.1) w1, run (stp rows) (run (stp rows) 0 c.1) w2) c.2
theorem BestI.fin {k : Nat} {rows : List (List Nat)} {w1 w2 : Wd} {g : Nat × Nat → Bool} {told : List (Nat × Wd)} {i : Nat} {bo : Option Cw} (B : BInv (stp rows) k 0 told i 0) (hi : told.length ≤ i) (b : BestI k (fun c => g (prC rows w1 w2 c)) told bo) : LeastC k (fun c => g (prC rows w1 w2 c)) bo := by
  have key : ∀ d, CL k d → ∃ q ∈ told, sle q.2 d.1 ∧ prC rows w1 w2 (q.2, d.2) = prC rows w1 w2 d := fun d hd => by
    obtain ⟨q, hq, e, hs⟩ := B.all hi d.1 hd.1
    refine ⟨q, hq, hs, ?_⟩
    unfold prC
    rw [(B.run q hq).2, e]
  cases bo with
  | none =>
    intro d hd
    obtain ⟨q, hq, _, e⟩ := key d hd
    have := b q hq d.2 hd.2
    show g (prC rows w1 w2 d) = false
    rw [← e]
    exact this
  | some c =>
    refine ⟨b.1, b.2.1, fun d hd hp => ?_⟩
    obtain ⟨q, hq, hs, e⟩ := key d hd
    exact cle_trans (b.2.2 q hq d.2 hd.2 (by show g (prC rows w1 w2 (q.2, d.2)) = true; rw [e]; exact hp)) (cle_of hs (sle_refl _))
section
variable {P : Program} {w : World} {K : PySem.W.Frag} {mg : Str → Option Value} {base : Heap}
def CtxO (sg : List Nat) (H : Hp) (v : V) : Option Cw → Prop
  | none => v = .non
  | some c => CtxT H v (cod sg c.1) (cod sg c.2) ∧ c.1.length ≤ 50000 ∧ c.2.length ≤ 50000
theorem CtxO.same {sg : List Nat} {H H' : Hp} {v : V} {o : Option Cw} (h : CtxO sg H v o) (e : Same H H') : CtxO sg H' v o := by
  cases o with
  | none => exact h
  | some c => exact ⟨h.1.same e, h.2⟩
def wantC (rows : List (List Nat)) (gs : List Nat) (both : Bool) (w1 w2 : Wd) (c : Cw) : Bool := want both gs (prC rows w1 w2 c)
def spCtx (K : PySem.W.Frag) : Sp := fun vs H Q _ => ∃ (sg : List Nat) (p pp : Addr) (both : Bool) (n : Nat) (rows : List (List Nat)) (gs l1 l2 : List Nat), vs = [.str (S sg), .ref p, .ref pp, .bl both] ∧ RawD K H p sg.length n rows gs ∧ TwoP H pp sg l1 l2 ∧ n ≤ 16 ∧ sg.length ≤ 12 ∧ sg.Pairwise (· < ·) ∧
  ∀ v o H', Same H H' → LeastC sg.length (wantC rows gs both (wd sg l1) (wd sg l2)) o → CtxO sg H' v o → Q v H'
def KeyT (sg : List Nat) (H : Hp) (q : Addr) (c : Cw) : Prop := H q = some (.tup [.int ((tot c : Nat) : Int), .int ((c.1.length : Nat) : Int), .str (S (cod sg c.1)), .int ((c.2.length : Nat) : Int), .str (S (cod sg c.2))])
def BestL (sg : List Nat) (H : Hp) (xs : List V) : Option Cw → Prop
  | none => xs = []
  | some c => ∃ q, xs = [.ref q] ∧ KeyT sg H q c ∧ c.1.length ≤ 50000 ∧ c.2.length ≤ 50000
theorem BestL.same {sg : List Nat} {H H' : Hp} {xs : List V} {o : Option Cw} (h : BestL sg H xs o) (e : Same H H') : BestL sg H' xs o := by
  cases o with
  | none => exact h
  | some c =>
    obtain ⟨q, h1, h2, h3⟩ := h
    exact ⟨q, h1, e _ _ h2, h3⟩
theorem KeyT.dp {K : PySem.W.Frag} {sg : List Nat} {H : Hp} {q : Addr} {c : Cw} (h : KeyT sg H q c) : Dp K H (.ref q) (keyD sg c) := .tup (SqT.of h) (.cons (.int _) (.cons (.int _) (.cons (.str _) (.cons (.int _) (.cons (.str _) .nil)))))
theorem sc__law_context : FnScope ["_law_signs", "_law_walk", "_law_papers", "_law_both", "_law_best", "_law_z", "_law_ahead", "_law_begin", "_law_after", "_law_key"] ["_law_signs", "_law_walk", "_law_papers", "_law_both"] (defScope s__law_context) := ⟨rfl, rfl, rfl, by decide +kernel, rfl, by decide +kernel, by decide +kernel⟩
theorem ok__law_context (T : Tx K mg) : C1 P w K mg base CX0 2 "_law_context" ["_law_signs", "_law_walk", "_law_papers", "_law_both"] (spCtx K) := by
  obtain ⟨fd, F⟩ := d__law_context T
  refine .mk1 F (g__law_context T) (fun _ _ _ _ _ _ us hl => match us, hl with | [_, _, _, _], _ => rfl) sc__law_context (fun vs H Q E h => ?_) (fun cdv A outer s H vs Q E hr h => ?_)
  · obtain ⟨sg, p, pp, both, n, rows, gs, l1, l2, rfl, W, ⟨hpp, pl1, pl2, n1, n2⟩, hn, h12, asc, k⟩ := h
    rfl
  obtain ⟨sg, p, pp, both, n, rows, gs, l1, l2, rfl, W, ⟨hpp, pl1, pl2, n1, n2⟩, hn, h12, asc, k⟩ := h
  have hu := hu_of hr
  have hu64 := hu64_of hr
  have hu6 := hu64' hr
  refine ⟨_, (pss_cons (ps_set (i := 4) sc__law_context.nd rfl (Or.inl rfl) (pe_lst pa_nil))
      (pss_cons (ps_for PassesOwn.never rfl (pi_listK K (by rfl) (pe_c1 (ok__law_aheads T) (hr.mono (by decide)) (by rfl) (pa_cons (pv 0) (pa_cons (pe_ix (ix_listK K (by rfl)) (pv 1) pe_int (fun _ _ => rfl)) pa_nil)))) (pg_tupK K (by rfl) rfl (pgs_cons (pg_name (i := 5) sc__law_context.nd rfl (Or.inl rfl)) (pgs_cons (pg_name (i := 6) sc__law_context.nd rfl (Or.inl rfl)) pgs_nil))) (pss_cons (ps_set (i := 7) sc__law_context.nd rfl (Or.inl rfl) (pe_tup (pa_cons (pe_c1 (ok__law_led T) (hr.mono (by decide)) (by rfl) (pa_cons (pv 0) (pa_cons (pe_ix (ix_listK K (by rfl)) (pv 1) pe_int (fun _ _ => rfl)) (pa_cons (pv 5) (pa_cons (pe_ix (ix_listK K (by rfl)) (pv 2) pe_int (fun _ _ => rfl)) pa_nil))))) (pa_cons (pe_c1 (ok__law_led T) (hr.mono (by decide)) (by rfl) (pa_cons (pv 0) (pa_cons (pe_ix (ix_listK K (by rfl)) (pv 1) pe_int (fun _ _ => rfl)) (pa_cons (pv 5) (pa_cons (pe_ix (ix_listK K (by rfl)) (pv 2) pe_int (fun _ _ => rfl)) pa_nil))))) pa_nil))))
      (pss_cons (ps_set (i := 8) sc__law_context.nd rfl (Or.inl rfl) (pe_c1 (ok__law_after_of T) (hr.mono (by decide)) (by rfl) (pa_cons (pv 0) (pa_cons (pv 1) (pa_cons (pv 7) (pa_cons (pv 3) pa_nil))))))
      (pss_one (ps_if (pt_cmpR op_notN (pv 8) pe_non (nomark _)) (pss_cons (ps_set (i := 9) sc__law_context.nd rfl (Or.inl rfl) (pe_tup (pa_cons (pe_op op_add (pe_callB call_lenZ (by rfl) (f_len T) PySem.boot_len (pa_cons (pv 6) pa_nil)) (pe_callB call_lenZ (by rfl) (f_len T) PySem.boot_len (pa_cons (pv 8) pa_nil))) (pa_cons (pe_callB call_lenZ (by rfl) (f_len T) PySem.boot_len (pa_cons (pv 6) pa_nil)) (pa_cons (pv 6) (pa_cons (pe_callB call_lenZ (by rfl) (f_len T) PySem.boot_len (pa_cons (pv 8) pa_nil)) (pa_cons (pv 8) pa_nil)))))))
      (pss_one (ps_if (pw_or (pt_not (pt_truthK K (by rfl) (pv 4) (by intro _; rfl))) (pw_or1 (pt_cmpR (op_ltDK K (by rfl) hu6) (pv 9) (pe_ix (ix_listK K (by rfl)) (pv 4) pe_int (fun _ _ => rfl)) (nomark _)))).pt (pss_one (ps_set (i := 4) sc__law_context.nd rfl (Or.inl rfl) (pe_lst (pa_cons (pv 9) pa_nil)))) pss_nil))) pss_nil)))))
      (pss_one (ps_ret (pe_ifExp (pt_truthK K (by rfl) (pv 4) (by intro _; rfl)) (pe_tup (pa_cons (pe_ix (ix_tupK K (by rfl)) (pe_ix (ix_listK K (by rfl)) (pv 4) pe_int (fun _ _ => rfl)) pe_int (fun _ _ => rfl)) (pa_cons (pe_ix (ix_tupK K (by rfl)) (pe_ix (ix_listK K (by rfl)) (pv 4) pe_int (fun _ _ => rfl)) pe_int (fun _ _ => rfl)) pa_nil))) pe_non))))), ?_⟩
  walk_at "go"
  obtain ⟨rv, gv, hp, Rr, Rg⟩ := id W.at_
  have Tb := W.tab
  refine ⟨Nat.zero_le _, fun bl hbl => ?_⟩
  have sb := same_new (o := .lst []) hbl
  walk_at "go"
  refine r_ixL (SqL.of (sb _ _ hp)) rfl ?_
  walk_at "go"
  refine ⟨sg, rv, n, rows, rfl, Rr.kp (same_kp sb), Tb, by omega, h12, fun pa ys told H1 s1 hpa hpa1 T1 B1 W1 cnt => ?_⟩
  refine ⟨pa, rfl, ⟨_, SqL.of hpa1⟩, ?_⟩
  have lty := Paired.length T1
  have s01 := sb.trans s1
  refine fo_L (xs := ys) (fun i σ H' => ∃ (bq : Addr) (xs : List V) (bo : Option Cw) (u1 u2 u3 u4 u5 : Option V), σ = [some (.str (S sg)), some (.ref p), some (.ref pp), some (.bl both), some (.ref bq), u1, u2, u3, u4, u5] ∧ Same H1 H' ∧ H' bq = some (.lst xs) ∧ BestL sg H' xs bo ∧ BestI sg.length (wantC rows gs both (wd sg l1) (wd sg l2)) (told.take i) bo)
    ⟨bl, [], none, _, _, _, _, _, rfl, Same.refl _, s1 _ _ upd_same, rfl, by rw [List.take_zero]; exact fun q h => nomatch h⟩ (fun i σ H' _ ⟨_, _, _, _, _, _, _, _, _, s, _⟩ => SqL.of (s _ _ hpa1)) ?_ ?_
  · rintro i x σ H2 hx ⟨bq, xs, bo, u1, u2, u3, u4, u5, rfl, s2, hbq, BL, BI⟩
    have hil := (List.getElem?_eq_some_iff.mp hx).1
    have hti : told[i]? = some told[i] := List.getElem?_eq_some_iff.mpr ⟨by omega, rfl⟩
    obtain ⟨x', hx', qx, rfl, hqx⟩ := paired_get T1 hti
    rw [hx] at hx'
    cases hx'
    have hw := B1.run _ (List.mem_of_getElem? hti)
    have hz : told[i].1 < n := by
      rw [← hw.2]
      exact Tb.run_lt Tb.pos hw.1
    have s02 := s01.trans s2
    refine r_gtup (SqT.of (s2 _ _ hqx)) rfl ?_
    walk_at "go"
    refine r_ixL (SqL.of (s02 _ _ hp)) rfl ?_
    walk_at "go"
    refine r_ixL (SqL.of (s02 _ _ hpp)) rfl ?_
    walk_at "go"
    refine ⟨sg, rv, n, told[i].1, l1, rows, rfl, Rr.kp (same_kp s02), Tb, hz, pl1, ?_⟩
    walk_at "go"
    refine r_ixL (SqL.of (s02 _ _ hp)) rfl ?_
    walk_at "go"
    refine r_ixL (SqL.of (s02 _ _ hpp)) rfl ?_
    walk_at "go"
    refine ⟨sg, rv, n, told[i].1, l2, rows, rfl, Rr.kp (same_kp s02), Tb, hz, pl2, ?_⟩
    walk_at "go"
    refine ⟨by decide, fun b hb => ?_⟩
    walk_at "go"
    have s3 := same_new (o := .tup [.int ((run (stp rows) told[i].1 (wd sg l1) : Nat) : Int), .int ((run (stp rows) told[i].1 (wd sg l2) : Nat) : Int)]) hb
    have s03 := s02.trans s3
    have W3 : RawD K (upd H2 b (.tup [.int ((run (stp rows) told[i].1 (wd sg l1) : Nat) : Int), .int ((run (stp rows) told[i].1 (wd sg l2) : Nat) : Int)])) p sg.length n rows gs := ⟨⟨rv, gv, s03 _ _ hp, Rr.kp (same_kp s03), Rg.kp (same_kp s03)⟩, Tb, W.goal⟩
    refine ⟨sg, p, b, both, (run (stp rows) told[i].1 (wd sg l1), run (stp rows) told[i].1 (wd sg l2)), n, rows, gs, rfl, W3, upd_same, Tb.run_lt hz (wd_ltk pl1), Tb.run_lt hz (wd_ltk pl2), hn, h12, fun o H4 s4 ho LW => ?_⟩
    walk_at "go"
    refine ⟨rfl, ?_⟩
    walk_at "go"
    have hprC : ∀ t, want both gs (run (d2 rows) (run (stp rows) told[i].1 (wd sg l1), run (stp rows) told[i].1 (wd sg l2)) t) = wantC rows gs both (wd sg l1) (wd sg l2) (told[i].2, t) := fun t => by
      unfold wantC prC
      rw [hw.2]
    have s24 := s3.trans s4
    have htk : told.take (i + 1) = told.take i ++ [told[i]] := by
      rw [List.take_add_one, hti]
      rfl
    cases o with
    | none =>
      refine ite_no (b := !decide (V.non = V.non)) (by decide) ?_
      walk_at "go"
      refine ⟨bq, xs, bo, _, _, _, _, _, rfl, s2.trans s24, s24 _ _ hbq, BL.same s24, ?_⟩
      rw [htk]
      exact BI.none fun t ht => (hprC t).symm.trans (LW t ht)
    | some u =>
      obtain ⟨g1, g2, g3⟩ := LW
      have hu256 := ho u rfl
      have wl := W1 i _ hti
      refine ite_yes (b := !decide (V.str (S (cod sg u)) = V.non)) (by simp) ?_
      rw [show oV sg (some u) = V.str (S (cod sg u)) from rfl]
      walk_at "go"
      have ha100 : (cod sg told[i].2).length ≤ 100000 := by rw [cod_len]; omega
      have hu100 : (cod sg u).length ≤ 100000 := by rw [cod_len]; omega
      refine r_lenZ ha100 ?_
      walk_at "go"
      refine ⟨by simp [sizeLine], fun q hq => ?_⟩
      have eK : ([V.int (((cod sg told[i].2).length : Nat) + ((cod sg u).length : Nat) : Int), V.int (((cod sg told[i].2).length : Nat) : Int), V.str (S (cod sg told[i].2)), V.int (((cod sg u).length : Nat) : Int), V.str (S (cod sg u))] : List V) = [.int ((tot (told[i].2, u) : Nat) : Int), .int ((told[i].2.length : Nat) : Int), .str (S (cod sg told[i].2)), .int ((u.length : Nat) : Int), .str (S (cod sg u))] := by
        rw [cod_len, cod_len]
        rfl
      rw [eK]
      have s5 := same_new (o := .tup [.int ((tot (told[i].2, u) : Nat) : Int), .int ((told[i].2.length : Nat) : Int), .str (S (cod sg told[i].2)), .int ((u.length : Nat) : Int), .str (S (cod sg u))]) hq
      have KT5 : KeyT sg (upd H4 q (.tup [.int ((tot (told[i].2, u) : Nat) : Int), .int ((told[i].2.length : Nat) : Int), .str (S (cod sg told[i].2)), .int ((u.length : Nat) : Int), .str (S (cod sg u))])) q (told[i].2, u) := upd_same
      generalize upd H4 q (.tup [.int ((tot (told[i].2, u) : Nat) : Int), .int ((told[i].2.length : Nat) : Int), .str (S (cod sg told[i].2)), .int ((u.length : Nat) : Int), .str (S (cod sg u))]) = H5 at s5 KT5 ⊢
      have s25 := s24.trans s5
      have hcl : CL sg.length (told[i].2, u) := ⟨hw.1, g1⟩
      have hpu := (hprC u).symm.trans g2
      have hmin : ∀ t, Ltk sg.length t → wantC rows gs both (wd sg l1) (wd sg l2) (told[i].2, t) = true → sle u t := fun t ht h => g3 t ht ((hprC t).trans h)
      walk_at "go"
      have hbq5 := s25 _ _ hbq
      have BL5 := BL.same s25
      refine ⟨!xs.isEmpty, .inl ⟨xs, SqL.of hbq5, rfl⟩, ?_⟩
      cases bo with
      | none =>
        have hxs : xs = [] := BL5
        subst hxs
        refine ite_yes (by simp) ?_
        walk_at "go"
        refine ⟨by decide, fun b6 hb6 => ?_⟩
        have s6 := same_new (o := .lst [.ref q]) hb6
        refine ⟨b6, [.ref q], some (told[i].2, u), _, _, _, _, _, rfl, (s2.trans s25).trans s6, upd_same, ⟨q, rfl, s6 _ _ KT5, by simp; omega, by simp; omega⟩, ?_⟩
        rw [htk]
        exact BI.new (.inl rfl) hcl hpu hmin
      | some c =>
        obtain ⟨q0, hxs, K0, z1, z2⟩ := BL5
        subst hxs
        refine ite_no (by simp) ?_
        walk_at "go"
        refine r_ixL (SqL.of hbq5) rfl ?_
        refine ⟨keyD sg (told[i].2, u), keyD sg c, KT5.dp, K0.dp, rfl, (fun z => by cases z), by simp [keyD, PyData.depth, PyData.depthAll], ?_⟩
        walk_at "go"
        refine iteB (fun hlt => ?_) (fun hlt => ?_)
        · walk_at "go"
          refine ⟨by decide, fun b6 hb6 => ?_⟩
          have s6 := same_new (o := .lst [.ref q]) hb6
          refine ⟨b6, [.ref q], some (told[i].2, u), _, _, _, _, _, rfl, (s2.trans s25).trans s6, upd_same, ⟨q, rfl, s6 _ _ KT5, by simp; omega, by simp; omega⟩, ?_⟩
          rw [htk]
          exact BI.new (.inr ⟨c, rfl, (key_lt asc hcl BI.1).mp hlt⟩) hcl hpu hmin
        · walk_at "go"
          refine ⟨bq, [.ref q0], some c, _, _, _, _, _, rfl, s2.trans s25, hbq5, ⟨q0, rfl, K0, z1, z2⟩, ?_⟩
          rw [htk]
          exact BI.keep (fun z => by rw [(key_lt asc hcl BI.1).mpr z] at hlt; cases hlt) hmin
  · rintro σ H2 ⟨bq, xs, bo, u1, u2, u3, u4, u5, rfl, s2, hbq, BL, BI⟩
    rw [← lty, List.take_length] at BI
    have LC := BI.fin B1 (Nat.le_refl _)
    walk_at "go"
    refine ⟨!xs.isEmpty, .inl ⟨xs, SqL.of hbq, rfl⟩, ?_⟩
    cases bo with
    | none =>
      have hxs : xs = [] := BL
      subst hxs
      refine ite_no (by simp) ?_
      walk_at "go"
      exact k _ none H2 (s01.trans s2) LC rfl
    | some c =>
      obtain ⟨q0, hxs, K0, z1, z2⟩ := BL
      subst hxs
      refine ite_yes (by simp) ?_
      walk_at "go"
      refine r_ixL (SqL.of hbq) rfl ?_
      walk_at "go"
      refine r_ixT (SqT.of K0) rfl ?_
      walk_at "go"
      refine r_ixL (SqL.of hbq) rfl ?_
      walk_at "go"
      refine r_ixT (SqT.of K0) rfl ?_
      walk_at "go"
      refine ⟨by decide, fun r hr => ?_⟩
      exact k _ (some c) _ ((s01.trans s2).trans (same_new hr)) LC ⟨⟨r, rfl, upd_same⟩, z1, z2⟩
end

end K18
end
section
set_option maxRecDepth 100000
set_option maxHeartbeats 4000000
local macro_rules | `(tactic| walk_at "go1") => `(tactic| first
  | (with_reducible refine K18.r_seq ?_) | (with_reducible refine K18.r_ifs ?_) | (with_reducible refine K18.r_ret ?_) | (with_reducible refine K18.r_asg ?_) | (with_reducible refine K18.r_drop ?_) | (with_reducible refine K18.r_next ?_)
  | (with_reducible refine K18.r_name ?_) | (with_reducible refine K18.r_var rfl ?_) | (with_reducible refine K18.r_c ?_) | (with_reducible refine K18.r_op ?_) | (with_reducible refine K18.r_cons ?_) | (with_reducible refine K18.r_nil ?_)
  | (with_reducible refine K18.r_cb ?_) | (with_reducible refine K18.r_call ?_) | (with_reducible refine K18.r_make ?_) | (with_reducible refine K18.r_B ?_) | (with_reducible refine K18.r_test ?_) | (with_reducible refine K18.r_or ?_) | (with_reducible refine K18.r_and ?_) | (with_reducible refine K18.r_not ?_)
  | (with_reducible refine K18.r_andV ?_) | (with_reducible refine K18.r_orV ?_) | (with_reducible refine K18.r_notV ?_) | (with_reducible refine K18.r_if ?_) | (with_reducible refine K18.r_aug rfl ?_) | (with_reducible refine K18.r_ip ?_)
  | (with_reducible refine K18.r_I0 ?_) | (with_reducible refine K18.r_int1 ?_) | (with_reducible refine K18.r_mod (by first | decide | omega) ?_) | (with_reducible refine K18.r_fdivN (by first | decide | omega) (by first | decide | omega) ?_) | (with_reducible refine K18.r_mulR (by first | decide | omega) (by first | decide | omega) ?_) | (with_reducible refine K18.r_mulL (by first | decide | omega) (by first | decide | omega) ?_) | (with_reducible refine K18.r_inG ?_) | (with_reducible refine K18.r_notInG ?_) | (with_reducible refine K18.r_ltS ?_) | (with_reducible refine K18.r_ex ?_) | (with_reducible refine K18.r_eqI ?_) | (with_reducible refine K18.r_neI ?_) | (with_reducible refine K18.r_eqB ?_) | (with_reducible refine K18.r_neB ?_) | (with_reducible refine K18.r_isN ?_)
  | (with_reducible refine K18.r_tup ?_) | (with_reducible refine K18.r_lst ?_) | (with_reducible refine K18.r_yes ?_) | (with_reducible refine K18.r_gsub ?_) | (with_reducible refine K18.r_dget ?_) | (with_reducible refine K18.r_sl ?_) | (with_reducible refine K18.r_part ?_) | (with_reducible refine K18.r_nopart ?_)
  | (with_reducible refine K18.r_chain ?_) | (with_reducible refine K18.r_bm ?_) | (with_reducible refine K18.iteT ?_) | (with_reducible refine K18.iteF ?_) | (with_reducible refine K18.iteNT ?_) | (with_reducible refine K18.iteNF ?_)
  | (with_reducible refine K18.r_for ?_) | (with_reducible refine K18.r_while ?_) | (with_reducible refine K18.r_lc ?_) | (with_reducible refine K18.r_iR1 ?_) | (with_reducible refine K18.r_iR2 ?_) | (with_reducible refine K18.r_iL ?_) | (with_reducible refine K18.r_iT ?_) | (with_reducible refine K18.r_iS ?_)
  | dsimp only [L2.start, List.map, List.replicate, List.length, List.cons_append, List.nil_append, List.append_nil, Nat.reduceAdd, Nat.reduceSub, List.set])
local macro_rules | `(tactic| walk_at "go") => `(tactic| repeat walk_at "go1")
local macro_rules | `(tactic| walk_at "go1") => `(tactic| first
  | (with_reducible refine K18.r_dnotin ?_) | (with_reducible refine K18.r_din ?_) | (with_reducible refine K18.r_dput ?_) | (with_reducible refine K18.r_dnewK ?_) | (with_reducible refine K18.r_dnewT ?_)
  | (with_reducible refine K18.r_gtup ?_) | (with_reducible refine K18.r_gcons ?_) | (with_reducible refine K18.r_gnil ?_) | (with_reducible refine K18.r_iAny ?_) | (with_reducible refine K18.r_lenZ (by first | assumption | omega) ?_))
local macro_rules | `(tactic| walk_at "go1") => `(tactic| first
  | (with_reducible refine K18.r_notN ?_) | (with_reducible refine K18.r_truth ?_))
namespace K18
open PySem PySem.Spec PyProof.Rows L2
/-! ### a dict comprehension over range(n) -/
def DcG (J : It) (g : TG) (tt : TT) (tk tv : TE) (vs : List Nat) (σ : L2.St) (H1 : Hp) (D : Addr) (Qd : Hp → Prop) : Prop := ∃ W : Nat → Nat → Hp → Prop, (∃ m, W 0 m (upd H1 D (.dK []))) ∧ ∀ i m H, W i m H →
  (J.stop i H ∧ Qd H) ∨ (J.go i H ∧ ∃ Nx : Hp → Prop, (∀ H', Nx H' → ∃ m', m' < m ∧ W (i + 1) m' H') ∧ ∀ x H', J.yld i H x H' → g x (wipe σ vs) H' fun σ2 H2 => wipe σ2 vs = wipe σ vs ∧ tt σ2 H2 fun b H3 =>
    if b = true then tk σ2 H3 fun y H4 => tv σ2 H4 fun z H5 => ∃ kvs k, y = kV k ∧ H5 D = some (.dK kvs) ∧ kvs.length < sizeLine ∧ Nx (upd H5 D (.dK (putK kvs k z))) else Nx H3)
theorem r_dc {wi : TI} {g : TG} {tt : TT} {tk tv : TE} {vs : List Nat} {σ : L2.St} {H : Hp} {Q : VK} (h : wi σ H fun J H1 => ∀ D, H1 D = none → DcG J g tt tk tv vs σ H1 D (Q (.ref D))) : tDc wi g tt tk tv vs σ H Q := h
theorem dc_R {n j : Nat} {tk tv : TE} {σ : L2.St} {H1 : Hp} {D : Addr} {Qd : Hp → Prop} (Pv : Nat → Hp → Prop) (h0 : Pv 0 (upd H1 D (.dK [])))
    (hs : ∀ (i : Nat) H, i < n → Pv i H → tk ((σ.set j none).set j (some (.int ((i : Nat) : Int)))) H fun y H4 => tv ((σ.set j none).set j (some (.int ((i : Nat) : Int)))) H4 fun z H5 => ∃ kvs k, y = kV k ∧ H5 D = some (.dK kvs) ∧ kvs.length < sizeLine ∧ Pv (i + 1) (upd H5 D (.dK (putK kvs k z))))
    (hd : ∀ H, Pv n H → Qd H) : DcG (Itr 0 ((n : Nat) : Int).toNat) (gName j) tYes tk tv [j] σ H1 D Qd := by
  rw [show ((n : Nat) : Int).toNat = n by omega]
  refine ⟨fun i m H => m = n - i ∧ i ≤ n ∧ Pv i H, ⟨n, by simp, Nat.zero_le _, h0⟩, ?_⟩
  rintro i m H ⟨rfl, hi, p⟩
  by_cases hlt : i < n
  · refine .inr ⟨by simpa [Itr] using hlt, Pv (i + 1), fun H' p' => ⟨n - (i + 1), by omega, rfl, hlt, p'⟩, fun x H' y => ?_⟩
    obtain ⟨e, h⟩ := y
    subst e
    subst h
    refine ⟨wipe1 σ j _, ?_⟩
    refine r_yes ?_
    refine L2.iteT ?_
    have e0 : (0 : Int) + ((i : Nat) : Int) = ((i : Nat) : Int) := Int.zero_add _
    show tk ((σ.set j none).set j (some (V.int ((0 : Int) + ((i : Nat) : Int))))) _ _
    rw [e0]
    exact hs i _ hlt p
  · have e : i = n := by omega
    subst e
    exact .inl ⟨by simp [Itr], hd H p⟩
/-- a walk as an object -/
def WalkO (K : PySem.W.Frag) (H : Hp) (p : Addr) (sg : List Nat) (L : List (List Nat)) (E : List Nat) : Prop := ∃ dx vl ve, H p = some (.ins (He.ga K "Walk") dx [("signs", .str (S sg)), ("rows", vl), ("goals", ve)]) ∧ RowsT K H vl L ∧ RowT K H ve E
theorem WalkO.same {K : PySem.W.Frag} {H H' : Hp} {p : Addr} {sg : List Nat} {L : List (List Nat)} {E : List Nat} (h : WalkO K H p sg L E) (e : Same H H') : WalkO K H' p sg L E := let ⟨dx, vl, ve, h1, h2, h3⟩ := h; ⟨dx, vl, ve, e _ _ h1, h2.kp (same_kp e), h3.kp (same_kp e)⟩
theorem r_fld {K : PySem.W.Frag} {ta : TE} {f : Str} {σ : L2.St} {H : Hp} {Q : VK} (h : ta σ H fun x H1 => ∃ a C dx fs v, x = .ref a ∧ H1 a = some (.ins C dx fs) ∧ Cls K C ∧ NoAttr K C f ∧ fs.lookup f = some v ∧ Q v H1) : tFld K ta f σ H Q := h
local macro_rules | `(tactic| walk_at "go1") => `(tactic| first
  | (with_reducible refine K18.r_dc ?_) | (with_reducible refine K18.r_fld ?_))
section
variable {P : Program} {w : World} {K : PySem.W.Frag} {mg : Str → Option Value} {base : Heap}
def spIsTup (K : PySem.W.Frag) : Sp := fun vs H Q _ => ∃ (a lo hi : Nat) (xs : List V), vs = [.ref a, .int ((lo : Nat) : Int), .int ((hi : Nat) : Int)] ∧ (SqL K H a xs ∨ SqT K H a xs) ∧ lo ≤ xs.length ∧ xs.length ≤ hi ∧ ∀ H', Same H H' → Q (.bl true) H'
theorem sc_is_tuple : FnScope ["thing", "low", "high"] ["thing", "low", "high"] (defScope s_is_tuple) := ⟨rfl, rfl, rfl, by decide +kernel, rfl, by decide +kernel, by decide +kernel⟩
theorem ok_is_tuple (T : Tx K mg) : C1 P w K mg base CX0 1 "is_tuple" ["thing", "low", "high"] (spIsTup K) := by
  obtain ⟨fd, F⟩ := d_is_tuple T
  refine .mk1 F (g_is_tuple T) (fun _ _ _ _ _ _ us hl => match us, hl with | [_, _, _], _ => rfl) sc_is_tuple (fun vs H Q E h => ?_) (fun cdv A outer s H vs Q E hr h => ?_)
  · obtain ⟨a, lo, hi, xs, rfl, hs, h1, h2, k⟩ := h
    rfl
  obtain ⟨a, lo, hi, xs, rfl, hs, h1, h2, k⟩ := h
  have hu := hu_of hr
  have hu64 := hu64_of hr
  have hu6 := hu64' hr
  refine ⟨_, (pss_one (ps_ret (pe_and (pe_callB (call_isiTK K (by rfl)) (by rfl) (f_isinstance T) (by decide +kernel) (pa_cons (pv 0) (pa_cons (pe_tup (pa_cons (pe_bltn (v := .ty "list") (by rfl) (f_list T) (by decide +kernel) rfl) (pa_cons (pe_bltn (v := .ty "tuple") (by rfl) (f_tuple T) (by decide +kernel) rfl) pa_nil))) pa_nil))) (pe_one (pe_chain op_le op_le (pv 1) (pe_callB (call_lenK K (by rfl)) (by rfl) (f_len T) PySem.boot_len (pa_cons (pv 0) pa_nil)) (pv 2)))))), ?_⟩
  walk_at "go"
  refine ⟨by decide, fun t ht => ?_⟩
  have ss := same_new (o := .tup [.ty "list", .ty "tuple"]) ht
  have fin : ∀ {b1 b2 : Bool} {n : String}, TyX K (upd H t (.tup [.ty "list", .ty "tuple"])) (.ref a) (.type n) → kitB n "list" = some b1 → kitB n "tuple" = some b2 → (b1 || b2) = true → ∀ Q' : VK, Q' (.bl true) (upd H t (.tup [.ty "list", .ty "tuple"])) → rIsiT K [.ref a, .ref t] (upd H t (.tup [.ty "list", .ty "tuple"])) Q' := fun ty e1 e2 hb Q' q => r_isi2 (m1 := "list") (m2 := "tuple") upd_same ty e1 e2 (by rw [hb]; exact q)
  have hs' : SqL K (upd H t (.tup [.ty "list", .ty "tuple"])) a xs ∨ SqT K (upd H t (.tup [.ty "list", .ty "tuple"])) a xs := by
    rcases hs with h | h
    · exact .inl (ss.seq h)
    · exact .inr (sqT_same ss h)
  walk_at "go"
  have isi : ∀ Q' : VK, Q' (.bl true) (upd H t (.tup [.ty "list", .ty "tuple"])) → rIsiT K [.ref a, .ref t] (upd H t (.tup [.ty "list", .ty "tuple"])) Q' := fun Q' q => by
    rcases hs' with h | h
    · exact fin (tyx_L h) (b1 := true) (b2 := false) (by decide +kernel) (by decide +kernel) rfl Q' q
    · exact fin (tyx_T h) (b1 := false) (b2 := true) (by decide +kernel) (by decide +kernel) rfl Q' q
  refine isi _ ?_
  walk_at "go"
  refine ⟨a, xs, rfl, hs', ?_⟩
  walk_at "go"
  refine iteD (fun h => ?_) (fun h => absurd (by omega) h)
  walk_at "go"
  rw [decide_eq_true (show ((xs.length : Nat) : Int) ≤ ((hi : Nat) : Int) by omega)]
  exact k _ ss
def spMade (K : PySem.W.Frag) : Sp := fun vs H Q _ => ∃ (t : V) (sg : List Nat) (lo hi : Nat), vs = [t, .str (S sg), .int ((lo : Nat) : Int), .int ((hi : Nat) : Int)] ∧
  ((∃ l, t = .str (S l) ∧ l.length ≤ 1000 ∧ ∀ H', Same H H' → Q (.bl (decide (lo ≤ l.length) && decide (l.length ≤ hi) && l.all fun c => decide (c ∈ sg))) H') ∨ (∃ n, TyX K H t (.type n) ∧ kitB n "str" = some false ∧ Q (.bl false) H))
theorem sc_made_of : FnScope ["thing", "signs", "low", "high", "sign"] ["thing", "signs", "low", "high"] (defScope s_made_of) := ⟨rfl, rfl, rfl, by decide +kernel, rfl, by decide +kernel, by decide +kernel⟩
theorem ok_made_of (T : Tx K mg) : C1 P w K mg base CX0 1 "made_of" ["thing", "signs", "low", "high"] (spMade K) := by
  obtain ⟨fd, F⟩ := d_made_of T
  refine .mk1 F (g_made_of T) (fun _ _ _ _ _ _ us hl => match us, hl with | [_, _, _, _], _ => rfl) sc_made_of (fun vs H Q E h => ?_) (fun cdv A outer s H vs Q E hr h => ?_)
  · obtain ⟨t, sg, lo, hi, rfl, k⟩ := h
    rfl
  obtain ⟨t, sg, lo, hi, rfl, k⟩ := h
  have hu := hu_of hr
  have hu64 := hu64_of hr
  have hu6 := hu64' hr
  refine ⟨_, (pss_cons (ps_if (pw_or (pt_not (pt_val (pe_callB (call_isiK K (by rfl)) (by rfl) (f_isinstance T) (by decide +kernel) (pa_cons (pv 0) (pa_cons (pe_bltn (v := .ty "str") (by rfl) (f_str T) (by decide +kernel) rfl) pa_nil))))) (pw_or1 (pt_not (pt_chain op_le op_le (pv 2) (pe_callB call_lenZ (by rfl) (f_len T) PySem.boot_len (pa_cons (pv 0) pa_nil)) (pv 3))))).pt (pss_one (ps_ret pe_bl)) pss_nil)
      (pss_one (ps_ret (pe_callB (cr_allK K (by rfl) rfl) (by rfl) (f_all T) (by decide +kernel) (pa_cons (pe_lc (own := [("sign", 4)]) (g := gName 4) (by rfl) sc_made_of.nd (pi_str (pv 0)) (blkOk_by (own := [("sign", 4)]) (by kernel_rfl)) (fun _ _ _ _ _ => pg_name (i := 4) sc_made_of.nd rfl (Or.inl rfl)) (fun _ _ _ _ _ => pts_nil) (fun _ _ _ _ _ => (pe_cmpR op_inG (pv 4) (pv 1) (by rfl)))) pa_nil))))), ?_⟩
  walk_at "go"
  rcases k with ⟨l, rfl, hz, k⟩ | ⟨n, ty, e, k⟩
  · refine r_isi (tyx_s _) (b := true) (by decide +kernel) ?_
    walk_at "go"
    refine iteD (fun h => ?_) (fun h => ?_)
    · rw [decide_eq_true (show lo ≤ l.length by omega), Bool.true_and] at k
      walk_at "go"
      refine iteND (fun h2 => ?_) (fun h2 => ?_)
      · walk_at "go"
        rw [decide_eq_false (show ¬ l.length ≤ hi by omega), Bool.false_and] at k
        exact k H (Same.refl _)
      · rw [decide_eq_true (show l.length ≤ hi by omega), Bool.true_and] at k
        walk_at "go"
        refine ⟨_, rfl, fun D hD => ?_⟩
        refine lcg_S (fun c => .bl (decide (c ∈ sg))) (by omega) hD ?_ ?_
        · intro c H1 hc s1 Q1 k1
          walk_at "go"
          exact k1 _ (Same.refl _)
        · intro H1 s1 hL
          walk_at "go"
          refine ⟨D, l.map fun c => decide (c ∈ sg), rfl, SqL.of (by rw [hL]; simp), ?_⟩
          rw [List.all_map]
          exact k H1 s1
    · walk_at "go"
      rw [decide_eq_false (show ¬ lo ≤ l.length by omega), Bool.false_and, Bool.false_and] at k
      exact k H (Same.refl _)
  · refine r_isi ty e ?_
    walk_at "go"
    exact k
def spAsc : Sp := fun vs H Q _ => ∃ l : List Nat, vs = [.str (S l)] ∧ 1 ≤ l.length ∧ l.length ≤ 100 ∧ l.Pairwise (· < ·) ∧ ∀ H', Same H H' → Q (.bl true) H'
theorem sc_ascending : FnScope ["text", "k"] ["text"] (defScope s_ascending) := ⟨rfl, rfl, rfl, by decide +kernel, rfl, by decide +kernel, by decide +kernel⟩
theorem ok_ascending (T : Tx K mg) : C1 P w K mg base CX0 1 "ascending" ["text"] spAsc := by
  obtain ⟨fd, F⟩ := d_ascending T
  refine .mk1 F (g_ascending T) (fun _ _ _ _ _ _ us hl => match us, hl with | [_], _ => rfl) sc_ascending (fun vs H Q E h => ?_) (fun cdv A outer s H vs Q E hr h => ?_)
  · obtain ⟨l, rfl, h1, hz, asc, k⟩ := h
    rfl
  obtain ⟨l, rfl, h1, hz, asc, k⟩ := h
  have hu := hu_of hr
  have hu64 := hu64_of hr
  have hu6 := hu64' hr
  refine ⟨_, (pss_one (ps_ret (pe_callB (cr_allK K (by rfl) rfl) (by rfl) (f_all T) (by decide +kernel) (pa_cons (pe_lc (own := [("k", 1)]) (g := gName 1) (by rfl) sc_ascending.nd (pi_range1 (by rfl) (f_range T) (pa_cons (pe_op op_sub (pe_callB call_lenZ (by rfl) (f_len T) PySem.boot_len (pa_cons (pv 0) pa_nil)) pe_int) pa_nil)) (blkOk_by (own := [("k", 1)]) (by kernel_rfl)) (fun _ _ _ _ _ => pg_name (i := 1) sc_ascending.nd rfl (Or.inl rfl)) (fun _ _ _ _ _ => pts_nil) (fun _ _ _ _ _ => (pe_cmpR op_ltS (pe_ix ix_str (pv 0) (pv 1) (fun _ _ => rfl)) (pe_ix ix_str (pv 0) (pe_op op_add (pv 1) pe_int) (fun _ _ => rfl)) (nomark _)))) pa_nil)))), ?_⟩
  walk_at "go"
  rw [show ((l.length : Nat) : Int) - 1 = ((l.length - 1 : Nat) : Int) by omega]
  refine ⟨_, rfl, by omega, by omega, fun D hD => ?_⟩
  refine lcg_R (fun _ => .bl true) (by omega) hD ?_ ?_
  · intro i H1 hi s1 Q1 k1
    walk_at "go"
    refine r_ixS (r := i) (by omega) (by omega) ?_
    walk_at "go"
    rw [show ((i : Nat) : Int) + 1 = ((i + 1 : Nat) : Int) by omega]
    refine r_ixS (r := i + 1) (by omega) (by omega) ?_
    walk_at "go"
    have := List.pairwise_iff_getElem.mp asc i (i + 1) (by omega) (by omega) (by omega)
    rw [decide_eq_true (lex_one this)]
    exact k1 _ (Same.refl _)
  · intro H1 s1 hL
    walk_at "go"
    refine ⟨D, (List.range (l.length - 1)).map fun _ => true, rfl, SqL.of (by rw [hL]; simp), ?_⟩
    rw [show ((List.range (l.length - 1)).map fun _ => true).all id = true by simp]
    exact k H1 s1
def spSgnT : Sp := fun vs H Q _ => ∃ sg : List Nat, vs = [.str (S sg)] ∧ Sgn sg ∧ ∀ H', Same H H' → Q (.bl true) H'
theorem sc_is_signs : FnScope ["thing"] ["thing"] (defScope s_is_signs) := ⟨rfl, rfl, rfl, by decide +kernel, rfl, by decide +kernel, by decide +kernel⟩
theorem ok_is_signs (T : Tx K mg) : C1 P w K mg base CX0 2 "is_signs" ["thing"] spSgnT := by
  obtain ⟨fd, F⟩ := d_is_signs T
  refine .mk1 F (g_is_signs T) (fun _ _ _ _ _ _ us hl => match us, hl with | [_], _ => rfl) sc_is_signs (fun vs H Q E h => ?_) (fun cdv A outer s H vs Q E hr h => ?_)
  · obtain ⟨sg, rfl, G, k⟩ := h
    rfl
  obtain ⟨sg, rfl, G, k⟩ := h
  have hu := hu_of hr
  have hu64 := hu64_of hr
  have hu6 := hu64' hr
  obtain ⟨t1, h_SIGNS⟩ := v_SIGNS T
  refine ⟨_, (pss_one (ps_ret (pe_and (pe_c1 (ok_made_of T) (hr.mono (by decide)) (by rfl) (pa_cons (pv 0) (pa_cons (pe_glob (v := .str "0123456789ABCDEFGHIJKLMNOPQRSTUVWXYZ") (by rfl) h_SIGNS ⟨_, rfl⟩) (pa_cons pe_int (pa_cons pe_int pa_nil))))) (pe_one (pe_c1 (ok_ascending T) (hr.mono (by decide)) (by rfl) (pa_cons (pv 0) pa_nil)))))), ?_⟩
  walk_at "go"
  have hl := G.len
  rw [EV_str]
  refine ⟨.str (S sg), EV, 2, 12, rfl, .inl ⟨sg, rfl, by omega, fun H1 s1 => ?_⟩⟩
  rw [show (decide (2 ≤ sg.length) && decide (sg.length ≤ 12) && sg.all fun c => decide (c ∈ EV)) = true by
    rw [decide_eq_true (show 2 ≤ sg.length by omega), decide_eq_true (show sg.length ≤ 12 by omega), show (sg.all fun c => decide (c ∈ EV)) = true from List.all_eq_true.mpr fun c hc => decide_eq_true (G.ev c hc)]
    rfl]
  walk_at "go"
  exact ⟨sg, rfl, by omega, by omega, G.asc, fun H2 s2 => k H2 (s1.trans s2)⟩
def spChkS : Sp := fun vs H Q _ => ∃ sg : List Nat, vs = [.str (S sg)] ∧ Sgn sg ∧ ∀ H', Same H H' → Q .non H'
theorem sc_check_signs_of : FnScope ["signs"] ["signs"] (defScope s_check_signs_of) := ⟨rfl, rfl, rfl, by decide +kernel, rfl, by decide +kernel, by decide +kernel⟩
theorem ok_check_signs_of (T : Tx K mg) : C1 P w K mg base CX0 3 "check_signs_of" ["signs"] spChkS := by
  obtain ⟨fd, F⟩ := d_check_signs_of T
  refine .mk1 F (g_check_signs_of T) (fun _ _ _ _ _ _ us hl => match us, hl with | [_], _ => rfl) sc_check_signs_of (fun vs H Q E h => ?_) (fun cdv A outer s H vs Q E hr h => ?_)
  · obtain ⟨sg, rfl, G, k⟩ := h
    rfl
  obtain ⟨sg, rfl, G, k⟩ := h
  have hu := hu_of hr
  have hu64 := hu64_of hr
  have hu6 := hu64' hr
  refine ⟨_, (pss_one (ps_if (pt_not (pt_val (pe_c1 (ok_is_signs T) (hr.mono (by decide)) (by rfl) (pa_cons (pv 0) pa_nil)))) (pss_one (ps_never)) pss_nil)), ?_⟩
  walk_at "go"
  refine ⟨sg, rfl, G, fun H1 s1 => ?_⟩
  walk_at "go"
  exact k H1 s1
def spChk : Sp := fun vs H Q _ => ∃ sg l : List Nat, vs = [.str (S sg), .str (S l)] ∧ Pap sg l ∧ l.length ≤ 60 ∧ ∀ H', Same H H' → Q .non H'
theorem sc_check_paper : FnScope ["signs", "paper"] ["signs", "paper"] (defScope s_check_paper) := ⟨rfl, rfl, rfl, by decide +kernel, rfl, by decide +kernel, by decide +kernel⟩
theorem ok_check_paper (T : Tx K mg) : C1 P w K mg base CX0 2 "check_paper" ["signs", "paper"] spChk := by
  obtain ⟨fd, F⟩ := d_check_paper T
  refine .mk1 F (g_check_paper T) (fun _ _ _ _ _ _ us hl => match us, hl with | [_, _], _ => rfl) sc_check_paper (fun vs H Q E h => ?_) (fun cdv A outer s H vs Q E hr h => ?_)
  · obtain ⟨sg, l, rfl, pl, hz, k⟩ := h
    rfl
  obtain ⟨sg, l, rfl, pl, hz, k⟩ := h
  have hu := hu_of hr
  have hu64 := hu64_of hr
  have hu6 := hu64' hr
  obtain ⟨t1, h_MOST_SIGNS⟩ := v_MOST_SIGNS T
  refine ⟨_, (pss_one (ps_if (pt_not (pt_val (pe_c1 (ok_made_of T) (hr.mono (by decide)) (by rfl) (pa_cons (pv 1) (pa_cons (pv 0) (pa_cons pe_int (pa_cons (pe_glob (v := .int 60) (by rfl) h_MOST_SIGNS ⟨_, rfl⟩) pa_nil))))))) (pss_one (ps_never)) pss_nil)), ?_⟩
  walk_at "go"
  refine ⟨.str (S l), sg, 0, 60, rfl, .inl ⟨l, rfl, by omega, fun H1 s1 => ?_⟩⟩
  rw [show (decide (0 ≤ l.length) && decide (l.length ≤ 60) && l.all fun c => decide (c ∈ sg)) = true by
    rw [decide_eq_true (Nat.zero_le _), decide_eq_true hz, show (l.all fun c => decide (c ∈ sg)) = true from List.all_eq_true.mpr fun c hc => decide_eq_true (pl c hc)]
    rfl]
  walk_at "go"
  exact k H1 s1
def spVals : Sp := fun vs H Q _ => ∃ sg l : List Nat, vs = [.str (S sg), .str (S l)] ∧ Pap sg l ∧ l.length ≤ 1000 ∧ sg.length ≤ 12 ∧ sg.Pairwise (· < ·) ∧ ∀ p H', Same H H' → H p = none → H' p = some (.lst (rI (wd sg l))) → Q (.ref p) H'
theorem ix_nd {l : List Nat} (asc : l.Pairwise (· < ·)) {i : Nat} (h : i < l.length) : ix l[i] l = i := ix_of (asc.imp fun h => Nat.ne_of_lt h) (List.getElem?_eq_some_iff.mpr ⟨h, rfl⟩)
theorem sc_values_of : FnScope ["signs", "paper", "places", "k", "sign"] ["signs", "paper"] (defScope s_values_of) := ⟨rfl, rfl, rfl, by decide +kernel, rfl, by decide +kernel, by decide +kernel⟩
theorem ok_values_of (T : Tx K mg) : C1 P w K mg base CX0 1 "values_of" ["signs", "paper"] spVals := by
  obtain ⟨fd, F⟩ := d_values_of T
  refine .mk1 F (g_values_of T) (fun _ _ _ _ _ _ us hl => match us, hl with | [_, _], _ => rfl) sc_values_of (fun vs H Q E h => ?_) (fun cdv A outer s H vs Q E hr h => ?_)
  · obtain ⟨sg, l, rfl, pl, hz, h12, asc, k⟩ := h
    rfl
  obtain ⟨sg, l, rfl, pl, hz, h12, asc, k⟩ := h
  have hu := hu_of hr
  have hu64 := hu64_of hr
  have hu6 := hu64' hr
  refine ⟨_, (pss_cons (ps_set (i := 2) sc_values_of.nd rfl (Or.inr rfl) (pe_dc (own := [("k", 3)]) (g := gName 3) (by rfl) sc_values_of.nd (pi_range1 (by rfl) (f_range T) (pa_cons (pe_callB call_lenZ (by rfl) (f_len T) PySem.boot_len (pa_cons (pv 0) pa_nil)) pa_nil)) (blkOk_by (own := [("k", 3)]) (by kernel_rfl)) (fun _ _ _ _ _ => pg_name (i := 3) sc_values_of.nd rfl (Or.inl rfl)) (fun _ _ _ _ _ => pts_nil) (fun _ _ _ _ _ => (pe_ix ix_str (pv 0) (pv 3) (fun _ _ => rfl))) (fun _ _ _ _ _ => (pv 3))))
      (pss_one (ps_ret (pe_lc (own := [("sign", 4)]) (g := gName 4) (by rfl) sc_values_of.nd (pi_str (pv 1)) (blkOk_by (own := [("sign", 4)]) (by kernel_rfl)) (fun _ _ _ _ _ => pg_name (i := 4) sc_values_of.nd rfl (Or.inl rfl)) (fun _ _ _ _ _ => pts_nil) (fun _ _ _ _ _ => (pe_dget hu (pv 2) (pv 4) (fun _ _ => rfl))))))), ?_⟩
  walk_at "go"
  refine ⟨_, rfl, by omega, by omega, fun D hD => ?_⟩
  refine dc_R (fun i H' => Same H H' ∧ ∃ kvs : List (Key × V), H' D = some (.dK kvs) ∧ kvs.length ≤ i ∧ i ≤ sg.length ∧ ∀ c, c ∈ sg → valV kvs (.inr (S [c])) = if ix c sg < i then some (.int ((ix c sg : Nat) : Int)) else none) ⟨same_new hD, [], upd_same, by simp, by omega, fun c _ => rfl⟩ ?_ ?_
  · rintro i H1 hi ⟨s1, kvs, hD1, hl, _, hv⟩
    walk_at "go"
    refine r_ixS hi (by omega) ?_
    walk_at "go"
    refine ⟨kvs, .inr (S [sg[i]]), rfl, hD1, sl100' (by omega), same_mut s1 hD, _, upd_same, Nat.le_trans (length_putK _ _ _) (by omega), hi, fun c hc => ?_⟩
    rw [valV_put]
    by_cases e : c = sg[i]
    · rw [if_pos (by rw [e]), e, ix_nd asc hi, if_pos (by omega)]
    · rw [if_neg (fun z => e (List.cons.inj (S_inj (Sum.inr.inj z))).1), hv c hc]
      have ne : ix c sg ≠ i := fun z => e (by
        have := ix_get hc
        rw [z, List.getElem?_eq_getElem hi] at this
        exact (Option.some.inj this).symm)
      by_cases g : ix c sg < i
      · rw [if_pos g, if_pos (by omega)]
      · rw [if_neg g, if_neg (by omega)]
  · rintro H1 ⟨s1, kvs, hD1, hl, _, hv⟩
    walk_at "go"
    refine ⟨_, rfl, fun D2 hD2 => ?_⟩
    refine lcg_S (fun c => .int ((ix c sg : Nat) : Int)) (by omega) hD2 ?_ ?_
    · intro c H2 hc s2 Q2 k2
      walk_at "go"
      have hcs := pl c hc
      refine ⟨D, .int ((ix c sg : Nat) : Int), rfl, ?_, k2 _ (Same.refl _)⟩
      have := DGet.k (k := .inr (S [c])) (s2 _ _ hD1)
      rw [hv c hcs, if_pos (ix_lt hcs)] at this
      exact this
    · intro H2 s2 hL
      exact k D2 H2 (s1.trans s2) (s1.free hD2) (by rw [hL]; simp [rI, wd])
def spReach (K : PySem.W.Frag) : Sp := fun vs H Q _ => ∃ (p : Addr) (sg l : List Nat) (z : Nat) (L : List (List Nat)) (E : List Nat), vs = [.ref p, .str (S l), .int ((z : Nat) : Int)] ∧ WalkO K H p sg L E ∧ Tab sg.length L.length L ∧ z < L.length ∧ Pap sg l ∧ l.length ≤ 60 ∧ sg.length ≤ 12 ∧ sg.Pairwise (· < ·) ∧ ∀ H', Same H H' → Q (.int ((run (stp L) z (wd sg l) : Nat) : Int)) H'
theorem sc_Walk_reached : FnScope ["self", "paper", "start", "z", "v"] ["self", "paper", "start"] (defScope s_Walk_reached) := ⟨rfl, rfl, rfl, by decide +kernel, rfl, by decide +kernel, by decide +kernel⟩
theorem ok_Walk_reached (T : Tx K mg) : M1 P w K mg base CX0 2 (He.ga K "Walk") "reached" ["self", "paper", "start"] (spReach K) := by
  obtain ⟨fd, F⟩ := d_Walk_reached T
  refine .mk1 F (m_Walk_reached T) (c_Walk T) (fun _ _ _ _ _ _ us hl => match us, hl with | [_, _, _], _ => rfl) sc_Walk_reached (fun vs H Q E h => ?_) (fun cdv A outer s H vs Q E hr h => ?_)
  · obtain ⟨p, sg, l, z, L, E', rfl, W, Tb, hz, pl, h60, h12, asc, k⟩ := h
    rfl
  obtain ⟨p, sg, l, z, L, E', rfl, W, Tb, hz, pl, h60, h12, asc, k⟩ := h
  have hu := hu_of hr
  have hu64 := hu64_of hr
  have hu6 := hu64' hr
  refine ⟨_, (pss_cons (ps_set (i := 3) sc_Walk_reached.nd rfl (Or.inl rfl) (pv 2))
      (pss_cons (ps_for PassesOwn.never rfl (pi_listK K (by rfl) (pe_c1 (ok_values_of T) (hr.mono (by decide)) (by rfl) (pa_cons (pe_fldK K (by rfl) (pv 0)) (pa_cons (pv 1) pa_nil)))) (pg_name (i := 4) sc_Walk_reached.nd rfl (Or.inl rfl)) (pss_one (ps_set (i := 3) sc_Walk_reached.nd rfl (Or.inl rfl) (pe_ix (ix_tupK K (by rfl)) (pe_ix (ix_tupK K (by rfl)) (pe_fldK K (by rfl) (pv 0)) (pv 3) (fun _ _ => rfl)) (pv 4) (fun _ _ => rfl)))))
      (pss_one (ps_ret (pv 3))))), ?_⟩
  walk_at "go"
  obtain ⟨dx, vl, ve, hp, RL, RE⟩ := W
  refine ⟨p, _, dx, _, _, rfl, hp, c_Walk T, n_Walk_signs T, rfl, ?_⟩
  walk_at "go"
  refine ⟨sg, l, rfl, pl, by omega, h12, asc, fun q H1 s1 hq0 hq => ?_⟩
  refine ⟨q, rfl, ⟨_, SqL.of hq⟩, ?_⟩
  refine fo_L (xs := rI (wd sg l)) (fun i σ H' => ∃ u : Option V, σ = [some (.ref p), some (.str (S l)), some (.int ((z : Nat) : Int)), some (.int ((run (stp L) z ((wd sg l).take i) : Nat) : Int)), u] ∧ H' = H1) ⟨_, rfl, rfl⟩ (fun i σ H' _ ⟨_, _, e⟩ => e ▸ SqL.of hq) ?_ ?_
  · rintro i x σ H' hx ⟨u, rfl, rfl⟩
    unfold rI at hx
    rw [List.getElem?_map] at hx
    cases e : (wd sg l)[i]? with
    | none => rw [e] at hx; cases hx
    | some c =>
      rw [e] at hx
      cases hx
      have hlt := wd_ltk pl
      have hc := hlt c (List.mem_of_getElem? e)
      have hr := Tb.run_lt hz (w := (wd sg l).take i) fun x hx => hlt x (List.mem_of_mem_take hx)
      walk_at "go"
      refine ⟨p, _, dx, _, _, rfl, s1 _ _ hp, c_Walk T, n_Walk_rows T, rfl, ?_⟩
      walk_at "go"
      have RL1 := RL.kp (same_kp s1)
      obtain ⟨r, e1, e2⟩ := Tb.get2 RL1 hr hc
      refine RL1.get e1 fun y hy => ?_
      walk_at "go"
      refine hy.get e2 ?_
      walk_at "go"
      have e9 : (wd sg l).take (i + 1) = (wd sg l).take i ++ [c] := by
        rw [List.take_add_one, e]
        rfl
      refine ⟨some (.int ((c : Nat) : Int)), ?_, rfl⟩
      rw [e9, run_snoc]
  · rintro σ H' ⟨u, rfl, rfl⟩
    walk_at "go"
    rw [rI_len, List.take_length]
    exact k _ s1
def spLenW (K : PySem.W.Frag) : Sp := fun vs H Q _ => ∃ (p : Addr) (sg : List Nat) (L : List (List Nat)) (E : List Nat), vs = [.ref p] ∧ WalkO K H p sg L E ∧ Q (.int ((L.length : Nat) : Int)) H
theorem sc_Walk___len__ : FnScope ["self"] ["self"] (defScope s_Walk___len__) := ⟨rfl, rfl, rfl, by decide +kernel, rfl, by decide +kernel, by decide +kernel⟩
theorem ok_Walk___len__ (T : Tx K mg) : M1 P w K mg base CX0 1 (He.ga K "Walk") "__len__" ["self"] (spLenW K) := by
  obtain ⟨fd, F⟩ := d_Walk___len__ T
  refine .mk1 F (m_Walk___len__ T) (c_Walk T) (fun _ _ _ _ _ _ us hl => match us, hl with | [_], _ => rfl) sc_Walk___len__ (fun vs H Q E h => ?_) (fun cdv A outer s H vs Q E hr h => ?_)
  · obtain ⟨p, sg, L, E', rfl, W, k⟩ := h
    rfl
  obtain ⟨p, sg, L, E', rfl, W, k⟩ := h
  have hu := hu_of hr
  have hu64 := hu64_of hr
  have hu6 := hu64' hr
  refine ⟨_, (pss_one (ps_ret (pe_callB (call_lenK K (by rfl)) (by rfl) (f_len T) PySem.boot_len (pa_cons (pe_fldK K (by rfl) (pv 0)) pa_nil)))), ?_⟩
  walk_at "go"
  obtain ⟨dx, vl, ve, hp, RL, RE⟩ := id W
  refine ⟨p, _, dx, _, _, rfl, hp, c_Walk T, n_Walk_rows T, rfl, ?_⟩
  walk_at "go"
  obtain ⟨a, vs, rfl, hs, pr⟩ := RL
  refine r_lenQT hs ?_
  rw [← Paired.length pr]
  exact k
end

end K18
end
section
set_option maxRecDepth 100000
set_option maxHeartbeats 4000000
local macro_rules | `(tactic| walk_at "go1") => `(tactic| first
  | (with_reducible refine K18.r_seq ?_) | (with_reducible refine K18.r_ifs ?_) | (with_reducible refine K18.r_ret ?_) | (with_reducible refine K18.r_asg ?_) | (with_reducible refine K18.r_drop ?_) | (with_reducible refine K18.r_next ?_)
  | (with_reducible refine K18.r_name ?_) | (with_reducible refine K18.r_var rfl ?_) | (with_reducible refine K18.r_c ?_) | (with_reducible refine K18.r_op ?_) | (with_reducible refine K18.r_cons ?_) | (with_reducible refine K18.r_nil ?_)
  | (with_reducible refine K18.r_cb ?_) | (with_reducible refine K18.r_call ?_) | (with_reducible refine K18.r_make ?_) | (with_reducible refine K18.r_B ?_) | (with_reducible refine K18.r_test ?_) | (with_reducible refine K18.r_or ?_) | (with_reducible refine K18.r_and ?_) | (with_reducible refine K18.r_not ?_)
  | (with_reducible refine K18.r_andV ?_) | (with_reducible refine K18.r_orV ?_) | (with_reducible refine K18.r_notV ?_) | (with_reducible refine K18.r_if ?_) | (with_reducible refine K18.r_aug rfl ?_) | (with_reducible refine K18.r_ip ?_)
  | (with_reducible refine K18.r_I0 ?_) | (with_reducible refine K18.r_int1 ?_) | (with_reducible refine K18.r_mod (by first | decide | omega) ?_) | (with_reducible refine K18.r_fdivN (by first | decide | omega) (by first | decide | omega) ?_) | (with_reducible refine K18.r_mulR (by first | decide | omega) (by first | decide | omega) ?_) | (with_reducible refine K18.r_mulL (by first | decide | omega) (by first | decide | omega) ?_) | (with_reducible refine K18.r_inG ?_) | (with_reducible refine K18.r_notInG ?_) | (with_reducible refine K18.r_ltS ?_) | (with_reducible refine K18.r_ex ?_) | (with_reducible refine K18.r_eqI ?_) | (with_reducible refine K18.r_neI ?_) | (with_reducible refine K18.r_eqB ?_) | (with_reducible refine K18.r_neB ?_) | (with_reducible refine K18.r_isN ?_)
  | (with_reducible refine K18.r_tup ?_) | (with_reducible refine K18.r_lst ?_) | (with_reducible refine K18.r_yes ?_) | (with_reducible refine K18.r_gsub ?_) | (with_reducible refine K18.r_dget ?_) | (with_reducible refine K18.r_sl ?_) | (with_reducible refine K18.r_part ?_) | (with_reducible refine K18.r_nopart ?_)
  | (with_reducible refine K18.r_chain ?_) | (with_reducible refine K18.r_bm ?_) | (with_reducible refine K18.iteT ?_) | (with_reducible refine K18.iteF ?_) | (with_reducible refine K18.iteNT ?_) | (with_reducible refine K18.iteNF ?_)
  | (with_reducible refine K18.r_for ?_) | (with_reducible refine K18.r_while ?_) | (with_reducible refine K18.r_lc ?_) | (with_reducible refine K18.r_iR1 ?_) | (with_reducible refine K18.r_iR2 ?_) | (with_reducible refine K18.r_iL ?_) | (with_reducible refine K18.r_iT ?_) | (with_reducible refine K18.r_iS ?_)
  | dsimp only [L2.start, List.map, List.replicate, List.length, List.cons_append, List.nil_append, List.append_nil, Nat.reduceAdd, Nat.reduceSub, List.set])
local macro_rules | `(tactic| walk_at "go") => `(tactic| repeat walk_at "go1")
local macro_rules | `(tactic| walk_at "go1") => `(tactic| first
  | (with_reducible refine K18.r_dnotin ?_) | (with_reducible refine K18.r_din ?_) | (with_reducible refine K18.r_dput ?_) | (with_reducible refine K18.r_dnewK ?_) | (with_reducible refine K18.r_dnewT ?_)
  | (with_reducible refine K18.r_gtup ?_) | (with_reducible refine K18.r_gcons ?_) | (with_reducible refine K18.r_gnil ?_) | (with_reducible refine K18.r_iAny ?_) | (with_reducible refine K18.r_lenZ (by first | assumption | omega) ?_))
local macro_rules | `(tactic| walk_at "go1") => `(tactic| first
  | (with_reducible refine K18.r_notN ?_) | (with_reducible refine K18.r_truth ?_))
namespace K18
open PySem PySem.Spec PyProof.Rows L2
/-! ### a dict whose keys are (number, tuple of numbers), each key's value its place -/
theorem ix_cons_ne {β : Type} [DecidableEq β] {x k : β} {l : List β} (e : ¬ k = x) : ix x (k :: l) = ix x l + 1 := by
  unfold ix
  rw [List.idxOf_cons, beq_false_of_ne e]
  rfl
abbrev K2 := Nat × List Nat
def nk (z : K2) : NestedKey := .tup [.num ((z.1 : Nat) : Int), .tup (z.2.map fun x => .num ((x : Nat) : Int))]
theorem nums_inj : ∀ {l m : List Nat}, (l.map fun x => NestedKey.num ((x : Nat) : Int)) = m.map (fun x => NestedKey.num ((x : Nat) : Int)) → l = m
  | [], [], _ => rfl
  | [], _ :: _, e => by cases e
  | _ :: _, [], e => by cases e
  | x :: l, y :: m, e => by
    have h1 := NestedKey.num.inj (List.cons.inj e).1
    rw [nums_inj (List.cons.inj e).2, show x = y by omega]
theorem nk_inj {x y : K2} (e : nk x = nk y) : x = y := by
  have e1 := NestedKey.tup.inj e
  have h1 := NestedKey.num.inj (List.cons.inj e1).1
  have h2 := nums_inj (NestedKey.tup.inj (List.cons.inj (List.cons.inj e1).2).1)
  exact Prod.ext (by omega) h2
theorem nk_depth (z : K2) : (nk z).depth ≤ 8 := by
  have h : ∀ l : List Nat, NestedKey.depthAll (l.map fun x => NestedKey.num ((x : Nat) : Int)) = 0 := by
    intro l
    induction l with
    | nil => simp [NestedKey.depthAll]
    | cons a l ih => simp [NestedKey.depthAll, NestedKey.depth, ih]
  simp [nk, NestedKey.depth, NestedKey.depthAll, h]
def KeyN (H : Hp) (b : Addr) (z : K2) : Prop := ∃ c, H b = some (.tup [.int ((z.1 : Nat) : Int), .ref c]) ∧ H c = some (.tup (rI z.2))
theorem KeyN.kt {H H' : Hp} {b : Addr} {z : K2} (h : KeyN H b z) (e : Kt H H') : KeyN H' b z := let ⟨c, h1, h2⟩ := h; ⟨c, e _ _ h1, e _ _ h2⟩
section
variable {P : Program} {w : World} {H : Hp} {h : Heap} {a b : Addr} {z : K2}
theorem nums_all : ∀ {l : List Nat} {its : List Value}, Vals (rI l) its → NestedAll h (l.map fun x => NestedKey.num ((x : Nat) : Int)) its
  | [], _, r => by
    cases r
    exact .nil
  | x :: l, _, r => by
    cases r with
    | cons r t =>
      obtain ⟨tk, rfl⟩ := r
      exact .cons (.int _ _) (nums_all t)
theorem keyN_is (ok : HOk P w H h) (k : KeyN H b z) : (nestedKind P w).is h (nk z) b := by
  obtain ⟨c, h1, h2⟩ := k
  obtain ⟨_, its, r, o, g1, g2, n, g3⟩ := (show ObjOk P w H h b (.tup [.int ((z.1 : Nat) : Int), .ref c]) from ok b _ h1)
  obtain ⟨_, its2, r2, o2, f1, f2, n2, f3⟩ := (show ObjOk P w H h c (.tup (rI z.2)) from ok c _ h2)
  refine ⟨.tup g1 g2 g3 ?_, nk_depth z⟩
  cases r with
  | cons r t =>
    obtain ⟨tk, rfl⟩ := r
    cases t with
    | cons r' t' =>
      cases t'
      cases (show _ = Value.ref c from r')
      refine .cons (.int _ _) (.cons (.tup f1 f2 f3 ?_) .nil)
      simpa using nums_all r2
def RelN (H : Hp) : Nat → List K2 → List (NestedKey × Addr × Value) → Prop
  | _, [], [] => True
  | j, k :: ks, q :: xs => (q.1 = nk k ∧ KeyN H q.2.1 k ∧ ∃ t, q.2.2 = .int ((j : Nat) : Int) t) ∧ RelN H (j + 1) ks xs
  | _, _, _ => False
theorem RelN.kt {H' : Hp} (e : Kt H H') : ∀ {j : Nat} {ks : List K2} {xs : List (NestedKey × Addr × Value)}, RelN H j ks xs → RelN H' j ks xs
  | _, [], [], _ => trivial
  | _, _ :: _, _ :: _, r => ⟨⟨r.1.1, r.1.2.1.kt e, r.1.2.2⟩, RelN.kt e r.2⟩
  | _, [], _ :: _, r => r.elim
  | _, _ :: _, [], r => r.elim
theorem RelN.len : ∀ {j : Nat} {ks : List K2} {xs : List (NestedKey × Addr × Value)}, RelN H j ks xs → xs.length = ks.length
  | _, [], [], _ => rfl
  | _, _ :: _, _ :: _, r => by rw [List.length_cons, List.length_cons, RelN.len r.2]
  | _, [], _ :: _, r => r.elim
  | _, _ :: _, [], r => r.elim
theorem RelN.is (ok : HOk P w H h) : ∀ {j : Nat} {ks : List K2} {xs : List (NestedKey × Addr × Value)}, RelN H j ks xs → ∀ x ∈ xs, (nestedKind P w).is h x.1 x.2.1
  | _, [], [], _, _, hx => nomatch hx
  | _, _ :: _, _ :: _, r, x, hx => by
    rcases List.mem_cons.mp hx with e | hx
    · rw [e, r.1.1]
      exact keyN_is ok r.1.2.1
    · exact RelN.is ok r.2 x hx
  | _, [], _ :: _, r, _, _ => r.elim
  | _, _ :: _, [], r, _, _ => r.elim
theorem RelN.none {z : K2} : ∀ {j : Nat} {ks : List K2} {xs : List (NestedKey × Addr × Value)}, RelN H j ks xs → z ∉ ks → atKey xs (nk z) = none
  | _, [], [], _, _ => rfl
  | j, k :: ks, q :: xs, r, hz => by
    have ih := RelN.none r.2 (fun e => hz (List.mem_cons_of_mem _ e))
    have ne : q.1 ≠ nk z := fun e => hz (by
      rw [r.1.1] at e
      rw [nk_inj e]
      exact List.mem_cons_self)
    unfold atKey at ih ⊢
    rw [List.find?_cons, decide_eq_false ne]
    exact ih
  | _, [], _ :: _, r, _ => r.elim
  | _, _ :: _, [], r, _ => r.elim
theorem RelN.some {z : K2} : ∀ {j : Nat} {ks : List K2} {xs : List (NestedKey × Addr × Value)}, RelN H j ks xs → z ∈ ks → ∃ b t, atKey xs (nk z) = some (b, .int ((j + ix z ks : Nat) : Int) t)
  | _, [], [], _, hz => nomatch hz
  | j, k :: ks, q :: xs, r, hz => by
    by_cases e : k = z
    · subst e
      obtain ⟨t, ht⟩ := r.1.2.2
      refine ⟨q.2.1, t, ?_⟩
      unfold atKey
      rw [List.find?_cons, decide_eq_true r.1.1]
      have : ix k (k :: ks) = 0 := by simp [ix]
      rw [this]
      have e9 : q.2 = (q.2.1, Value.int ((j : Nat) : Int) t) := Prod.ext rfl ht
      exact congrArg Option.some e9
    · have hz' : z ∈ ks := by
        rcases List.mem_cons.mp hz with h | h
        · exact absurd h.symm e
        · exact h
      obtain ⟨b, t, ih⟩ := RelN.some r.2 hz'
      refine ⟨b, t, ?_⟩
      have ne : q.1 ≠ nk z := fun h => e (by
        rw [r.1.1] at h
        exact nk_inj h)
      have : ix z (k :: ks) = ix z ks + 1 := ix_cons_ne e
      unfold atKey at ih ⊢
      rw [List.find?_cons, decide_eq_false ne, this, show j + (ix z ks + 1) = j + 1 + ix z ks by omega]
      exact ih
  | _, [], _ :: _, r, _ => r.elim
  | _, _ :: _, [], r, _ => r.elim
theorem RelN.snoc {b : Addr} {z : K2} {v : Value} {t : Tok} (hk : KeyN H b z) : ∀ {j : Nat} {ks : List K2} {xs : List (NestedKey × Addr × Value)}, RelN H j ks xs → v = .int ((j + ks.length : Nat) : Int) t → RelN H j (ks ++ [z]) (xs ++ [(nk z, b, v)])
  | j, [], [], _, hv => ⟨⟨rfl, hk, t, hv⟩, trivial⟩
  | j, k :: ks, q :: xs, r, hv => ⟨r.1, RelN.snoc hk r.2 (by rw [hv, List.length_cons]; congr 2; omega)⟩
  | _, [], _ :: _, r, _ => r.elim
  | _, _ :: _, [], r, _ => r.elim
end
/-- what is true of the dict's object -/
def dnφ (P : Program) (w : World) (a : Addr) (xs : List (NestedKey × Addr × Value)) : Heap → Prop := fun h => ∃ o es ep, h.get? a = some o ∧ o.ExactDict ∧ o.data = .dict es ep ∧ es.toList = xs.map (entryOfKey (nestedKind P w)) ∧ (xs.map (·.1)).Nodup
def DN (P : Program) (w : World) (H : Hp) (a : Addr) (ks : List K2) : Prop := ∃ xs, H a = some (.ext (dnφ P w a xs)) ∧ (a == sysModules) = false ∧ ks.length ≤ sizeLine ∧ RelN H 0 ks xs
theorem DN.upd {P : Program} {w : World} {H : Hp} {a p : Addr} {ks : List K2} {o : HO} (d : DN P w H a ks) (ne : a ≠ p) (k : Kt H (L2.upd H p o)) : DN P w (L2.upd H p o) a ks := let ⟨xs, h1, h2, h3, h4⟩ := d; ⟨xs, by rw [upd_ne ne]; exact h1, h2, h3, h4.kt k⟩
theorem DN.same {P : Program} {w : World} {H H' : Hp} {a : Addr} {ks : List K2} (d : DN P w H a ks) (e : Same H H') : DN P w H' a ks := let ⟨xs, h1, h2, h3, h4⟩ := d; ⟨xs, e _ _ h1, h2, h3, h4.kt (same_kt e)⟩
theorem DN.kt {P : Program} {w : World} {H : Hp} {a : Addr} {ks : List K2} {o : HO} (d : DN P w H a ks) : Kt H (L2.upd H a o) := kt_upd fun ys z => by
  obtain ⟨xs, h, _⟩ := d
  rw [h] at z
  cases z
section
variable {X : Cx} {pins : List (Addr × Obj)} {σ : L2.St} {H : Hp} {s : Shared} {a b : Addr} {ks : List K2} {z : K2} {A : Around} {E : Value → Shared → Prop}
theorem dn_of (ok : HOk X.prog X.w H s.heap) (d : DN X.prog X.w H a ks) : ∃ xs, H a = some (.ext (dnφ X.prog X.w a xs)) ∧ (a == sysModules) = false ∧ RelN H 0 ks xs ∧ s.heap.DictOfH (nestedKind X.prog X.w) a xs := by
  obtain ⟨xs, h1, h2, _, h3⟩ := d
  obtain ⟨⟨o, es, ep, g1, g2, g3, g4, g5⟩, _, _⟩ := (show ObjOk X.prog X.w H s.heap a (.ext (dnφ X.prog X.w a xs)) from ok a _ h1)
  exact ⟨xs, h1, h2, h3, o, es, ep, g1, g2, g3, g4, h3.is ok, g5⟩
theorem nroom (hu : X.A.units + 65 < cLine) : (nestedKind X.prog X.w).room X.A.in1 := by
  show X.A.units + 1 + 8 < cLine
  omega
end
section
variable {X : Cx} (P : Program) (w : World) (hP : X.prog = P) (hw : X.w = w) {o i e value : Expr} {pos pos' tpos : Pos} {td ty tv : TE}
def tDNewN (P : Program) (w : World) : TE := fun _ H Q => ∀ p, H p = none → DN P w (upd H p (.ext (dnφ P w p []))) p [] → Q (.ref p) (upd H p (.ext (dnφ P w p [])))
def tNNotIn (P : Program) (w : World) (ty td : TE) : TE := fun σ H Q => ty σ H fun y H1 => td σ H1 fun x H2 => ∃ a b ks z, x = .ref a ∧ y = .ref b ∧ DN P w H2 a ks ∧ KeyN H2 b z ∧ Q (.bl (!decide (z ∈ ks))) H2
def tNGet (P : Program) (w : World) (td ty : TE) : TE := fun σ H Q => td σ H fun x H1 => ty σ H1 fun y H2 => ∃ a b ks z, x = .ref a ∧ y = .ref b ∧ DN P w H2 a ks ∧ KeyN H2 b z ∧ z ∈ ks ∧ Q (.int ((ix z ks : Nat) : Int)) H2
def sNPut (P : Program) (w : World) (td ty tv : TE) : TS := fun D σ H => tv σ H fun v H1 => td σ H1 fun x H2 => ty σ H2 fun y H3 => ∃ a b ks z, x = .ref a ∧ y = .ref b ∧ DN P w H3 a ks ∧ KeyN H3 b z ∧ z ∉ ks ∧ v = .int ((ks.length : Nat) : Int) ∧ ks.length < sizeLine ∧
  ∀ H4 ob, H4 = upd H3 a ob → DN P w H4 a (ks ++ [z]) → D.nx σ H4
def rLenN (P : Program) (w : World) : List V → Hp → VK → Prop := fun xs H Q => ∃ a ks, xs = [.ref a] ∧ DN P w H a ks ∧ Q (.int ((ks.length : Nat) : Int)) H
include hP hw
theorem pe_dnewN : PE X (.Dict [] [] pos) (tDNewN P w) := by
  subst hP hw
  refine ⟨fun pins s σ H Q I h => wpAny_Dict_empty ?_⟩
  have fresh := I.hok.fresh (Nat.le_refl s.heap.objs.size)
  have hd : (s.heap.objs.size == sysModules) = false := beq_eq_false_iff_ne.mpr (Ne.symm (Nat.ne_of_lt I.big))
  have ok : ∀ H' : Hp, ObjOk X.prog X.w H' (s.heap.push { cls := .type "dict", data := .dict #[] }) s.heap.objs.size (.ext (dnφ X.prog X.w s.heap.objs.size [])) := fun H' => ⟨⟨_, #[], 0, Heap.get?_push_size _ rfl, ⟨rfl, rfl, rfl⟩, rfl, rfl, List.nodup_nil⟩, ⟨_, Heap.get?_push_size _ rfl⟩, fun h1 h2 ⟨o, es, ep, g1, g⟩ k => ⟨o, es, ep, k o g1, g⟩⟩
  refine ⟨.ref s.heap.objs.size, _, I.laid (a := s.heap.objs.size) (o := .ext (dnφ X.prog X.w s.heap.objs.size [])) (t' := s.toks) (fun _ _ q => Heap.get?_push_of_some _ q) (Nat.le_refl _) (ok _), rfl, h _ fresh ⟨[], upd_same, hd, Nat.zero_le _, trivial⟩⟩
theorem pc_nnotin (hu : X.A.units + 65 < cLine) (hi : PE X i ty) (ho : PE X o td) : PC X .NotIn i o (tNNotIn P w ty td) := by
  subst hP hw
  refine ⟨fun pins s σ H Q I h => ?_⟩
  refine thn (hi.run pins s σ H _ I h) fun iv s1 ⟨y, H1, I1, ry, q1⟩ => thn (ho.run pins s1 σ H1 _ I1 q1) fun u s2 ⟨x, H2, I2, rx, a, b, ks, z, ex, ey, d, k, q2⟩ => ?_
  subst ex ey
  obtain rfl : u = Value.ref a := rx
  obtain rfl : iv = Value.ref b := ry
  obtain ⟨xs, _, hd, rel, dd⟩ := dn_of I2.hok d
  refine wpAny_notIn_heap (nroom hu) (keyN_is I2.hok k) hd dd ?_
  refine ⟨.bl (!decide (z ∈ ks)), H2, I2.tok _, ?_, q2⟩
  by_cases hz : z ∈ ks
  · obtain ⟨b', t, e⟩ := rel.some hz
    rw [e, decide_eq_true hz]
    rfl
  · rw [rel.none hz, decide_eq_false hz]
    rfl
theorem pe_nget (hu : X.A.units + 65 < cLine) (ho : PE X o td) (hi : PE X i ty) (hs : NoSl i) : PE X (.Subscript o i pos) (tNGet P w td ty) := by
  subst hP hw
  refine ⟨fun pins s σ H Q I h => ?_⟩
  refine subD_of PySem.F.slot_dict_getitem.lookup hs (thn (ho.run pins s σ H _ I h) fun u s1 ⟨x, H1, I1, rx, q1⟩ => thn (hi.run pins s1 σ H1 _ I1 q1) fun iv s2 ⟨y, H2, I2, ry, a, b, ks, z, ex, ey, d, k, hz, q2⟩ => ?_)
  subst ex ey
  obtain rfl : u = Value.ref a := rx
  obtain rfl : iv = Value.ref b := ry
  obtain ⟨xs, _, hd, rel, dd⟩ := dn_of I2.hok d
  obtain ⟨b', t, e⟩ := rel.some hz
  refine ⟨dd.typeIs, wpAny_getItem_heap (nroom hu) (keyN_is I2.hok k) dd e ?_⟩
  refine ⟨.int ((ix z ks : Nat) : Int), H2, I2.tok _, ⟨t, ?_⟩, q2⟩
  rw [Nat.zero_add]
theorem ps_nput (hu : X.A.units + 65 < cLine) (ho : PE X o td) (hi : PE X i ty) (hv : PE X value tv) (hs : swapsWith value (some (.Subscript o i pos')) pos.line X.env = pure false) :
    PS X (.Assign [.Subscript o i pos'] value pos) (sNPut P w td ty tv) := by
  subst hP hw
  refine ⟨fun pins s σ H D I h => ?_⟩
  refine wpAny_Assign_Subscript (thn (hv.run pins s σ H _ I h) fun r s1 ⟨v, H1, I1, rv, q1⟩ => thn (ho.run pins s1 σ H1 _ I1 q1) fun u s2 ⟨x, H2, I2, rx, q2⟩ => thn (hi.run pins s2 σ H2 _ I2 q2) fun iv s3 ⟨y, H3, I3, ry, a, b, ks, z, ex, ey, d, k, hz, ev, hl, q3⟩ => ?_) hs
  subst ex ey ev
  obtain rfl : u = Value.ref a := rx
  obtain rfl : iv = Value.ref b := ry
  obtain ⟨t, rfl⟩ := rv
  obtain ⟨xs, hH, hd, rel, dd⟩ := dn_of I3.hok d
  have hx : xs.length ≤ sizeLine := by
    rw [rel.len]
    omega
  refine wpAny_setItem_heap (hsz := hx) (nroom hu) (keyN_is I3.hok k) dd fun h' dd' hsb => ?_
  rw [storedH_new (rel.none hz)] at dd'
  obtain ⟨q, es, ep, hq, h2, h3, h4, _, h5⟩ := dd'
  have new : ∀ H' : Hp, ObjOk X.prog X.w H' h' a (.ext (dnφ X.prog X.w a (xs ++ [(nk z, b, .int ((ks.length : Nat) : Int) t)]))) := fun H' => ⟨⟨q, es, ep, hq, h2, h3, h4, h5⟩, ⟨_, hq⟩, fun h1 h2 ⟨o, es, ep, g1, g⟩ k => ⟨o, es, ep, k o g1, g⟩⟩
  refine ⟨σ, upd H3 a (.ext (dnφ X.prog X.w a (xs ++ [(nk z, b, .int ((ks.length : Nat) : Int) t)]))), d_write I3 (by rw [hH]; exact True.intro) hsb ⟨q, hq⟩ (new _), q3 _ _ rfl ⟨_, upd_same, hd, by rw [List.length_append]; simp; omega, ?_⟩⟩
  have kt : Kt H3 (upd H3 a (.ext (dnφ X.prog X.w a (xs ++ [(nk z, b, .int ((ks.length : Nat) : Int) t)])))) := d.kt
  exact (rel.kt kt).snoc (t := t) (k.kt kt) (by rw [Nat.zero_add])
theorem call_lenN : CallR X (.builtin "len") (rLenN P w) := by
  subst hP hw
  intro pins s σ H xs us Q I r h
  obtain ⟨p, ks, rfl, d, q⟩ := h
  obtain ⟨u, rfl, rx⟩ := vals1 r
  obtain rfl : u = .ref p := rx
  have hl := d
  obtain ⟨_, _, _, hz, _⟩ := hl
  obtain ⟨ys, _, hd, rel, dd⟩ := dn_of I.hok d
  refine call_len_dictH hd dd (by rw [rel.len]; rw [sizeLine_eq] at hz; omega) ?_
  rw [rel.len]
  exact ⟨.int ((ks.length : Nat) : Int), H, I.tok _, ⟨_, rfl⟩, q⟩
end

end K18
end
section
set_option maxRecDepth 100000
set_option maxHeartbeats 4000000
local macro_rules | `(tactic| walk_at "go1") => `(tactic| first
  | (with_reducible refine K18.r_seq ?_) | (with_reducible refine K18.r_ifs ?_) | (with_reducible refine K18.r_ret ?_) | (with_reducible refine K18.r_asg ?_) | (with_reducible refine K18.r_drop ?_) | (with_reducible refine K18.r_next ?_)
  | (with_reducible refine K18.r_name ?_) | (with_reducible refine K18.r_var rfl ?_) | (with_reducible refine K18.r_c ?_) | (with_reducible refine K18.r_op ?_) | (with_reducible refine K18.r_cons ?_) | (with_reducible refine K18.r_nil ?_)
  | (with_reducible refine K18.r_cb ?_) | (with_reducible refine K18.r_call ?_) | (with_reducible refine K18.r_make ?_) | (with_reducible refine K18.r_B ?_) | (with_reducible refine K18.r_test ?_) | (with_reducible refine K18.r_or ?_) | (with_reducible refine K18.r_and ?_) | (with_reducible refine K18.r_not ?_)
  | (with_reducible refine K18.r_andV ?_) | (with_reducible refine K18.r_orV ?_) | (with_reducible refine K18.r_notV ?_) | (with_reducible refine K18.r_if ?_) | (with_reducible refine K18.r_aug rfl ?_) | (with_reducible refine K18.r_ip ?_)
  | (with_reducible refine K18.r_I0 ?_) | (with_reducible refine K18.r_int1 ?_) | (with_reducible refine K18.r_mod (by first | decide | omega) ?_) | (with_reducible refine K18.r_fdivN (by first | decide | omega) (by first | decide | omega) ?_) | (with_reducible refine K18.r_mulR (by first | decide | omega) (by first | decide | omega) ?_) | (with_reducible refine K18.r_mulL (by first | decide | omega) (by first | decide | omega) ?_) | (with_reducible refine K18.r_inG ?_) | (with_reducible refine K18.r_notInG ?_) | (with_reducible refine K18.r_ltS ?_) | (with_reducible refine K18.r_ex ?_) | (with_reducible refine K18.r_eqI ?_) | (with_reducible refine K18.r_neI ?_) | (with_reducible refine K18.r_eqB ?_) | (with_reducible refine K18.r_neB ?_) | (with_reducible refine K18.r_isN ?_)
  | (with_reducible refine K18.r_tup ?_) | (with_reducible refine K18.r_lst ?_) | (with_reducible refine K18.r_yes ?_) | (with_reducible refine K18.r_gsub ?_) | (with_reducible refine K18.r_dget ?_) | (with_reducible refine K18.r_sl ?_) | (with_reducible refine K18.r_part ?_) | (with_reducible refine K18.r_nopart ?_)
  | (with_reducible refine K18.r_chain ?_) | (with_reducible refine K18.r_bm ?_) | (with_reducible refine K18.iteT ?_) | (with_reducible refine K18.iteF ?_) | (with_reducible refine K18.iteNT ?_) | (with_reducible refine K18.iteNF ?_)
  | (with_reducible refine K18.r_for ?_) | (with_reducible refine K18.r_while ?_) | (with_reducible refine K18.r_lc ?_) | (with_reducible refine K18.r_iR1 ?_) | (with_reducible refine K18.r_iR2 ?_) | (with_reducible refine K18.r_iL ?_) | (with_reducible refine K18.r_iT ?_) | (with_reducible refine K18.r_iS ?_)
  | dsimp only [L2.start, List.map, List.replicate, List.length, List.cons_append, List.nil_append, List.append_nil, Nat.reduceAdd, Nat.reduceSub, List.set])
local macro_rules | `(tactic| walk_at "go") => `(tactic| repeat walk_at "go1")
local macro_rules | `(tactic| walk_at "go1") => `(tactic| first
  | (with_reducible refine K18.r_dnotin ?_) | (with_reducible refine K18.r_din ?_) | (with_reducible refine K18.r_dput ?_) | (with_reducible refine K18.r_dnewK ?_) | (with_reducible refine K18.r_dnewT ?_)
  | (with_reducible refine K18.r_gtup ?_) | (with_reducible refine K18.r_gcons ?_) | (with_reducible refine K18.r_gnil ?_) | (with_reducible refine K18.r_iAny ?_) | (with_reducible refine K18.r_lenZ (by first | assumption | omega) ?_))
local macro_rules | `(tactic| walk_at "go1") => `(tactic| first
  | (with_reducible refine K18.r_notN ?_) | (with_reducible refine K18.r_truth ?_))
namespace K18
open PySem PySem.Spec PyProof.Rows L2
section
variable {σ : L2.St} {H : Hp} {Q : VK} {D : Ends} {td ty tv : TE} {P : Program} {w : World}
theorem r_nnotin (h : ty σ H fun y H1 => td σ H1 fun x H2 => ∃ a b ks z, x = .ref a ∧ y = .ref b ∧ DN P w H2 a ks ∧ KeyN H2 b z ∧ Q (.bl (!decide (z ∈ ks))) H2) : tNNotIn P w ty td σ H Q := h
theorem r_nget (h : td σ H fun x H1 => ty σ H1 fun y H2 => ∃ a b ks z, x = .ref a ∧ y = .ref b ∧ DN P w H2 a ks ∧ KeyN H2 b z ∧ z ∈ ks ∧ Q (.int ((ix z ks : Nat) : Int)) H2) : tNGet P w td ty σ H Q := h
theorem r_nput (h : tv σ H fun v H1 => td σ H1 fun x H2 => ty σ H2 fun y H3 => ∃ a b ks z, x = .ref a ∧ y = .ref b ∧ DN P w H3 a ks ∧ KeyN H3 b z ∧ z ∉ ks ∧ v = .int ((ks.length : Nat) : Int) ∧ ks.length < sizeLine ∧
  ∀ H4 ob, H4 = upd H3 a ob → DN P w H4 a (ks ++ [z]) → D.nx σ H4) : sNPut P w td ty tv D σ H := h
theorem r_dnewN (h : ∀ p, H p = none → DN P w (upd H p (.ext (dnφ P w p []))) p [] → Q (.ref p) (upd H p (.ext (dnφ P w p [])))) : tDNewN P w σ H Q := h
end
local macro_rules | `(tactic| walk_at "go1") => `(tactic| first
  | (with_reducible refine K18.r_dc ?_) | (with_reducible refine K18.r_fld ?_) | (with_reducible refine K18.r_nnotin ?_) | (with_reducible refine K18.r_nget ?_) | (with_reducible refine K18.r_nput ?_) | (with_reducible refine K18.r_dnewN ?_))
theorem RowA.get {K : PySem.W.Frag} {H : Hp} {v : V} {r : List Nat} (h : RowA K H v r) {i x : Nat} (e : r[i]? = some x) {Q : VK} (q : Q (.int ((x : Nat) : Int)) H) : rIx K v (.int ((i : Nat) : Int)) H Q := by
  obtain ⟨a, rfl, hs | hs⟩ := h
  · exact .inl ⟨_, _, _, _, rfl, rfl, hs, atI_nat (rI_get e), q⟩
  · exact .inr (.inl ⟨_, _, _, _, rfl, rfl, hs, atI_nat (rI_get e), q⟩)
theorem RowA.len {K : PySem.W.Frag} {H : Hp} {v : V} {r : List Nat} (h : RowA K H v r) {Q : VK} (q : Q (.int ((r.length : Nat) : Int)) H) : rLenQ K [v] H Q := by
  obtain ⟨a, rfl, hs⟩ := h
  exact ⟨a, rI r, rfl, hs, by rw [rI_len]; exact q⟩
theorem RowA.same {K : PySem.W.Frag} {H H' : Hp} {v : V} {r : List Nat} (h : RowA K H v r) (e : Same H H') : RowA K H' v r := by
  obtain ⟨a, rfl, hs | hs⟩ := h
  · exact ⟨a, rfl, .inl (e.seq hs)⟩
  · exact ⟨a, rfl, .inr (sqT_same e hs)⟩
theorem RowT.a {K : PySem.W.Frag} {H : Hp} {v : V} {r : List Nat} (h : RowT K H v r) : RowA K H v r := let ⟨a, e, hs⟩ := h; ⟨a, e, .inr hs⟩
theorem RowsT.a {K : PySem.W.Frag} {H : Hp} {v : V} {rows : List (List Nat)} (h : RowsT K H v rows) : RowsA K H v rows := let ⟨a, vs, e, hs, p⟩ := h; ⟨a, vs, e, .inr hs, Paired.mapP p fun _ _ z => z.a⟩
theorem RowsA.same {K : PySem.W.Frag} {H H' : Hp} {v : V} {rows : List (List Nat)} (h : RowsA K H v rows) (e : Same H H') : RowsA K H' v rows := by
  obtain ⟨a, vs, rfl, hs | hs, p⟩ := h
  · exact ⟨a, vs, rfl, .inl (e.seq hs), Paired.mapP p fun _ _ z => z.same e⟩
  · exact ⟨a, vs, rfl, .inr (sqT_same e hs), Paired.mapP p fun _ _ z => z.same e⟩
/-- isinstance(x, (list, tuple)) -/
theorem r_isiLT {K : PySem.W.Frag} {H : Hp} {Q : VK} {a t : Addr} {xs : List V} (ht : H t = some (.tup [.ty "list", .ty "tuple"])) (hs : SqL K H a xs ∨ SqT K H a xs) (q : Q (.bl true) H) : rIsiT K [.ref a, .ref t] H Q := by
  rcases hs with h | h
  · exact r_isi2 (b1 := true) (b2 := false) ht (tyx_L h) (by decide +kernel) (by decide +kernel) q
  · exact r_isi2 (b1 := false) (b2 := true) ht (tyx_T h) (by decide +kernel) (by decide +kernel) q
/-- a comprehension over a list or a tuple of things -/
theorem lcg_A {K : PySem.W.Frag} {a : Addr} {xs : List V} {j : Nat} {te : TE} {σ : L2.St} {H1 : Hp} {Qd : Addr → Hp → Prop} (hs : SqL K H1 a xs ∨ SqT K H1 a xs)
    (h : ∀ D, H1 D = none → ∀ (J : It) (G : Hp → Prop) (w : L2.Walk J xs.length G (YAt xs)) (hG : ∀ H, Same H1 H → G H), LcG J (gName j) tYes te [j] σ H1 D (Qd D)) :
    ((∃ xs, SqL K H1 a xs) ∧ ∀ D, H1 D = none → LcG (Itl K a) (gName j) tYes te [j] σ H1 D (Qd D)) ∨ ((∃ xs, SqT K H1 a xs) ∧ ∀ D, H1 D = none → LcG (Itt K a) (gName j) tYes te [j] σ H1 D (Qd D)) := by
  rcases hs with g | g
  · exact .inl ⟨⟨_, g⟩, fun D hD => h D hD _ _ L2.walk_list (fun H s => s.seq g)⟩
  · exact .inr ⟨⟨_, g⟩, fun D hD => h D hD _ _ L2.walk_tup (fun H s => sqT_same s g)⟩
theorem fo_A {K : PySem.W.Frag} {a : Addr} {xs : List V} {g : TG} {tb : TS} {D : Ends} {σ : L2.St} {H : Hp} (hs : SqL K H a xs ∨ SqT K H a xs) (Pv : Nat → L2.St → Hp → Prop) (h0 : Pv 0 σ H) (hl : ∀ i σ' H', Pv i σ' H' → Same H H')
    (hb : ∀ (i : Nat) x σ H, xs[i]? = some x → Pv i σ H → g x σ H fun σ2 H2 => tb { D with nx := Pv (i + 1), ct := Pv (i + 1), bk := D.nx } σ2 H2) (hd : ∀ σ H, Pv xs.length σ H → D.nx σ H) :
    ((∃ xs, SqL K H a xs) ∧ FoG (Itl K a) g tb D σ H) ∨ ((∃ xs, SqT K H a xs) ∧ FoG (Itt K a) g tb D σ H) := by
  rcases hs with h | h
  · exact .inl ⟨⟨_, h⟩, fo_L Pv h0 (fun i σ' H' _ p => (hl i σ' H' p).seq h) hb hd⟩
  · exact .inr ⟨⟨_, h⟩, fo_T Pv h0 (fun i σ' H' _ p => sqT_same (hl i σ' H' p) h) hb hd⟩
theorem r_isi0 {K : PySem.W.Frag} {H : Hp} {Q : VK} {x : V} {tp : Addr} {n : String} (ht : H tp = some (.tup [.ty "list", .ty "tuple"])) (ty : TyX K H x (.type n)) (e1 : kitB n "list" = some false) (e2 : kitB n "tuple" = some false) (q : Q (.bl false) H) : rIsiT K [x, .ref tp] H Q := r_isi2 (b1 := false) (b2 := false) ht ty e1 e2 q
theorem rI_at {l : List Nat} {i u : Nat} {x : V} (h : l[i]? = some u) (hx : (rI l)[i]? = some x) : x = .int ((u : Nat) : Int) := by
  rw [rI_get h] at hx
  exact (Option.some.inj hx).symm
theorem paired_ints {l : List Nat} {ys : List V} (p : Paired (fun (u : Nat) y => y = V.int ((u : Nat) : Int)) l ys) : ys = rI l := paired_map p
section
variable {P : Program} {w : World} {K : PySem.W.Frag} {mg : Str → Option Value} {base : Heap}
def spDp0 : Sp := fun vs H Q _ => ∃ i : Int, vs = [.int i] ∧ ∀ H', Same H H' → Q (.int i) H'
def spDp1 (K : PySem.W.Frag) : Sp := fun vs H Q _ => ∃ (v : V) (r : List Nat), vs = [v] ∧ RowA K H v r ∧ r.length ≤ 1000 ∧ ∀ p H', Same H H' → H p = none → RowT K H' (.ref p) r → Q (.ref p) H'
def spDp2 (K : PySem.W.Frag) : Sp := fun vs H Q _ => ∃ (v : V) (rows : List (List Nat)), vs = [v] ∧ RowsA K H v rows ∧ rows.length ≤ 1000 ∧ (∀ r ∈ rows, r.length ≤ 1000) ∧ ∀ p H', Same H H' → H p = none → RowsT K H' (.ref p) rows → Q (.ref p) H'
theorem sc_deep : FnScope ["thing", "inner"] ["thing"] (defScope s_deep) := ⟨rfl, rfl, rfl, by decide +kernel, rfl, by decide +kernel, by decide +kernel⟩
theorem ok_deep_none (T : Tx K mg) : C1 P w K mg base CX0 1 "deep" ["thing"] spNo := by
  obtain ⟨fd, F⟩ := d_deep T
  exact .mk1 F (g_deep T) (fun _ _ _ _ _ _ us hl => match us, hl with | [_], _ => rfl) sc_deep (fun vs H Q E h => h.elim) (fun cdv A outer s H vs Q E hr h => h.elim)
theorem ok_deep_0 (T : Tx K mg) : C1 P w K mg base CX0 2 "deep" ["thing"] spDp0 := by
  obtain ⟨fd, F⟩ := d_deep T
  refine .mk1 F (g_deep T) (fun _ _ _ _ _ _ us hl => match us, hl with | [_], _ => rfl) sc_deep (fun vs H Q E h => ?_) (fun cdv A outer s H vs Q E hr h => ?_)
  · obtain ⟨i, rfl, k⟩ := h
    rfl
  obtain ⟨i, rfl, k⟩ := h
  have hu := hu_of hr
  have hu64 := hu64_of hr
  have hu6 := hu64' hr
  refine ⟨_, (pss_cons (ps_if (pt_val (pe_callB (call_isiTK K (by rfl)) (by rfl) (f_isinstance T) (by decide +kernel) (pa_cons (pv 0) (pa_cons (pe_tup (pa_cons (pe_bltn (v := .ty "list") (by rfl) (f_list T) (by decide +kernel) rfl) (pa_cons (pe_bltn (v := .ty "tuple") (by rfl) (f_tuple T) (by decide +kernel) rfl) pa_nil))) pa_nil)))) (pss_one (ps_ret (pe_callTy (call_tupleK K (by rfl)) (by rfl) (f_tuple T) (by decide +kernel) (pa_cons (pe_lc (own := [("inner", 1)]) (g := gName 1) (by rfl) sc_deep.nd (pi_anyK K (by rfl) (pv 0)) (blkOk_by (own := [("inner", 1)]) (by kernel_rfl)) (fun _ _ _ _ _ => pg_name (i := 1) sc_deep.nd rfl (Or.inl rfl)) (fun _ _ _ _ _ => pts_nil) (fun _ _ _ _ _ => (pe_c1 (ok_deep_none T) (hr.mono (by decide)) (by rfl) (pa_cons (pv 1) pa_nil)))) pa_nil)))) pss_nil)
      (pss_one (ps_ret (pv 0)))), ?_⟩
  walk_at "go"
  refine ⟨by decide, fun t ht => ?_⟩
  walk_at "go"
  refine r_isi0 upd_same (tyx_i _) (by decide +kernel) (by decide +kernel) ?_
  walk_at "go"
  exact k _ (same_new ht)
theorem ok_deep_1 (T : Tx K mg) : C1 P w K mg base CX0 3 "deep" ["thing"] (spDp1 K) := by
  obtain ⟨fd, F⟩ := d_deep T
  refine .mk1 F (g_deep T) (fun _ _ _ _ _ _ us hl => match us, hl with | [_], _ => rfl) sc_deep (fun vs H Q E h => ?_) (fun cdv A outer s H vs Q E hr h => ?_)
  · obtain ⟨v, r, rfl, ⟨a, rfl, hs⟩, hz, k⟩ := h
    rfl
  obtain ⟨v, r, rfl, ⟨a, rfl, hs⟩, hz, k⟩ := h
  have hu := hu_of hr
  have hu64 := hu64_of hr
  have hu6 := hu64' hr
  refine ⟨_, (pss_cons (ps_if (pt_val (pe_callB (call_isiTK K (by rfl)) (by rfl) (f_isinstance T) (by decide +kernel) (pa_cons (pv 0) (pa_cons (pe_tup (pa_cons (pe_bltn (v := .ty "list") (by rfl) (f_list T) (by decide +kernel) rfl) (pa_cons (pe_bltn (v := .ty "tuple") (by rfl) (f_tuple T) (by decide +kernel) rfl) pa_nil))) pa_nil)))) (pss_one (ps_ret (pe_callTy (call_tupleK K (by rfl)) (by rfl) (f_tuple T) (by decide +kernel) (pa_cons (pe_lc (own := [("inner", 1)]) (g := gName 1) (by rfl) sc_deep.nd (pi_anyK K (by rfl) (pv 0)) (blkOk_by (own := [("inner", 1)]) (by kernel_rfl)) (fun _ _ _ _ _ => pg_name (i := 1) sc_deep.nd rfl (Or.inl rfl)) (fun _ _ _ _ _ => pts_nil) (fun _ _ _ _ _ => (pe_c1 (ok_deep_0 T) (hr.mono (by decide)) (by rfl) (pa_cons (pv 1) pa_nil)))) pa_nil)))) pss_nil)
      (pss_one (ps_ret (pv 0)))), ?_⟩
  walk_at "go"
  refine ⟨by decide, fun t ht => ?_⟩
  walk_at "go"
  have s1 := same_new (o := .tup [.ty "list", .ty "tuple"]) ht
  have hs1 : SqL K _ a (rI r) ∨ SqT K _ a (rI r) := hs.elim (fun h => .inl (s1.seq h)) (fun h => .inr (sqT_same s1 h))
  refine r_isiLT upd_same hs1 ?_
  walk_at "go"
  refine ⟨a, rfl, lcg_A hs1 fun D hD J G w hG => ?_⟩
  refine lcg_prs (rs := r) (rI_len r).symm (by rw [rI_len]; omega) hD w hG (fun (u : Nat) y _ => y = V.int ((u : Nat) : Int)) (fun _ _ _ _ _ h => h) ?_ ?_ (fun _ _ _ _ h _ _ => h)
  · intro m u x H1 hu hx s2 _ Q1 k1
    rw [rI_at hu hx]
    walk_at "go"
    exact ⟨_, rfl, fun H2 s3 => k1 _ H2 s3 rfl⟩
  · intro ys H1 s2 hL py
    walk_at "go"
    rw [paired_ints py] at hL
    refine r_tupL (SqL.of hL) fun q hq => ?_
    exact k q _ ((s1.trans s2).trans (same_new hq)) ((s1.trans s2).free hq) ⟨q, rfl, SqT.of upd_same⟩
theorem ok_deep_2 (T : Tx K mg) : C1 P w K mg base CX0 4 "deep" ["thing"] (spDp2 K) := by
  obtain ⟨fd, F⟩ := d_deep T
  refine .mk1 F (g_deep T) (fun _ _ _ _ _ _ us hl => match us, hl with | [_], _ => rfl) sc_deep (fun vs H Q E h => ?_) (fun cdv A outer s H vs Q E hr h => ?_)
  · obtain ⟨v, rows, rfl, ⟨a, rvs, rfl, hs, pr⟩, hz, hz2, k⟩ := h
    rfl
  obtain ⟨v, rows, rfl, ⟨a, rvs, rfl, hs, pr⟩, hz, hz2, k⟩ := h
  have hu := hu_of hr
  have hu64 := hu64_of hr
  have hu6 := hu64' hr
  refine ⟨_, (pss_cons (ps_if (pt_val (pe_callB (call_isiTK K (by rfl)) (by rfl) (f_isinstance T) (by decide +kernel) (pa_cons (pv 0) (pa_cons (pe_tup (pa_cons (pe_bltn (v := .ty "list") (by rfl) (f_list T) (by decide +kernel) rfl) (pa_cons (pe_bltn (v := .ty "tuple") (by rfl) (f_tuple T) (by decide +kernel) rfl) pa_nil))) pa_nil)))) (pss_one (ps_ret (pe_callTy (call_tupleK K (by rfl)) (by rfl) (f_tuple T) (by decide +kernel) (pa_cons (pe_lc (own := [("inner", 1)]) (g := gName 1) (by rfl) sc_deep.nd (pi_anyK K (by rfl) (pv 0)) (blkOk_by (own := [("inner", 1)]) (by kernel_rfl)) (fun _ _ _ _ _ => pg_name (i := 1) sc_deep.nd rfl (Or.inl rfl)) (fun _ _ _ _ _ => pts_nil) (fun _ _ _ _ _ => (pe_c1 (ok_deep_1 T) (hr.mono (by decide)) (by rfl) (pa_cons (pv 1) pa_nil)))) pa_nil)))) pss_nil)
      (pss_one (ps_ret (pv 0)))), ?_⟩
  walk_at "go"
  refine ⟨by decide, fun t ht => ?_⟩
  walk_at "go"
  have s1 := same_new (o := .tup [.ty "list", .ty "tuple"]) ht
  have hs1 : SqL K _ a rvs ∨ SqT K _ a rvs := hs.elim (fun h => .inl (s1.seq h)) (fun h => .inr (sqT_same s1 h))
  refine r_isiLT upd_same hs1 ?_
  walk_at "go"
  refine ⟨a, rfl, lcg_A hs1 fun D hD J G w hG => ?_⟩
  refine lcg_prs (rs := rows) (Paired.length pr) (by rw [← Paired.length pr]; omega) hD w hG (fun r y H1 => RowT K H1 y r) (fun _ _ _ _ s h => h.kp (same_kp s)) ?_ ?_ (fun _ _ _ _ h hL _ => h.kp (kp_updL hL))
  · intro m r x H1 hr' hx s2 _ Q1 k1
    obtain ⟨r', h1, h2⟩ := paired_get' pr hx
    rw [hr'] at h1
    cases h1
    walk_at "go"
    exact ⟨x, r, rfl, (h2.same s1).same s2, hz2 r (List.mem_of_getElem? hr'), fun p H2 s3 _ hp2 => k1 _ _ s3 hp2⟩
  · intro ys H1 s2 hL py
    walk_at "go"
    refine r_tupL (SqL.of hL) fun q hq => ?_
    exact k q _ ((s1.trans s2).trans (same_new hq)) ((s1.trans s2).free hq) ⟨q, ys, rfl, SqT.of upd_same, Paired.mapP py fun _ _ z => z.kp (same_kp (same_new hq))⟩
/-- is_rows -/
def spIsRows (K : PySem.W.Frag) : Sp := fun vs H Q _ => ∃ (v : V) (k n : Nat) (rows : List (List Nat)), vs = [v, .int ((k : Nat) : Int), .int 150] ∧ RowsA K H v rows ∧ Tab k n rows ∧ n ≤ 100 ∧ k ≤ 12 ∧ ∀ H', Same H H' → Q (.bl true) H'
theorem sc_is_rows : FnScope ["rows", "width", "most", "row", "z"] ["rows", "width", "most"] (defScope s_is_rows) := ⟨rfl, rfl, rfl, by decide +kernel, rfl, by decide +kernel, by decide +kernel⟩
theorem ok_is_rows (T : Tx K mg) : C1 P w K mg base CX0 2 "is_rows" ["rows", "width", "most"] (spIsRows K) := by
  obtain ⟨fd, F⟩ := d_is_rows T
  refine .mk1 F (g_is_rows T) (fun _ _ _ _ _ _ us hl => match us, hl with | [_, _, _], _ => rfl) sc_is_rows (fun vs H Q E h => ?_) (fun cdv A outer s H vs Q E hr h => ?_)
  · obtain ⟨v, kk, n, rows, rfl, ⟨a, rvs, rfl, hs, pr⟩, Tb, hn, hk, k⟩ := h
    rfl
  obtain ⟨v, kk, n, rows, rfl, ⟨a, rvs, rfl, hs, pr⟩, Tb, hn, hk, k⟩ := h
  have hu := hu_of hr
  have hu64 := hu64_of hr
  have hu6 := hu64' hr
  refine ⟨_, (pss_cons (ps_if (pt_not (pt_val (pe_c1 (ok_is_tuple T) (hr.mono (by decide)) (by rfl) (pa_cons (pv 0) (pa_cons pe_int (pa_cons (pv 2) pa_nil)))))) (pss_one (ps_ret pe_bl)) pss_nil)
      (pss_cons (ps_for PassesOwn.never rfl (pi_anyK K (by rfl) (pv 0)) (pg_name (i := 3) sc_is_rows.nd rfl (Or.inl rfl)) (pss_one (ps_if (pw_or (pt_not (pt_val (pe_c1 (ok_is_tuple T) (hr.mono (by decide)) (by rfl) (pa_cons (pv 3) (pa_cons (pv 1) (pa_cons (pv 1) pa_nil)))))) (pw_or1 (pt_not (pt_val (pe_callB (cr_allK K (by rfl) rfl) (by rfl) (f_all T) (by decide +kernel) (pa_cons (pe_lc (own := [("z", 4)]) (g := gName 4) (by rfl) sc_is_rows.nd (pi_anyK K (by rfl) (pv 3)) (blkOk_by (own := [("z", 4)]) (by kernel_rfl)) (fun _ _ _ _ _ => pg_name (i := 4) sc_is_rows.nd rfl (Or.inl rfl)) (fun _ _ _ _ _ => pts_nil) (fun _ _ _ _ _ => (pe_c1 (ok_is_integer T) (hr.mono (by decide)) (by rfl) (pa_cons (pv 4) (pa_cons pe_int (pa_cons (pe_op op_sub (pe_callB (call_lenK K (by rfl)) (by rfl) (f_len T) PySem.boot_len (pa_cons (pv 0) pa_nil)) pe_int) pa_nil)))))) pa_nil)))))).pt (pss_one (ps_ret pe_bl)) pss_nil)))
      (pss_one (ps_ret pe_bl)))), ?_⟩
  walk_at "go"
  have lrv : rvs.length = n := (Paired.length pr).symm.trans Tb.len
  refine ⟨a, 1, 150, rvs, rfl, hs, by have := Tb.pos; omega, by omega, fun H1 s1 => ?_⟩
  walk_at "go"
  have hs1 : SqL K _ a rvs ∨ SqT K _ a rvs := hs.elim (fun h => .inl (s1.seq h)) (fun h => .inr (sqT_same s1 h))
  refine ⟨a, rfl, fo_A hs1 (fun i σ H' => ∃ (u u' : Option V), σ = [some (.ref a), some (.int ((kk : Nat) : Int)), some (.int 150), u, u'] ∧ Same H1 H') ⟨_, _, rfl, Same.refl _⟩ (fun _ _ _ ⟨_, _, _, s⟩ => s) ?_ ?_⟩
  · rintro i x σ H2 hx ⟨u, u', rfl, s2⟩
    have hr' : rows[i]? = some (rows[i]'(by rw [Paired.length pr]; exact (List.getElem?_eq_some_iff.mp hx).1)) := List.getElem?_eq_some_iff.mpr ⟨_, rfl⟩
    obtain ⟨r, h1, h2⟩ := paired_get' pr hx
    obtain ⟨t1, t2⟩ := Tb.row i r h1
    have s02 := s1.trans s2
    obtain ⟨ra, rfl, hra⟩ := h2.same s02
    walk_at "go"
    refine ⟨ra, kk, kk, rI r, rfl, hra, by rw [rI_len]; omega, by rw [rI_len]; omega, fun H3 s3 => ?_⟩
    walk_at "go"
    have hra3 : SqL K H3 ra (rI r) ∨ SqT K H3 ra (rI r) := hra.elim (fun h => .inl (s3.seq h)) (fun h => .inr (sqT_same s3 h))
    refine ⟨ra, rfl, lcg_A hra3 fun D hD J G' w hG => ?_⟩
    refine lcg_prs (rs := r) (rI_len r).symm (by rw [rI_len]; omega) hD w hG (fun (_ : Nat) y _ => y = V.bl true) (fun _ _ _ _ _ h => h) ?_ ?_ (fun _ _ _ _ h _ _ => h)
    · intro m u x H4 hu hx4 s4 _ Q1 k1
      rw [rI_at hu hx4]
      walk_at "go"
      have hs4 : SqL K H4 a rvs ∨ SqT K H4 a rvs := hs.elim (fun h => .inl ((s02.trans (s3.trans s4)).seq h)) (fun h => .inr (sqT_same (s02.trans (s3.trans s4)) h))
      refine ⟨a, rvs, rfl, hs4, ?_⟩
      walk_at "go"
      refine ⟨_, _, _, rfl, ?_⟩
      have := t2 u (List.mem_of_getElem? hu)
      rw [lrv, show (decide ((0 : Int) ≤ ((u : Nat) : Int)) && decide (((u : Nat) : Int) ≤ ((n : Nat) : Int) - 1)) = true by simp; omega]
      exact k1 _ H4 (Same.refl _) rfl
    · intro ys H4 s4 hL py
      walk_at "go"
      have ey : ys = (r.map fun _ => true).map V.bl := by
        rw [List.map_map]
        exact paired_map py
      rw [ey] at hL
      refine ⟨D, r.map fun _ => true, rfl, SqL.of hL, ?_⟩
      rw [show (r.map fun _ => true).all id = true by simp]
      walk_at "go"
      exact ⟨_, _, rfl, (s2.trans s3).trans s4⟩
  · rintro σ H2 ⟨u, u', rfl, s2⟩
    walk_at "go"
    exact k H2 (s1.trans s2)
def spIsGoals (K : PySem.W.Frag) : Sp := fun vs H Q _ => ∃ (v : V) (n : Nat) (gs : List Nat), vs = [v, .int ((n : Nat) : Int)] ∧ RowA K H v gs ∧ GoalD n gs ∧ gs.length ≤ 100 ∧ ∀ H', Same H H' → Q (.bl true) H'
theorem sc_is_goals : FnScope ["goals", "many", "z", "k"] ["goals", "many"] (defScope s_is_goals) := ⟨rfl, rfl, rfl, by decide +kernel, rfl, by decide +kernel, by decide +kernel⟩
theorem ok_is_goals (T : Tx K mg) : C1 P w K mg base CX0 2 "is_goals" ["goals", "many"] (spIsGoals K) := by
  obtain ⟨fd, F⟩ := d_is_goals T
  refine .mk1 F (g_is_goals T) (fun _ _ _ _ _ _ us hl => match us, hl with | [_, _], _ => rfl) sc_is_goals (fun vs H Q E h => ?_) (fun cdv A outer s H vs Q E hr h => ?_)
  · obtain ⟨v, n, gs, rfl, RA, G, hz, k⟩ := h
    rfl
  obtain ⟨v, n, gs, rfl, RA, G, hz, k⟩ := h
  have hu := hu_of hr
  have hu64 := hu64_of hr
  have hu6 := hu64' hr
  refine ⟨_, (pss_cons (ps_if (pw_or (pt_not (pt_val (pe_callB (call_isiTK K (by rfl)) (by rfl) (f_isinstance T) (by decide +kernel) (pa_cons (pv 0) (pa_cons (pe_tup (pa_cons (pe_bltn (v := .ty "list") (by rfl) (f_list T) (by decide +kernel) rfl) (pa_cons (pe_bltn (v := .ty "tuple") (by rfl) (f_tuple T) (by decide +kernel) rfl) pa_nil))) pa_nil))))) (pw_or1 (pt_not (pt_val (pe_callB (cr_allK K (by rfl) rfl) (by rfl) (f_all T) (by decide +kernel) (pa_cons (pe_lc (own := [("z", 2)]) (g := gName 2) (by rfl) sc_is_goals.nd (pi_anyK K (by rfl) (pv 0)) (blkOk_by (own := [("z", 2)]) (by kernel_rfl)) (fun _ _ _ _ _ => pg_name (i := 2) sc_is_goals.nd rfl (Or.inl rfl)) (fun _ _ _ _ _ => pts_nil) (fun _ _ _ _ _ => (pe_c1 (ok_is_integer T) (hr.mono (by decide)) (by rfl) (pa_cons (pv 2) (pa_cons pe_int (pa_cons (pe_op op_sub (pv 1) pe_int) pa_nil)))))) pa_nil)))))).pt (pss_one (ps_ret pe_bl)) pss_nil)
      (pss_one (ps_ret (pe_callB (cr_allK K (by rfl) rfl) (by rfl) (f_all T) (by decide +kernel) (pa_cons (pe_lc (own := [("k", 3)]) (g := gName 3) (by rfl) sc_is_goals.nd (pi_range1 (by rfl) (f_range T) (pa_cons (pe_op op_sub (pe_callB (call_lenK K (by rfl)) (by rfl) (f_len T) PySem.boot_len (pa_cons (pv 0) pa_nil)) pe_int) pa_nil)) (blkOk_by (own := [("k", 3)]) (by kernel_rfl)) (fun _ _ _ _ _ => pg_name (i := 3) sc_is_goals.nd rfl (Or.inl rfl)) (fun _ _ _ _ _ => pts_nil) (fun _ _ _ _ _ => (pe_cmpR op_lt (pe_ix (ix_seqK K (by rfl)) (pv 0) (pv 3) (fun _ _ => rfl)) (pe_ix (ix_seqK K (by rfl)) (pv 0) (pe_op op_add (pv 3) pe_int) (fun _ _ => rfl)) (nomark _)))) pa_nil))))), ?_⟩
  walk_at "go"
  obtain ⟨a, rfl, hs⟩ := id RA
  refine ⟨by decide, fun t ht => ?_⟩
  walk_at "go"
  have s1 := same_new (o := .tup [.ty "list", .ty "tuple"]) ht
  have hs1 : SqL K _ a (rI gs) ∨ SqT K _ a (rI gs) := hs.elim (fun h => .inl (s1.seq h)) (fun h => .inr (sqT_same s1 h))
  refine r_isiLT upd_same hs1 ?_
  walk_at "go"
  refine ⟨a, rfl, lcg_A hs1 fun D hD J G' w hG => ?_⟩
  refine lcg_prs (rs := gs) (rI_len gs).symm (by rw [rI_len]; omega) hD w hG (fun (_ : Nat) y _ => y = V.bl true) (fun _ _ _ _ _ h => h) ?_ ?_ (fun _ _ _ _ h _ _ => h)
  · intro m u x H1 hu hx s2 _ Q1 k1
    rw [rI_at hu hx]
    walk_at "go"
    refine ⟨_, _, _, rfl, ?_⟩
    have := G.lt u (List.mem_of_getElem? hu)
    rw [show (decide ((0 : Int) ≤ ((u : Nat) : Int)) && decide (((u : Nat) : Int) ≤ ((n : Nat) : Int) - 1)) = true by simp; omega]
    exact k1 _ H1 (Same.refl _) rfl
  · intro ys H1 s2 hL py
    walk_at "go"
    have ey : ys = (gs.map fun _ => true).map V.bl := by
      rw [List.map_map]
      exact paired_map py
    rw [ey] at hL
    refine ⟨D, gs.map fun _ => true, rfl, SqL.of hL, ?_⟩
    rw [show (gs.map fun _ => true).all id = true by simp]
    walk_at "go"
    have RA1 := (RA.same s1).same s2
    refine RA1.len ?_
    walk_at "go"
    refine ⟨_, rfl, by omega, by omega, fun D3 hD3 => ?_⟩
    rw [show (((gs.length : Nat) : Int) - 1).toNat = ((gs.length - 1 : Nat) : Int).toNat by omega]
    refine lcg_R (fun _ => .bl true) (by omega) hD3 ?_ ?_
    · intro i H3 hi s3 Q3 k3
      have RA3 := RA1.same s3
      have h1 : i < gs.length := by omega
      have h2 : i + 1 < gs.length := by omega
      walk_at "go"
      refine RA3.get (List.getElem?_eq_some_iff.mpr ⟨h1, rfl⟩) ?_
      walk_at "go"
      rw [show ((i : Nat) : Int) + 1 = ((i + 1 : Nat) : Int) by omega]
      refine RA3.get (List.getElem?_eq_some_iff.mpr ⟨h2, rfl⟩) ?_
      walk_at "go"
      have := List.pairwise_iff_getElem.mp G.asc i (i + 1) h1 h2 (by omega)
      rw [decide_eq_true (show ((gs[i] : Nat) : Int) < ((gs[i + 1] : Nat) : Int) by omega)]
      exact k3 _ (Same.refl _)
    · intro H3 s3 hL3
      walk_at "go"
      refine ⟨D3, (List.range (gs.length - 1)).map fun _ => true, rfl, SqL.of (by rw [hL3]; simp), ?_⟩
      rw [show ((List.range (gs.length - 1)).map fun _ => true).all id = true by simp]
      exact k H3 ((s1.trans s2).trans s3)
/-- what is found -/
structure FndD (k n : Nat) (rows : List (List Nat)) (ord : List Nat) : Prop where
  nd : ord.Nodup
  lt : ∀ z ∈ ord, z < n
  h0 : 0 ∈ ord
  cl : ∀ z ∈ ord, ∀ v, v < k → stp rows z v ∈ ord
def spFound (K : PySem.W.Frag) : Sp := fun vs H Q _ => ∃ (v : V) (k n : Nat) (rows : List (List Nat)), vs = [v] ∧ RowsT K H v rows ∧ Tab k n rows ∧ n ≤ 100 ∧ ∀ p ord H', Same H H' → H p = none → H' p = some (.lst (rI ord)) → FndD k n rows ord → Q (.ref p) H'
theorem nd_len {l : List Nat} {n : Nat} (nd : l.Nodup) (h : ∀ z ∈ l, z < n) : l.length ≤ n := by
  have := nd.length_le_of_subset (l₂ := List.range n) fun x hx => List.mem_range.mpr (h x hx)
  simpa using this
theorem nd_snoc {l : List Nat} {x : Nat} (nd : l.Nodup) (h : x ∉ l) : (l ++ [x]).Nodup := List.nodup_append.mpr ⟨nd, by simp, fun a ha b hb e => h (by rw [← List.mem_singleton.mp hb, ← e]; exact ha)⟩
theorem sc_found_order : FnScope ["rows", "order", "seen", "k", "onto"] ["rows"] (defScope s_found_order) := ⟨rfl, rfl, rfl, by decide +kernel, rfl, by decide +kernel, by decide +kernel⟩
theorem ok_found_order (T : Tx K mg) : C1 P w K mg base CX0 1 "found_order" ["rows"] (spFound K) := by
  obtain ⟨fd, F⟩ := d_found_order T
  refine .mk1 F (g_found_order T) (fun _ _ _ _ _ _ us hl => match us, hl with | [_], _ => rfl) sc_found_order (fun vs H Q E h => ?_) (fun cdv A outer s H vs Q E hr h => ?_)
  · obtain ⟨v, kk, n, rows, rfl, R, Tb, hn, k⟩ := h
    rfl
  obtain ⟨v, kk, n, rows, rfl, R, Tb, hn, k⟩ := h
  have hu := hu_of hr
  have hu64 := hu64_of hr
  have hu6 := hu64' hr
  refine ⟨_, (pss_cons (ps_set (i := 1) sc_found_order.nd rfl (Or.inl rfl) (pe_lst (pa_cons pe_int pa_nil)))
      (pss_cons (ps_set (i := 2) sc_found_order.nd rfl (Or.inl rfl) (pe_disp (pps_cons pe_int pe_bl pps_nil) (by rfl) (by rfl) (fun z => by cases z) (by decide)))
      (pss_cons (ps_set (i := 3) sc_found_order.nd rfl (Or.inl rfl) pe_int)
      (pss_cons (ps_while PassesOwn.never (pt_cmpR op_lt (pv 3) (pe_callB (call_lenK K (by rfl)) (by rfl) (f_len T) PySem.boot_len (pa_cons (pv 1) pa_nil)) (nomark _)) (pss_cons (ps_for PassesOwn.never rfl (pi_tupK K (by rfl) (pe_ix (ix_tupK K (by rfl)) (pv 0) (pe_ix (ix_listK K (by rfl)) (pv 1) (pv 3) (fun _ _ => rfl)) (fun _ _ => rfl))) (pg_name (i := 4) sc_found_order.nd rfl (Or.inl rfl)) (pss_one (ps_if (pt_cmp (pc_dnotin hu (pv 4) (pv 2))) (pss_cons (ps_dput hu (pv 2) (pv 4) pe_bl rfl)
      (pss_one (ps_expr (pe_bmK K (by rfl) PySem.F.plainAttrs_list PySem.F.slot_list_append PySem.F.type_list_append mt_append (pv 1) (pa_cons (pv 4) pa_nil))))) pss_nil)))
      (pss_one (ps_aug (i := 3) sc_found_order.nd rfl (Or.inl rfl) pe_int ip_add))))
      (pss_one (ps_ret (pv 1))))))), ?_⟩
  walk_at "go"
  obtain ⟨va, vvs, rfl, hva, pvs⟩ := id R
  refine ⟨by decide, fun t ht => ?_⟩
  walk_at "go"
  intro s hs
  have ts : t ≠ s := fun z => by rw [z.symm, upd_same] at hs; cases hs
  have hs0 : H s = none := by rw [upd_ne ts.symm] at hs; exact hs
  refine ⟨upd_same, [(.inl 0, .bl true)], rfl, by decide, ?_⟩
  walk_at "go"
  have S0 : Same H (upd (upd (upd H t (.lst [.int 0])) s (.dK [])) s (.dK (mergeK [] [(.inl 0, .bl true)]))) := same_mut ((same_new ht).trans (same_new hs)) hs0
  refine ⟨fun m σ H' => ∃ (i : Nat) (ord : List Nat) (u : Option V), m = n + 1 - i ∧ σ = [some (.ref va), some (.ref t), some (.ref s), some (.int ((i : Nat) : Int)), u] ∧ Same H H' ∧ H' t = some (.lst (rI ord)) ∧ MapI H' s ord.length (seenM ord) ∧ ord.Nodup ∧ (∀ z ∈ ord, z < n) ∧ 0 ∈ ord ∧ i ≤ ord.length ∧
    ∀ j z, j < i → ord[j]? = some z → ∀ u, u < kk → stp rows z u ∈ ord, ⟨n + 1 - 0, 0, [0], _, rfl, rfl, S0, ?_, ?_, by decide, (fun z hz => by rw [List.mem_singleton.mp hz]; exact Tb.pos), by decide, by decide, fun j z hj => by omega⟩, ?_⟩
  · rw [upd_ne ts, upd_ne ts, upd_same]
    rfl
  · refine ⟨_, upd_same, by decide, fun z => ?_⟩
    show valV [((.inl 0 : Key), V.bl true)] (.inl ((z : Nat) : Int)) = seenM [0] z
    unfold seenM
    by_cases e : z = 0
    · subst e
      rfl
    · rw [if_neg (by simpa using e), valV_neg (fun q => e (by have : (0 : Int) = ((z : Nat) : Int) := Sum.inl.inj q; omega))]
      rfl
  rintro m σ' H5 ⟨i, ord, u, hm, rfl, s5, h5, M5, nd, lt, h0, hi, cl⟩
  have lo := nd_len nd lt
  walk_at "go"
  refine r_lenQL (SqL.of h5) ?_
  rw [rI_len]
  walk_at "go"
  refine iteD (fun h => ?_) (fun h => ?_)
  · refine ⟨_, fun _ _ z => z, ?_⟩
    have hil : i < ord.length := by omega
    have hti : ord[i]? = some ord[i] := List.getElem?_eq_some_iff.mpr ⟨hil, rfl⟩
    have hz := lt _ (List.getElem_mem hil)
    walk_at "go"
    refine r_ixL (SqL.of h5) (atI_nat (rI_get hti)) ?_
    obtain ⟨r, e1, e2, e3, e4⟩ := Tb.get hz
    obtain ⟨y, hy1, ra, rfl, hra⟩ := paired_get pvs e1
    refine r_ixT (sqT_same s5 hva) (atI_nat hy1) ?_
    refine ⟨ra, rfl, ⟨_, sqT_same s5 hra⟩, ?_⟩
    refine fo_T (xs := rI r) (fun x σ H' => ∃ (ord2 : List Nat) (u : Option V), σ = [some (.ref va), some (.ref t), some (.ref s), some (.int ((i : Nat) : Int)), u] ∧ Same H H' ∧ H' t = some (.lst (rI ord2)) ∧ MapI H' s ord2.length (seenM ord2) ∧ ord2.Nodup ∧ (∀ z ∈ ord2, z < n) ∧ ord2[i]? = some ord[i] ∧ (∀ z ∈ ord, z ∈ ord2) ∧ (∀ j, j < ord.length → ord2[j]? = ord[j]?) ∧
      ∀ u, u < x → stp rows ord[i] u ∈ ord2) ⟨ord, _, rfl, s5, h5, M5, nd, lt, hti, fun _ z => z, fun _ _ => rfl, fun u hu => by omega⟩ (fun x σ H' _ ⟨_, _, _, s, _⟩ => sqT_same s hra) ?_ ?_
    · rintro x xv σ6 H6 hx ⟨ord2, u2, rfl, s6, h6, M6, nd6, lt6, hi6, sub6, pre6, cl6⟩
      have hxr : x < r.length := by
        have := (List.getElem?_eq_some_iff.mp hx).1
        rw [rI_len] at this
        exact this
      have e5 := e4 x (by omega)
      rw [rI_at e5 hx]
      walk_at "go"
      refine ⟨s, _, rfl, M6.dget _, ?_⟩
      walk_at "go"
      have lo6 := nd_len nd6 lt6
      have hlt := e3 _ (List.mem_of_getElem? e5)
      refine iteB (fun hn6 => ?_) (fun hn6 => ?_)
      · have hnew := seenM_none.mp hn6
        walk_at "go"
        obtain ⟨H7, P7, M7, o7, e7⟩ := M6.put (stp rows ord[i] x) (.bl true) (by omega)
        refine ⟨s, H7, rfl, P7, ?_⟩
        have s7 : Same H H7 := by
          rw [e7]
          exact same_mut s6 hs0
        have h7 : H7 t = some (.lst (rI ord2)) := by
          rw [e7, upd_ne ts]
          exact h6
        walk_at "go"
        refine ⟨r_tyL h7, ?_⟩
        walk_at "go"
        refine r_app' h7 (by rw [rI_len]; omega) ?_
        walk_at "go"
        refine ⟨ord2 ++ [stp rows ord[i] x], _, rfl, same_mut s7 ht, by rw [upd_same]; simp [rI], ?_, nd_snoc nd6 hnew, fun z hz => ?_, ?_, fun z hz => List.mem_append_left _ (sub6 z hz), fun j hj => ?_, fun u hu => ?_⟩
        · rw [List.length_append]
          exact (M7.upd ts.symm).ext fun z => seenM_add z
        · rcases List.mem_append.mp hz with h | h
          · exact lt6 z h
          · rw [List.mem_singleton.mp h]
            exact hlt
        · rw [List.getElem?_append_left (List.getElem?_eq_some_iff.mp hi6).1]
          exact hi6
        · have hj2 : j < ord2.length := by
            have := pre6 j hj
            rw [List.getElem?_eq_getElem hj] at this
            exact (List.getElem?_eq_some_iff.mp this).1
          rw [List.getElem?_append_left hj2]
          exact pre6 j hj
        · rcases Nat.lt_or_ge u x with g | g
          · exact List.mem_append_left _ (cl6 u g)
          · have : u = x := by omega
            rw [this]
            simp
      · have hold : stp rows ord[i] x ∈ ord2 := by
          refine Classical.byContradiction fun z => ?_
          rw [seenM_none.mpr z] at hn6
          cases hn6
        walk_at "go"
        refine ⟨ord2, _, rfl, s6, h6, M6, nd6, lt6, hi6, sub6, pre6, fun u hu => ?_⟩
        rcases Nat.lt_or_ge u x with g | g
        · exact cl6 u g
        · have : u = x := by omega
          rw [this]
          exact hold
    · rintro σ6 H6 ⟨ord2, u2, rfl, s6, h6, M6, nd6, lt6, hi6, sub6, pre6, cl6⟩
      walk_at "go"
      rw [show ((i : Nat) : Int) + 1 = ((i + 1 : Nat) : Int) by omega]
      have hi6' := (List.getElem?_eq_some_iff.mp hi6).1
      refine ⟨n + 1 - (i + 1), by omega, i + 1, ord2, _, rfl, rfl, s6, h6, M6, nd6, lt6, sub6 0 h0, by omega, fun j z hj hzz u hu => ?_⟩
      rcases Nat.lt_or_ge j i with g | g
      · rw [pre6 j (by omega)] at hzz
        exact sub6 _ (cl j z g hzz u hu)
      · have : j = i := by omega
        subst this
        rw [hi6] at hzz
        cases hzz
        refine cl6 u ?_
        rw [rI_len, e2]
        exact hu
  · have e : i = ord.length := by omega
    subst e
    walk_at "go"
    refine k t ord H5 s5 ht h5 ⟨nd, lt, h0, fun z hz u hu => ?_⟩
    obtain ⟨j, hj, ej⟩ := List.mem_iff_getElem.mp hz
    exact cl j z hj (List.getElem?_eq_some_iff.mpr ⟨hj, ej⟩) u hu
end

end K18
end
section
set_option maxRecDepth 100000
set_option maxHeartbeats 4000000
local macro_rules | `(tactic| walk_at "go1") => `(tactic| first
  | (with_reducible refine K18.r_seq ?_) | (with_reducible refine K18.r_ifs ?_) | (with_reducible refine K18.r_ret ?_) | (with_reducible refine K18.r_asg ?_) | (with_reducible refine K18.r_drop ?_) | (with_reducible refine K18.r_next ?_)
  | (with_reducible refine K18.r_name ?_) | (with_reducible refine K18.r_var rfl ?_) | (with_reducible refine K18.r_c ?_) | (with_reducible refine K18.r_op ?_) | (with_reducible refine K18.r_cons ?_) | (with_reducible refine K18.r_nil ?_)
  | (with_reducible refine K18.r_cb ?_) | (with_reducible refine K18.r_call ?_) | (with_reducible refine K18.r_make ?_) | (with_reducible refine K18.r_B ?_) | (with_reducible refine K18.r_test ?_) | (with_reducible refine K18.r_or ?_) | (with_reducible refine K18.r_and ?_) | (with_reducible refine K18.r_not ?_)
  | (with_reducible refine K18.r_andV ?_) | (with_reducible refine K18.r_orV ?_) | (with_reducible refine K18.r_notV ?_) | (with_reducible refine K18.r_if ?_) | (with_reducible refine K18.r_aug rfl ?_) | (with_reducible refine K18.r_ip ?_)
  | (with_reducible refine K18.r_I0 ?_) | (with_reducible refine K18.r_int1 ?_) | (with_reducible refine K18.r_mod (by first | decide | omega) ?_) | (with_reducible refine K18.r_fdivN (by first | decide | omega) (by first | decide | omega) ?_) | (with_reducible refine K18.r_mulR (by first | decide | omega) (by first | decide | omega) ?_) | (with_reducible refine K18.r_mulL (by first | decide | omega) (by first | decide | omega) ?_) | (with_reducible refine K18.r_inG ?_) | (with_reducible refine K18.r_notInG ?_) | (with_reducible refine K18.r_ltS ?_) | (with_reducible refine K18.r_ex ?_) | (with_reducible refine K18.r_eqI ?_) | (with_reducible refine K18.r_neI ?_) | (with_reducible refine K18.r_eqB ?_) | (with_reducible refine K18.r_neB ?_) | (with_reducible refine K18.r_isN ?_)
  | (with_reducible refine K18.r_tup ?_) | (with_reducible refine K18.r_lst ?_) | (with_reducible refine K18.r_yes ?_) | (with_reducible refine K18.r_gsub ?_) | (with_reducible refine K18.r_dget ?_) | (with_reducible refine K18.r_sl ?_) | (with_reducible refine K18.r_part ?_) | (with_reducible refine K18.r_nopart ?_)
  | (with_reducible refine K18.r_chain ?_) | (with_reducible refine K18.r_bm ?_) | (with_reducible refine K18.iteT ?_) | (with_reducible refine K18.iteF ?_) | (with_reducible refine K18.iteNT ?_) | (with_reducible refine K18.iteNF ?_)
  | (with_reducible refine K18.r_for ?_) | (with_reducible refine K18.r_while ?_) | (with_reducible refine K18.r_lc ?_) | (with_reducible refine K18.r_iR1 ?_) | (with_reducible refine K18.r_iR2 ?_) | (with_reducible refine K18.r_iL ?_) | (with_reducible refine K18.r_iT ?_) | (with_reducible refine K18.r_iS ?_)
  | dsimp only [L2.start, List.map, List.replicate, List.length, List.cons_append, List.nil_append, List.append_nil, Nat.reduceAdd, Nat.reduceSub, List.set])
local macro_rules | `(tactic| walk_at "go") => `(tactic| repeat walk_at "go1")
local macro_rules | `(tactic| walk_at "go1") => `(tactic| first
  | (with_reducible refine K18.r_dnotin ?_) | (with_reducible refine K18.r_din ?_) | (with_reducible refine K18.r_dput ?_) | (with_reducible refine K18.r_dnewK ?_) | (with_reducible refine K18.r_dnewT ?_)
  | (with_reducible refine K18.r_gtup ?_) | (with_reducible refine K18.r_gcons ?_) | (with_reducible refine K18.r_gnil ?_) | (with_reducible refine K18.r_iAny ?_) | (with_reducible refine K18.r_lenZ (by first | assumption | omega) ?_))
local macro_rules | `(tactic| walk_at "go1") => `(tactic| first
  | (with_reducible refine K18.r_notN ?_) | (with_reducible refine K18.r_truth ?_))
namespace K18
open PySem PySem.Spec PyProof.Rows L2
local macro_rules | `(tactic| walk_at "go1") => `(tactic| first
  | (with_reducible refine K18.r_dc ?_) | (with_reducible refine K18.r_fld ?_) | (with_reducible refine K18.r_nnotin ?_) | (with_reducible refine K18.r_nget ?_) | (with_reducible refine K18.r_nput ?_) | (with_reducible refine K18.r_dnewN ?_))
/-- a number for each of ord -/
def onM (ord : List Nat) (f : Nat → Nat) : Nat → Option V := fun z => if z ∈ ord then some (.int ((f z : Nat) : Int)) else none
theorem onM_in {ord : List Nat} {f : Nat → Nat} {z : Nat} (h : z ∈ ord) : onM ord f z = some (.int ((f z : Nat) : Int)) := if_pos h
theorem onM_snoc {l : List Nat} {f g : Nat → Nat} {z : Nat} (h : ∀ x ∈ l, g x = f x) (x : Nat) : (if x = z then some (V.int ((g z : Nat) : Int)) else onM l f x) = onM (l ++ [z]) g x := by
  unfold onM
  by_cases e : x = z
  · subst e
    rw [if_pos rfl, if_pos (by simp)]
  · rw [if_neg e]
    by_cases q : x ∈ l
    · rw [if_pos q, if_pos (List.mem_append_left _ q), h x q]
    · rw [if_neg q, if_neg (fun z => by
        rcases List.mem_append.mp z with z | z
        · exact q z
        · exact e (List.mem_singleton.mp z))]
theorem MapI.neD {P : Program} {w : World} {H : Hp} {a b : Addr} {n : Nat} {m : Nat → Option V} {ks : List K2} (M : MapI H a n m) (d : DN P w H b ks) : a ≠ b := fun e => by
  obtain ⟨kvs, h1, _⟩ := M
  obtain ⟨xs, h2, _⟩ := d
  rw [e, h2] at h1
  cases h1
theorem MapI.ne0 {H : Hp} {a b : Addr} {n : Nat} {m : Nat → Option V} (M : MapI H a n m) (h : H b = none) : a ≠ b := let ⟨_, h1, _⟩ := M; ne_of_none h1 h
theorem DN.ne0 {P : Program} {w : World} {H : Hp} {b c : Addr} {ks : List K2} (d : DN P w H b ks) (h : H c = none) : b ≠ c := let ⟨_, h1, _⟩ := d; ne_of_none h1 h
section
variable {P : Program} {w : World} {K : PySem.W.Frag} {mg : Str → Option Value} {base : Heap}
def spLots (K : PySem.W.Frag) : Sp := fun vs H Q _ => ∃ (v : V) (wd o k n cnt : Nat) (rows : List (List Nat)) (gs ord : List Nat), vs = [v, .ref wd, .ref o] ∧ RowsT K H v rows ∧ Tab k n rows ∧ n ≤ 100 ∧ k ≤ 12 ∧ MapI H wd cnt (seenM gs) ∧ H o = some (.lst (rI ord)) ∧ FndD k n rows ord ∧
  ∀ p lo H', Same H H' → H p = none → MapI H' p ord.length (onM ord lo) → Lots k (stp rows) (fun z => decide (z ∈ gs)) ord lo → Q (.ref p) H'
theorem sc_lots_alike : FnScope ["rows", "goals", "order", "begun", "z", "marks", "many", "numbers", "fresh", "key", "onto"] ["rows", "goals", "order"] (defScope s_lots_alike) := ⟨rfl, rfl, rfl, by decide +kernel, rfl, by decide +kernel, by decide +kernel⟩
theorem ok_lots_alike (T : Tx K mg) : C1 P w K mg base CX0 1 "lots_alike" ["rows", "goals", "order"] (spLots K) := by
  obtain ⟨fd, F⟩ := d_lots_alike T
  refine .mk1 F (g_lots_alike T) (fun _ _ _ _ _ _ us hl => match us, hl with | [_, _, _], _ => rfl) sc_lots_alike (fun vs H Q E h => ?_) (fun cdv A outer s H vs Q E hr h => ?_)
  · obtain ⟨v, wd, o, kk, n, cnt, rows, gs, ord, rfl, R, Tb, hn, hk, Wd, ho, F, k⟩ := h
    rfl
  obtain ⟨v, wd, o, kk, n, cnt, rows, gs, ord, rfl, R, Tb, hn, hk, Wd, ho, F, k⟩ := h
  have hu := hu_of hr
  have hu64 := hu64_of hr
  have hu6 := hu64' hr
  refine ⟨_, (pss_cons (ps_set (i := 3) sc_lots_alike.nd rfl (Or.inl rfl) pe_dnewK)
      (pss_cons (ps_for PassesOwn.never rfl (pi_listK K (by rfl) (pv 2)) (pg_name (i := 4) sc_lots_alike.nd rfl (Or.inl rfl)) (pss_one (ps_dput hu (pv 3) (pv 4) (pe_ifExp (pt_cmp (pc_din hu (pv 4) (pv 1))) pe_int pe_int) rfl)))
      (pss_cons (ps_set (i := 5) sc_lots_alike.nd rfl (Or.inr rfl) (pv 3))
      (pss_cons (ps_set (i := 6) sc_lots_alike.nd rfl (Or.inl rfl) pe_int)
      (pss_one (ps_while PassesOwn.never (pt_val pe_bl) (pss_cons (ps_set (i := 7) sc_lots_alike.nd rfl (Or.inl rfl) (pe_dnewN P w (by rfl) (by rfl)))
      (pss_cons (ps_set (i := 8) sc_lots_alike.nd rfl (Or.inl rfl) pe_dnewK)
      (pss_cons (ps_for PassesOwn.never rfl (pi_listK K (by rfl) (pv 2)) (pg_name (i := 4) sc_lots_alike.nd rfl (Or.inl rfl)) (pss_cons (ps_set (i := 9) sc_lots_alike.nd rfl (Or.inl rfl) (pe_tup (pa_cons (pe_dget hu (pv 5) (pv 4) (fun _ _ => rfl)) (pa_cons (pe_callTy (call_tupleK K (by rfl)) (by rfl) (f_tuple T) (by decide +kernel) (pa_cons (pe_lc (own := [("onto", 10)]) (g := gName 10) (by rfl) sc_lots_alike.nd (pi_tupK K (by rfl) (pe_ix (ix_tupK K (by rfl)) (pv 0) (pv 4) (fun _ _ => rfl))) (blkOk_by (own := [("onto", 10)]) (by kernel_rfl)) (fun _ _ _ _ _ => pg_name (i := 10) sc_lots_alike.nd rfl (Or.inl rfl)) (fun _ _ _ _ _ => pts_nil) (fun _ _ _ _ _ => (pe_dget hu (pv 5) (pv 10) (fun _ _ => rfl)))) pa_nil)) pa_nil))))
      (pss_cons (ps_if (pt_cmp (pc_nnotin P w (by rfl) (by rfl) hu64 (pv 9) (pv 7))) (pss_one (ps_nput P w (by rfl) (by rfl) hu64 (pv 7) (pv 9) (pe_callB (call_lenN P w (by rfl) (by rfl)) (by rfl) (f_len T) PySem.boot_len (pa_cons (pv 7) pa_nil)) rfl)) pss_nil)
      (pss_one (ps_dput hu (pv 8) (pv 4) (pe_nget P w (by rfl) (by rfl) hu64 (pv 7) (pv 9) (fun _ _ => rfl)) rfl)))))
      (pss_cons (ps_if (pt_cmpR op_eq (pe_callB (call_lenN P w (by rfl) (by rfl)) (by rfl) (f_len T) PySem.boot_len (pa_cons (pv 7) pa_nil)) (pv 6) (nomark _)) (pss_one (ps_ret (pv 8))) pss_nil)
      (pss_cons (ps_set (i := 6) sc_lots_alike.nd rfl (Or.inl rfl) (pe_callB (call_lenN P w (by rfl) (by rfl)) (by rfl) (f_len T) PySem.boot_len (pa_cons (pv 7) pa_nil)))
      (pss_one (ps_set (i := 5) sc_lots_alike.nd rfl (Or.inr rfl) (pv 8)))))))))))))), ?_⟩
  walk_at "go"
  obtain ⟨va, vvs, rfl, hva, pvs⟩ := id R
  have lo := nd_len F.nd F.lt
  have hne : ord ≠ [] := List.ne_nil_of_mem F.h0
  intro b hb
  walk_at "go"
  have ob : o ≠ b := ne_of_none ho hb
  refine ⟨o, rfl, ⟨_, SqL.of (by rw [upd_ne ob]; exact ho)⟩, ?_⟩
  refine fo_L (xs := rI ord) (fun i σ H' => ∃ u : Option V, σ = [some (.ref va), some (.ref wd), some (.ref o), some (.ref b), u, none, none, none, none, none, none] ∧ Same H H' ∧ MapI H' b i (onM (ord.take i) fun z => if z ∈ gs then 1 else 0) ∧ i ≤ ord.length)
    ⟨_, rfl, same_new hb, ⟨[], upd_same, Nat.le_refl _, fun z => by rw [List.take_zero]; rfl⟩, Nat.zero_le _⟩ (fun i σ H' _ ⟨_, _, s, _⟩ => SqL.of (s _ _ ho)) ?_ ?_
  · rintro i x σ H1 hx ⟨u, rfl, s1, M1, _⟩
    have hi : i < ord.length := by
      have := (List.getElem?_eq_some_iff.mp hx).1
      rw [rI_len] at this
      exact this
    have hti : ord[i]? = some ord[i] := List.getElem?_eq_some_iff.mpr ⟨hi, rfl⟩
    rw [rI_at hti hx]
    have htk : ord.take (i + 1) = ord.take i ++ [ord[i]] := by
      rw [List.take_add_one, hti]
      rfl
    walk_at "go"
    refine ⟨wd, _, rfl, (Wd.same s1).dget _, ?_⟩
    walk_at "go"
    have fin : ∀ (c : Nat), c = (if ord[i] ∈ gs then 1 else 0) → ∃ a H4, V.ref b = V.ref a ∧ DPut H1 a (.int ((ord[i] : Nat) : Int)) (.int ((c : Nat) : Int)) H4 ∧ ∃ u : Option V, [some (V.ref va), some (.ref wd), some (.ref o), some (.ref b), some (.int ((ord[i] : Nat) : Int)), none, none, none, none, none, none] = [some (V.ref va), some (.ref wd), some (.ref o), some (.ref b), u, none, none, none, none, none, none] ∧ Same H H4 ∧ MapI H4 b (i + 1) (onM (ord.take (i + 1)) fun z => if z ∈ gs then 1 else 0) ∧ i + 1 ≤ ord.length := fun c hc => by
      obtain ⟨H2, P2, M2, o2, e2⟩ := M1.put ord[i] (.int ((c : Nat) : Int)) (by omega)
      refine ⟨b, H2, rfl, P2, _, rfl, by rw [e2]; exact same_mut s1 hb, ?_, hi⟩
      rw [htk]
      refine M2.ext fun z => ?_
      have := onM_snoc (l := ord.take i) (f := fun z => if z ∈ gs then 1 else 0) (g := fun z => if z ∈ gs then 1 else 0) (z := ord[i]) (fun _ _ => rfl) z
      rw [← hc] at this
      exact this
    refine iteB (fun hs => ?_) (fun hs => ?_)
    · walk_at "go"
      have : ord[i] ∈ gs := by
        unfold seenM at hs
        by_cases q : ord[i] ∈ gs
        · exact q
        · rw [if_neg q] at hs
          cases hs
      exact fin 1 (by rw [if_pos this])
    · walk_at "go"
      have : ord[i] ∉ gs := fun q => by
        unfold seenM at hs
        rw [if_pos q] at hs
        cases hs
      exact fin 0 (by rw [if_neg this])
  rintro σ H1 ⟨u, rfl, s1, M1, _⟩
  rw [rI_len, List.take_length] at M1
  walk_at "go"
  have Mk0 : Marks kk (stp rows) (fun z => decide (z ∈ gs)) ord (fun z => if z ∈ gs then 1 else 0) 0 := Marks.begin _ fun z _ => by
    by_cases q : z ∈ gs <;> simp [q]
  refine ⟨fun m σ H' => ∃ (p : Addr) (mk : Nat → Nat) (many : Nat) (u0 u1 u2 u3 u4 : Option V), m = ord.length + 1 - many ∧ σ = [some (.ref va), some (.ref wd), some (.ref o), u0, u1, some (.ref p), some (.int ((many : Nat) : Int)), u2, u3, u4, none] ∧ Same H H' ∧ H p = none ∧ MapI H' p ord.length (onM ord mk) ∧ Marks kk (stp rows) (fun z => decide (z ∈ gs)) ord mk many,
    ⟨ord.length + 1 - 0, b, _, 0, _, _, _, _, _, rfl, rfl, s1, hb, M1, Mk0⟩, ?_⟩
  rintro m σ' H2 ⟨p, mk, many, u0, u1, u2, u3, u4, hm, rfl, s2, hp0, M2, Mk⟩
  walk_at "go"
  refine ⟨_, fun _ _ z => z, ?_⟩
  walk_at "go"
  intro nb hnb DN0
  walk_at "go"
  intro f hf
  walk_at "go"
  have pn : p ≠ nb := M2.ne0 hnb
  have sn := same_new (o := .ext (dnφ P w nb [])) hnb
  have DN1 := DN0.same (same_new (o := .dK []) hf)
  have nf : nb ≠ f := DN0.ne0 hf
  have pf : p ≠ f := (M2.same sn).ne0 hf
  have sf := sn.trans (same_new (o := .dK []) hf)
  have nb0 : H nb = none := s2.free hnb
  have f0 : H f = none := s2.free (sn.free hf)
  have s3 := s2.trans sf
  refine ⟨o, rfl, ⟨_, SqL.of (s3 _ _ ho)⟩, ?_⟩
  refine fo_L (xs := rI ord) (fun i σ H' => ∃ u0 u1 u2 : Option V, σ = [some (.ref va), some (.ref wd), some (.ref o), u0, u1, some (.ref p), some (.int ((many : Nat) : Int)), some (.ref nb), some (.ref f), u2, none] ∧ Same H H' ∧ MapI H' p ord.length (onM ord mk) ∧ DN P w H' nb (metN (keyOf kk (stp rows) mk) (ord.take i)) ∧ MapI H' f i (onM (ord.take i) (num (keyOf kk (stp rows) mk) (ord.take i))) ∧ i ≤ ord.length)
    ⟨_, _, _, rfl, s3, M2.same sf, by rw [List.take_zero]; exact DN1, ⟨[], upd_same, Nat.le_refl _, fun z => by rw [List.take_zero]; rfl⟩, Nat.zero_le _⟩ (fun i σ H' _ ⟨_, _, _, _, s, _⟩ => SqL.of (s _ _ ho)) ?_ ?_
  · rintro i x σ H4 hx ⟨w0, w1, w2, rfl, s4, M4, D4, F4, _⟩
    have hi : i < ord.length := by
      have := (List.getElem?_eq_some_iff.mp hx).1
      rw [rI_len] at this
      exact this
    have hti : ord[i]? = some ord[i] := List.getElem?_eq_some_iff.mpr ⟨hi, rfl⟩
    rw [rI_at hti hx]
    have htk : ord.take (i + 1) = ord.take i ++ [ord[i]] := by
      rw [List.take_add_one, hti]
      rfl
    have hz0 := List.getElem_mem hi
    generalize hzz : ord[i] = z at hz0 htk ⊢
    have hzn := F.lt z hz0
    obtain ⟨r, e1, e2, e3, e4⟩ := Tb.get hzn
    obtain ⟨y, hy1, ra, rfl, hra⟩ := paired_get pvs e1
    walk_at "go"
    have g1 := M4.dget z
    rw [onM_in hz0] at g1
    refine ⟨p, _, rfl, g1, ?_⟩
    walk_at "go"
    refine r_ixT (sqT_same s4 hva) (atI_nat hy1) ?_
    refine ⟨ra, rfl, ⟨_, sqT_same s4 hra⟩, fun D hD => ?_⟩
    refine lcg_T (xs := rI r) (fun x => match x with | .int j => .int ((mk j.toNat : Nat) : Int) | v => v) (by rw [rI_len]; omega) hD (sqT_same s4 hra) ?_ ?_
    · intro m x H5 hx5 s5 Q5 k5
      obtain ⟨u, hu, rfl⟩ := nat_of_mem (List.mem_of_getElem? hx5)
      obtain ⟨j, hj, ej⟩ := List.mem_iff_getElem.mp hu
      have huo : u ∈ ord := by
        have := e4 j (by omega)
        rw [List.getElem?_eq_getElem hj, ej] at this
        rw [Option.some.inj this]
        exact F.cl z hz0 j (by omega)
      walk_at "go"
      have g2 := (M4.same s5).dget u
      rw [onM_in huo] at g2
      refine ⟨p, _, rfl, g2, ?_⟩
      exact k5 _ (Same.refl _)
    · intro H5 s5 hL
      walk_at "go"
      have ek : (rI r).map (fun x => match x with | .int j => V.int ((mk j.toNat : Nat) : Int) | v => v) = rI ((List.range kk).map fun v => mk (stp rows z v)) := by
        rw [← Tb.map e1 mk]
        simp [rI]
      rw [ek] at hL
      refine r_tupL (SqL.of hL) fun c hc => ?_
      walk_at "go"
      refine ⟨by decide, fun kb hkb => ?_⟩
      walk_at "go"
      have s6 := (s5.trans (same_new (o := .tup (rI ((List.range kk).map fun v => mk (stp rows z v)))) hc)).trans (same_new (o := .tup [.int ((mk z : Nat) : Int), .ref c]) hkb)
      have KN6 : KeyN (upd (upd H5 c (.tup (rI ((List.range kk).map fun v => mk (stp rows z v))))) kb (.tup [.int ((mk z : Nat) : Int), .ref c])) kb (keyOf kk (stp rows) mk z) := ⟨c, upd_same, same_new hkb _ _ upd_same⟩
      generalize upd (upd H5 c (.tup (rI ((List.range kk).map fun v => mk (stp rows z v))))) kb (.tup [.int ((mk z : Nat) : Int), .ref c]) = H6 at s6 KN6 ⊢
      have s46 := s4.trans s6
      have M6 := M4.same s6
      have D6 := D4.same s6
      have F6 := F4.same s6
      refine ⟨nb, kb, _, _, rfl, rfl, D6, KN6, ?_⟩
      walk_at "go"
      have hlm : (metN (keyOf kk (stp rows) mk) (ord.take i)).length ≤ i := by
        have := nextC_le (k := kk) (d := stp rows) (ord := ord.take i) (mk := mk)
        unfold nextC at this
        rw [List.length_take] at this
        omega
      have keep : ∀ x ∈ ord.take i, num (keyOf kk (stp rows) mk) (ord.take (i + 1)) x = num (keyOf kk (stp rows) mk) (ord.take i) x := fun x hx => by
        unfold num
        rw [htk, metN_snoc, addN_ix (in_met hx)]
      have put : ∀ (H7 : Hp), Same H H7 → MapI H7 p ord.length (onM ord mk) → DN P w H7 nb (metN (keyOf kk (stp rows) mk) (ord.take (i + 1))) → MapI H7 f i (onM (ord.take i) (num (keyOf kk (stp rows) mk) (ord.take i))) → ∃ a H8, V.ref f = V.ref a ∧ DPut H7 a (.int ((z : Nat) : Int)) (.int ((ix (keyOf kk (stp rows) mk z) (metN (keyOf kk (stp rows) mk) (ord.take (i + 1))) : Nat) : Int)) H8 ∧
          ∃ u0 u1 u2 : Option V, [some (V.ref va), some (.ref wd), some (.ref o), w0, some (.int ((z : Nat) : Int)), some (.ref p), some (.int ((many : Nat) : Int)), some (.ref nb), some (.ref f), some (.ref kb), none] = [some (V.ref va), some (.ref wd), some (.ref o), u0, u1, some (.ref p), some (.int ((many : Nat) : Int)), some (.ref nb), some (.ref f), u2, none] ∧ Same H H8 ∧ MapI H8 p ord.length (onM ord mk) ∧ DN P w H8 nb (metN (keyOf kk (stp rows) mk) (ord.take (i + 1))) ∧ MapI H8 f (i + 1) (onM (ord.take (i + 1)) (num (keyOf kk (stp rows) mk) (ord.take (i + 1)))) ∧ i + 1 ≤ ord.length := fun H7 s7 M7 D7 F7 => by
        obtain ⟨H8, P8, F8, o8, e8⟩ := F7.put z (.int ((num (keyOf kk (stp rows) mk) (ord.take (i + 1)) z : Nat) : Int)) (by omega)
        refine ⟨f, H8, rfl, P8, _, _, _, rfl, by rw [e8]; exact same_mut s7 f0, by rw [e8]; exact M7.upd pf, ?_, ?_, hi⟩
        · have kt : Kt H7 (upd H7 f o8) := F7.kt
          rw [e8]
          exact D7.upd nf kt
        · refine F8.ext fun x => ?_
          have := onM_snoc (l := ord.take i) (f := num (keyOf kk (stp rows) mk) (ord.take i)) (g := num (keyOf kk (stp rows) mk) (ord.take (i + 1))) (z := z) keep x
          rw [← htk] at this
          exact this
      refine iteND (fun hnew => ?_) (fun hold => ?_)
      · walk_at "go"
        refine ⟨nb, _, rfl, D6, ?_⟩
        walk_at "go"
        refine ⟨nb, kb, _, _, rfl, rfl, D6, KN6, hnew, rfl, sl100' (by omega), fun H7 ob7 e7 D7 => ?_⟩
        have em : metN (keyOf kk (stp rows) mk) (ord.take i) ++ [keyOf kk (stp rows) mk z] = metN (keyOf kk (stp rows) mk) (ord.take (i + 1)) := by
          rw [htk, metN_snoc]
          unfold addN
          rw [if_neg hnew]
        rw [em] at D7
        have kt7 : Kt H6 H7 := by
          rw [e7]
          exact D6.kt
        walk_at "go"
        have hin : keyOf kk (stp rows) mk z ∈ metN (keyOf kk (stp rows) mk) (ord.take (i + 1)) := in_met (by rw [htk]; simp)
        refine ⟨nb, kb, _, _, rfl, rfl, D7, KN6.kt kt7, hin, ?_⟩
        walk_at "go"
        exact put H7 (by rw [e7]; exact same_mut s46 nb0) (by rw [e7]; exact M6.upd pn) D7 (by rw [e7]; exact F6.upd nf.symm)
      · have em : metN (keyOf kk (stp rows) mk) (ord.take i) = metN (keyOf kk (stp rows) mk) (ord.take (i + 1)) := by
          rw [htk, metN_snoc]
          unfold addN
          rw [if_pos hold]
        have D7 := D6
        rw [em] at D7 hold
        walk_at "go"
        refine ⟨nb, kb, _, _, rfl, rfl, D7, KN6, hold, ?_⟩
        walk_at "go"
        exact put H6 s46 M6 D7 F6
  · rintro σ H4 ⟨w0, w1, w2, rfl, s4, M4, D4, F4, _⟩
    rw [rI_len, List.take_length] at D4 F4
    walk_at "go"
    refine ⟨nb, _, rfl, D4, ?_⟩
    walk_at "go"
    have hC : (metN (keyOf kk (stp rows) mk) ord).length = nextC kk (stp rows) ord mk := rfl
    have pos := nextC_pos (k := kk) (d := stp rows) (mk := mk) hne
    have le := nextC_le (k := kk) (d := stp rows) (ord := ord) (mk := mk)
    have gr := Mk.grows
    refine iteD (fun h => ?_) (fun h => ?_)
    · walk_at "go"
      have e : nextC kk (stp rows) ord mk = many := by
        rw [hC] at h
        omega
      exact k f _ H4 s4 f0 F4 (Mk.lots F.cl hne e)
    · walk_at "go"
      refine ⟨nb, _, rfl, D4, ?_⟩
      walk_at "go"
      rw [hC] at h
      refine ⟨ord.length + 1 - nextC kk (stp rows) ord mk, by omega, f, nextM kk (stp rows) ord mk, nextC kk (stp rows) ord mk, _, _, _, _, _, rfl, rfl, s4, f0, F4, Mk.next F.cl⟩
end

end K18
end
section
set_option maxRecDepth 100000
set_option maxHeartbeats 4000000
local macro_rules | `(tactic| walk_at "go1") => `(tactic| first
  | (with_reducible refine K18.r_seq ?_) | (with_reducible refine K18.r_ifs ?_) | (with_reducible refine K18.r_ret ?_) | (with_reducible refine K18.r_asg ?_) | (with_reducible refine K18.r_drop ?_) | (with_reducible refine K18.r_next ?_)
  | (with_reducible refine K18.r_name ?_) | (with_reducible refine K18.r_var rfl ?_) | (with_reducible refine K18.r_c ?_) | (with_reducible refine K18.r_op ?_) | (with_reducible refine K18.r_cons ?_) | (with_reducible refine K18.r_nil ?_)
  | (with_reducible refine K18.r_cb ?_) | (with_reducible refine K18.r_call ?_) | (with_reducible refine K18.r_make ?_) | (with_reducible refine K18.r_B ?_) | (with_reducible refine K18.r_test ?_) | (with_reducible refine K18.r_or ?_) | (with_reducible refine K18.r_and ?_) | (with_reducible refine K18.r_not ?_)
  | (with_reducible refine K18.r_andV ?_) | (with_reducible refine K18.r_orV ?_) | (with_reducible refine K18.r_notV ?_) | (with_reducible refine K18.r_if ?_) | (with_reducible refine K18.r_aug rfl ?_) | (with_reducible refine K18.r_ip ?_)
  | (with_reducible refine K18.r_I0 ?_) | (with_reducible refine K18.r_int1 ?_) | (with_reducible refine K18.r_mod (by first | decide | omega) ?_) | (with_reducible refine K18.r_fdivN (by first | decide | omega) (by first | decide | omega) ?_) | (with_reducible refine K18.r_mulR (by first | decide | omega) (by first | decide | omega) ?_) | (with_reducible refine K18.r_mulL (by first | decide | omega) (by first | decide | omega) ?_) | (with_reducible refine K18.r_inG ?_) | (with_reducible refine K18.r_notInG ?_) | (with_reducible refine K18.r_ltS ?_) | (with_reducible refine K18.r_ex ?_) | (with_reducible refine K18.r_eqI ?_) | (with_reducible refine K18.r_neI ?_) | (with_reducible refine K18.r_eqB ?_) | (with_reducible refine K18.r_neB ?_) | (with_reducible refine K18.r_isN ?_)
  | (with_reducible refine K18.r_tup ?_) | (with_reducible refine K18.r_lst ?_) | (with_reducible refine K18.r_yes ?_) | (with_reducible refine K18.r_gsub ?_) | (with_reducible refine K18.r_dget ?_) | (with_reducible refine K18.r_sl ?_) | (with_reducible refine K18.r_part ?_) | (with_reducible refine K18.r_nopart ?_)
  | (with_reducible refine K18.r_chain ?_) | (with_reducible refine K18.r_bm ?_) | (with_reducible refine K18.iteT ?_) | (with_reducible refine K18.iteF ?_) | (with_reducible refine K18.iteNT ?_) | (with_reducible refine K18.iteNF ?_)
  | (with_reducible refine K18.r_for ?_) | (with_reducible refine K18.r_while ?_) | (with_reducible refine K18.r_lc ?_) | (with_reducible refine K18.r_iR1 ?_) | (with_reducible refine K18.r_iR2 ?_) | (with_reducible refine K18.r_iL ?_) | (with_reducible refine K18.r_iT ?_) | (with_reducible refine K18.r_iS ?_)
  | dsimp only [L2.start, List.map, List.replicate, List.length, List.cons_append, List.nil_append, List.append_nil, Nat.reduceAdd, Nat.reduceSub, List.set])
local macro_rules | `(tactic| walk_at "go") => `(tactic| repeat walk_at "go1")
local macro_rules | `(tactic| walk_at "go1") => `(tactic| first
  | (with_reducible refine K18.r_dnotin ?_) | (with_reducible refine K18.r_din ?_) | (with_reducible refine K18.r_dput ?_) | (with_reducible refine K18.r_dnewK ?_) | (with_reducible refine K18.r_dnewT ?_)
  | (with_reducible refine K18.r_gtup ?_) | (with_reducible refine K18.r_gcons ?_) | (with_reducible refine K18.r_gnil ?_) | (with_reducible refine K18.r_iAny ?_) | (with_reducible refine K18.r_lenZ (by first | assumption | omega) ?_))
local macro_rules | `(tactic| walk_at "go1") => `(tactic| first
  | (with_reducible refine K18.r_notN ?_) | (with_reducible refine K18.r_truth ?_))
namespace K18
open PySem PySem.Spec PyProof.Rows L2
local macro_rules | `(tactic| walk_at "go1") => `(tactic| first
  | (with_reducible refine K18.r_dc ?_) | (with_reducible refine K18.r_fld ?_) | (with_reducible refine K18.r_nnotin ?_) | (with_reducible refine K18.r_nget ?_) | (with_reducible refine K18.r_nput ?_) | (with_reducible refine K18.r_dnewN ?_))
/-- the first standing of each lot -/
def fstO (ord : List Nat) (lo : Nat → Nat) (l : Nat) : Option Nat := ord.find? fun z => decide (lo z = l)
def fstF (ord : List Nat) (lo : Nat → Nat) (l : Nat) : Nat := (fstO ord lo l).getD 0
theorem fstO_in {ord : List Nat} {lo : Nat → Nat} {z : Nat} (h : z ∈ ord) : ∃ y, fstO ord lo (lo z) = some y ∧ y ∈ ord ∧ lo y = lo z := by
  unfold fstO
  cases e : ord.find? fun y => decide (lo y = lo z) with
  | none =>
    have := List.find?_eq_none.mp e z h
    simp at this
  | some y =>
    have h1 := List.find?_some e
    exact ⟨y, rfl, List.mem_of_find?_eq_some e, by simpa using h1⟩
theorem fstO_snoc (l : List Nat) (lo : Nat → Nat) (z x : Nat) : fstO (l ++ [z]) lo x = (fstO l lo x).or (if lo z = x then some z else none) := by
  unfold fstO
  rw [List.find?_append]
  by_cases e : lo z = x
  · rw [if_pos e, List.find?_cons_of_pos (by simpa using e)]
  · rw [if_neg e, List.find?_cons_of_neg (by simpa using e)]
    rfl
def fstM (ord : List Nat) (lo : Nat → Nat) : Nat → Option V := fun l => (fstO ord lo l).map fun z => V.int ((z : Nat) : Int)
theorem rI_app (l m : List Nat) : rI (l ++ m) = rI l ++ rI m := List.map_append
/-- a row's tuple -/
def TupR (H : Hp) (v : V) (r : List Nat) : Prop := ∃ q, v = .ref q ∧ H q = some (.tup (rI r))
theorem TupR.kt {H H' : Hp} {v : V} {r : List Nat} (h : TupR H v r) (e : Kt H H') : TupR H' v r := let ⟨q, h1, h2⟩ := h; ⟨q, h1, e _ _ h2⟩
theorem TupR.row {K : PySem.W.Frag} {H : Hp} {v : V} {r : List Nat} (h : TupR H v r) : RowT K H v r := let ⟨q, h1, h2⟩ := h; ⟨q, h1, SqT.of h2⟩
theorem lrow_app {kk : Nat} {dd : Nat → Nat → Nat} {ls : List Nat} {l x : Nat} (h : ∀ v, v < kk → dd l v ∈ ls) : lrow kk dd (ls ++ [x]) l = lrow kk dd ls l := by
  unfold lrow
  exact List.map_congr_left fun v hv => ix_app (h v (List.mem_range.mp hv))
theorem lrows_app {kk i : Nat} {dd : Nat → Nat → Nat} {ls : List Nat} {x : Nat} (hi : i ≤ ls.length) (h : ∀ l ∈ ls.take i, ∀ v, v < kk → dd l v ∈ ls) : ((ls ++ [x]).take i).map (lrow kk dd (ls ++ [x])) = (ls.take i).map (lrow kk dd ls) := by
  rw [List.take_append_of_le_length hi]
  exact List.map_congr_left fun l hl => lrow_app (h l hl)
section
variable {P : Program} {w : World} {K : PySem.W.Frag} {mg : Str → Option Value} {base : Heap}
def LeastT (K : PySem.W.Frag) (H : Hp) (v : V) (L : List (List Nat)) (E : List Nat) : Prop := ∃ p vl ve, v = .ref p ∧ H p = some (.tup [vl, ve]) ∧ RowsT K H vl L ∧ RowT K H ve E
def spLeast (K : PySem.W.Frag) : Sp := fun vs H Q _ => ∃ (v g : V) (k n : Nat) (rows : List (List Nat)) (gs : List Nat), vs = [v, g] ∧ RowsT K H v rows ∧ Tab k n rows ∧ n ≤ 100 ∧ k ≤ 12 ∧ RowT K H g gs ∧ GoalD n gs ∧
  ∀ v' L E H', Same H H' → LeastT K H' v' L E → Least k (fun w => decide (run (stp rows) 0 w ∈ gs)) L E → L.length ≤ n → Q v' H'
theorem sc_least_form : FnScope ["rows", "goals", "wanted", "z", "order", "lots", "first_ones", "numbers", "told", "k", "least_rows", "row", "onto", "ends"] ["rows", "goals"] (defScope s_least_form) := ⟨rfl, rfl, rfl, by decide +kernel, rfl, by decide +kernel, by decide +kernel⟩
theorem ok_least_form (T : Tx K mg) : C1 P w K mg base CX0 2 "least_form" ["rows", "goals"] (spLeast K) := by
  obtain ⟨fd, F⟩ := d_least_form T
  refine .mk1 F (g_least_form T) (fun _ _ _ _ _ _ us hl => match us, hl with | [_, _], _ => rfl) sc_least_form (fun vs H Q E h => ?_) (fun cdv A outer s H vs Q E hr h => ?_)
  · obtain ⟨v, g, kk, n, rows, gs, rfl, R, Tb, hn, hk, Rg, G, k⟩ := h
    rfl
  obtain ⟨v, g, kk, n, rows, gs, rfl, R, Tb, hn, hk, Rg, G, k⟩ := h
  have hu := hu_of hr
  have hu64 := hu64_of hr
  have hu6 := hu64' hr
  refine ⟨_, (pss_cons (ps_set (i := 2) sc_least_form.nd rfl (Or.inr rfl) pe_dnewK)
      (pss_cons (ps_for PassesOwn.never rfl (pi_tupK K (by rfl) (pv 1)) (pg_name (i := 3) sc_least_form.nd rfl (Or.inl rfl)) (pss_one (ps_dput hu (pv 2) (pv 3) pe_bl rfl)))
      (pss_cons (ps_set (i := 4) sc_least_form.nd rfl (Or.inl rfl) (pe_c1 (ok_found_order T) (hr.mono (by decide)) (by rfl) (pa_cons (pv 0) pa_nil)))
      (pss_cons (ps_set (i := 5) sc_least_form.nd rfl (Or.inl rfl) (pe_c1 (ok_lots_alike T) (hr.mono (by decide)) (by rfl) (pa_cons (pv 0) (pa_cons (pv 2) (pa_cons (pv 4) pa_nil)))))
      (pss_cons (ps_set (i := 6) sc_least_form.nd rfl (Or.inr rfl) pe_dnewK)
      (pss_cons (ps_for PassesOwn.never rfl (pi_listK K (by rfl) (pv 4)) (pg_name (i := 3) sc_least_form.nd rfl (Or.inl rfl)) (pss_one (ps_if (pt_cmp (pc_dnotin hu (pe_dget hu (pv 5) (pv 3) (fun _ _ => rfl)) (pv 6))) (pss_one (ps_dput hu (pv 6) (pe_dget hu (pv 5) (pv 3) (fun _ _ => rfl)) (pv 3) rfl)) pss_nil)))
      (pss_cons (ps_set (i := 7) sc_least_form.nd rfl (Or.inl rfl) pe_dnewK)
      (pss_cons (ps_dput hu (pv 7) (pe_dget hu (pv 5) pe_int (fun _ _ => rfl)) pe_int rfl)
      (pss_cons (ps_set (i := 8) sc_least_form.nd rfl (Or.inr rfl) (pe_lst (pa_cons (pe_dget hu (pv 5) pe_int (fun _ _ => rfl)) pa_nil)))
      (pss_cons (ps_set (i := 9) sc_least_form.nd rfl (Or.inl rfl) pe_int)
      (pss_cons (ps_set (i := 10) sc_least_form.nd rfl (Or.inl rfl) (pe_lst pa_nil))
      (pss_cons (ps_while PassesOwn.never (pt_cmpR op_lt (pv 9) (pe_callB (call_lenK K (by rfl)) (by rfl) (f_len T) PySem.boot_len (pa_cons (pv 8) pa_nil)) (nomark _)) (pss_cons (ps_set (i := 11) sc_least_form.nd rfl (Or.inl rfl) (pe_lst pa_nil))
      (pss_cons (ps_for PassesOwn.never rfl (pi_tupK K (by rfl) (pe_ix (ix_tupK K (by rfl)) (pv 0) (pe_dget hu (pv 6) (pe_ix (ix_listK K (by rfl)) (pv 8) (pv 9) (fun _ _ => rfl)) (fun _ _ => rfl)) (fun _ _ => rfl))) (pg_name (i := 12) sc_least_form.nd rfl (Or.inl rfl)) (pss_cons (ps_if (pt_cmp (pc_dnotin hu (pe_dget hu (pv 5) (pv 12) (fun _ _ => rfl)) (pv 7))) (pss_cons (ps_dput hu (pv 7) (pe_dget hu (pv 5) (pv 12) (fun _ _ => rfl)) (pe_callB (call_lenK K (by rfl)) (by rfl) (f_len T) PySem.boot_len (pa_cons (pv 8) pa_nil)) rfl)
      (pss_one (ps_expr (pe_bmK K (by rfl) PySem.F.plainAttrs_list PySem.F.slot_list_append PySem.F.type_list_append mt_append (pv 8) (pa_cons (pe_dget hu (pv 5) (pv 12) (fun _ _ => rfl)) pa_nil))))) pss_nil)
      (pss_one (ps_expr (pe_bmK K (by rfl) PySem.F.plainAttrs_list PySem.F.slot_list_append PySem.F.type_list_append mt_append (pv 11) (pa_cons (pe_dget hu (pv 7) (pe_dget hu (pv 5) (pv 12) (fun _ _ => rfl)) (fun _ _ => rfl)) pa_nil))))))
      (pss_cons (ps_expr (pe_bmK K (by rfl) PySem.F.plainAttrs_list PySem.F.slot_list_append PySem.F.type_list_append mt_append (pv 10) (pa_cons (pe_callTy (call_tupleK K (by rfl)) (by rfl) (f_tuple T) (by decide +kernel) (pa_cons (pv 11) pa_nil)) pa_nil)))
      (pss_one (ps_aug (i := 9) sc_least_form.nd rfl (Or.inl rfl) pe_int ip_add))))))
      (pss_cons (ps_setLc (i := 13) (own := [("k", 9)]) (g := gName 9) (by rfl) sc_least_form.nd rfl rfl (sw_true rfl rfl rfl (by decide +kernel)) (pi_range1 (by rfl) (f_range T) (pa_cons (pe_callB (call_lenK K (by rfl)) (by rfl) (f_len T) PySem.boot_len (pa_cons (pv 8) pa_nil)) pa_nil)) (blkOk_by (own := [("k", 9)]) (by kernel_rfl)) (fun _ _ _ _ _ => pg_name (i := 9) sc_least_form.nd rfl (Or.inl rfl)) (fun _ _ _ _ _ => (pts_one (pt_cmp (pc_din hu (pe_dget hu (pv 6) (pe_ix (ix_listK K (by rfl)) (pv 8) (pv 9) (fun _ _ => rfl)) (fun _ _ => rfl)) (pv 2))))) (fun _ _ _ _ _ => (pv 9)))
      (pss_one (ps_ret (pe_tup (pa_cons (pe_callTy (call_tupleK K (by rfl)) (by rfl) (f_tuple T) (by decide +kernel) (pa_cons (pv 10) pa_nil)) (pa_cons (pe_callTy (call_tupleK K (by rfl)) (by rfl) (f_tuple T) (by decide +kernel) (pa_cons (pv 13) pa_nil)) pa_nil)))))))))))))))))), ?_⟩
  walk_at "go"
  obtain ⟨va, vvs, rfl, hva, pvs⟩ := id R
  obtain ⟨ga, rfl, hga⟩ := id Rg
  intro wd hwd
  walk_at "go"
  have glen : gs.length ≤ n := nd_len (G.asc.imp fun h => Nat.ne_of_lt h) G.lt
  have swd := same_new (o := .dK []) hwd
  refine ⟨ga, rfl, ⟨_, sqT_same swd hga⟩, ?_⟩
  refine fo_T (xs := rI gs) (fun i σ H' => ∃ u : Option V, σ = [some (.ref va), some (.ref ga), some (.ref wd), u, none, none, none, none, none, none, none, none, none, none] ∧ Same H H' ∧ MapI H' wd i (seenM (gs.take i)) ∧ i ≤ gs.length)
    ⟨_, rfl, swd, ⟨[], upd_same, Nat.le_refl _, fun z => by rw [List.take_zero]; rfl⟩, Nat.zero_le _⟩ (fun i σ H' _ ⟨_, _, s, _⟩ => sqT_same s hga) ?_ ?_
  · rintro i x σ H1 hx ⟨u, rfl, s1, M1, _⟩
    have hi : i < gs.length := by
      have := (List.getElem?_eq_some_iff.mp hx).1
      rw [rI_len] at this
      exact this
    have hti : gs[i]? = some gs[i] := List.getElem?_eq_some_iff.mpr ⟨hi, rfl⟩
    rw [rI_at hti hx]
    walk_at "go"
    obtain ⟨H2, P2, M2, o2, e2⟩ := M1.put gs[i] (.bl true) (by omega)
    refine ⟨wd, H2, rfl, P2, ?_⟩
    walk_at "go"
    refine ⟨_, rfl, by rw [e2]; exact same_mut s1 hwd, M2.ext fun z => ?_, hi⟩
    rw [seenM_add, List.take_add_one, hti]
    rfl
  rintro σ H1 ⟨u, rfl, s1, Wn, _⟩
  rw [rI_len, List.take_length] at Wn
  walk_at "go"
  refine ⟨.ref va, kk, n, rows, rfl, R.kp (same_kp s1), Tb, hn, fun o ord H2 s2 ho0 ho F => ?_⟩
  have s02 := s1.trans s2
  have lo_ := nd_len F.nd F.lt
  walk_at "go"
  refine ⟨.ref va, wd, o, kk, n, gs.length, rows, gs, ord, rfl, R.kp (same_kp s02), Tb, hn, hk, Wn.same s2, ho, F, fun lp lo H3 s3 hlp0 Lp T3 => ?_⟩
  have s03 := s02.trans s3
  have Wn3 := (Wn.same s2).same s3
  have ho3 := s3 _ _ ho
  walk_at "go"
  intro fo hfo
  walk_at "go"
  have sfo := same_new (o := .dK []) hfo
  refine ⟨o, rfl, ⟨_, SqL.of (sfo _ _ ho3)⟩, ?_⟩
  refine fo_L (xs := rI ord) (fun i σ H' => ∃ u : Option V, σ = [some (.ref va), some (.ref ga), some (.ref wd), u, some (.ref o), some (.ref lp), some (.ref fo), none, none, none, none, none, none, none] ∧ Same H3 H' ∧ MapI H' fo i (fstM (ord.take i) lo) ∧ i ≤ ord.length)
    ⟨_, rfl, sfo, ⟨[], upd_same, Nat.le_refl _, fun z => by rw [List.take_zero]; rfl⟩, Nat.zero_le _⟩ (fun i σ H' _ ⟨_, _, s, _⟩ => SqL.of (s _ _ ho3)) ?_ ?_
  · rintro i x σ H4 hx ⟨u, rfl, s4, M4, _⟩
    have hi : i < ord.length := by
      have := (List.getElem?_eq_some_iff.mp hx).1
      rw [rI_len] at this
      exact this
    have hti : ord[i]? = some ord[i] := List.getElem?_eq_some_iff.mpr ⟨hi, rfl⟩
    rw [rI_at hti hx]
    have htk : ord.take (i + 1) = ord.take i ++ [ord[i]] := by
      rw [List.take_add_one, hti]
      rfl
    have hz0 := List.getElem_mem hi
    generalize ord[i] = z at hz0 htk ⊢
    have g1 := (Lp.same s4).dget z
    rw [onM_in hz0] at g1
    walk_at "go"
    refine ⟨lp, _, rfl, g1, ?_⟩
    walk_at "go"
    refine ⟨fo, _, rfl, M4.dget _, ?_⟩
    walk_at "go"
    refine iteB (fun hs => ?_) (fun hs => ?_)
    · walk_at "go"
      refine ⟨lp, _, rfl, g1, ?_⟩
      obtain ⟨H5, P5, M5, o5, e5⟩ := M4.put (lo z) (.int ((z : Nat) : Int)) (by omega)
      refine ⟨fo, H5, rfl, P5, ?_⟩
      walk_at "go"
      refine ⟨_, rfl, by rw [e5]; exact same_mut s4 hfo, M5.ext fun x => ?_, hi⟩
      rw [htk]
      unfold fstM
      rw [fstO_snoc]
      have hno : fstO (ord.take i) lo (lo z) = none := by
        unfold fstM at hs
        cases e : fstO (ord.take i) lo (lo z) with
        | none => rfl
        | some y =>
          rw [e] at hs
          cases hs
      by_cases e : x = lo z
      · subst e
        rw [if_pos rfl, hno, if_pos rfl]
        rfl
      · rw [if_neg e, if_neg (fun q => e q.symm), Option.or_none]
    · walk_at "go"
      refine ⟨_, rfl, s4, ?_, hi⟩
      obtain ⟨kvs, q1, q2, q3⟩ := M4
      refine ⟨kvs, q1, by omega, fun x => ?_⟩
      rw [q3, htk]
      unfold fstM
      rw [fstO_snoc]
      by_cases e : lo z = x
      · subst e
        unfold fstM at hs
        cases q : fstO (ord.take i) lo (lo z) with
        | none =>
          rw [q] at hs
          cases hs
        | some y => rfl
      · rw [if_neg e, Option.or_none]
  rintro σ H4 ⟨u, rfl, s4, Fo, _⟩
  rw [rI_len, List.take_length] at Fo
  have Lp4 := Lp.same s4
  have s04 := s03.trans s4
  have Wn4 := Wn3.same s4
  have fo0 : H fo = none := s03.free hfo
  have l0 : onM ord lo 0 = some (.int ((lo 0 : Nat) : Int)) := onM_in F.h0
  walk_at "go"
  intro nu hnu
  walk_at "go"
  have snu := same_new (o := .dK []) hnu
  have nu0 : H nu = none := s04.free hnu
  have g5 := (Lp4.same snu).dget 0
  rw [l0] at g5
  refine ⟨lp, _, rfl, g5, ?_⟩
  obtain ⟨H5, P5, M5, o5, e5⟩ := (MapI.new (H := H4) (p := nu)).put (lo 0) (.int 0) (by omega)
  refine ⟨nu, H5, rfl, P5, ?_⟩
  have s45 : Same H4 H5 := by
    rw [e5]
    exact same_mut snu hnu
  have s05 := s04.trans s45
  walk_at "go"
  have g6 := (Lp4.same s45).dget 0
  rw [l0] at g6
  refine ⟨lp, _, rfl, g6, ?_⟩
  walk_at "go"
  refine ⟨by decide, fun t ht => ?_⟩
  walk_at "go"
  refine ⟨by decide, fun lr hlr => ?_⟩
  walk_at "go"
  have st5 := same_new (o := .lst [.int ((lo 0 : Nat) : Int)]) ht
  have slr := same_new (o := .lst []) hlr
  have s57 := st5.trans slr
  have t0 : H t = none := s05.free ht
  have lr0 : H lr = none := (s05.trans st5).free hlr
  have tlr : t ≠ lr := fun z => by rw [← z, upd_same] at hlr; cases hlr
  have nut : nu ≠ t := M5.ne0 ht
  have nulr : nu ≠ lr := (M5.same st5).ne0 hlr
  have t4 : H4 t = none := s45.free ht
  have lr4 : H4 lr = none := (s45.trans st5).free hlr
  have Fo5 := Fo.same s45
  -- plain facts
  have hf : ∀ z ∈ ord, fstF ord lo (lo z) ∈ ord ∧ lo (fstF ord lo (lo z)) = lo z := fun z hz => by
    obtain ⟨y, h1, h2, h3⟩ := fstO_in (lo := lo) hz
    unfold fstF
    rw [h1]
    exact ⟨h2, h3⟩
  have hrun : ∀ x, Ltk kk x → ∃ z, z ∈ ord ∧ run (dl (stp rows) lo (fstF ord lo)) (lo 0) x = lo z := fun x hx => by
    obtain ⟨h1, h2⟩ := run_dl T3 F.cl hf F.h0 hx
    exact ⟨_, h2, h1⟩
  have hcnt : ∀ x, Ltk kk x → run (dl (stp rows) lo (fstF ord lo)) (lo 0) x ∈ ord.map lo := fun x hx => by
    obtain ⟨z, hz, e⟩ := hrun x hx
    rw [e]
    exact List.mem_map.mpr ⟨z, hz, rfl⟩
  generalize hdd : dl (stp rows) lo (fstF ord lo) = dd at hrun hcnt
  refine ⟨fun m σ H' => ∃ (i : Nat) (told : List (Nat × Wd)) (ys : List V) (u1 u2 u3 : Option V), m = n + 1 - i ∧ σ = [some (.ref va), some (.ref ga), some (.ref wd), u1, some (.ref o), some (.ref lp), some (.ref fo), some (.ref nu), some (.ref t), some (.int ((i : Nat) : Int)), some (.ref lr), u2, u3, none] ∧ Same H4 H' ∧ H' t = some (.lst (rI (told.map (·.1)))) ∧ H' lr = some (.lst ys) ∧
    MapI H' nu told.length (onM (told.map (·.1)) fun l => ix l (told.map (·.1))) ∧ BInv dd kk (lo 0) told i 0 ∧ i ≤ told.length ∧ Paired (fun r v => TupR H' v r) (((told.map (·.1)).take i).map (lrow kk dd (told.map (·.1)))) ys,
    ⟨n + 1 - 0, 0, [(lo 0, [])], [], _, _, _, rfl, rfl, s45.trans s57, ?_, upd_same, ?_, BInv.start, by simp, .nil⟩, ?_⟩
  · rw [upd_ne tlr, upd_same]
    rfl
  · refine (M5.same s57).ext fun z => ?_
    unfold onM
    by_cases e : z = lo 0
    · subst e
      simp [ix]
    · simp [e]
  rintro m σ' H8 ⟨i, told, ys, u1, u2, u3, hm, rfl, s8, h8t, h8l, M8, B8, hi, T8⟩
  have cnt := B8.count hcnt
  rw [List.length_map] at cnt
  walk_at "go"
  refine r_lenQL (SqL.of h8t) ?_
  rw [rI_len, List.length_map]
  walk_at "go"
  refine iteD (fun h => ?_) (fun h => ?_)
  · refine ⟨_, fun _ _ z => z, ?_⟩
    walk_at "go"
    have hil : i < told.length := by omega
    have hti : told[i]? = some told[i] := List.getElem?_eq_some_iff.mpr ⟨hil, rfl⟩
    generalize hl0 : told[i] = q at hti
    obtain ⟨l, wl⟩ := q
    obtain ⟨hq1, hq2⟩ := B8.run _ (List.mem_of_getElem? hti)
    obtain ⟨z, hz, ez⟩ := hrun wl hq1
    have elz : l = lo z := hq2.symm.trans ez
    obtain ⟨y, hy1, hy2, hy3⟩ := fstO_in (lo := lo) hz
    have efl : fstF ord lo l = y := by
      unfold fstF
      rw [elz, hy1]
      rfl
    have hdl : ∀ v, dd l v = lo (stp rows y v) := fun v => by
      rw [← hdd, ← efl]
      rfl
    obtain ⟨r, e1, e2, e3, e4⟩ := Tb.get (F.lt y hy2)
    obtain ⟨yv, hyv, ra, rfl, hra⟩ := paired_get pvs e1
    refine ⟨by decide, fun rw_ hrw => ?_⟩
    walk_at "go"
    have srw := same_new (o := .lst []) hrw
    have rw4 : H4 rw_ = none := s8.free hrw
    have rwt : t ≠ rw_ := ne_of_none h8t hrw
    have rwl : lr ≠ rw_ := ne_of_none h8l hrw
    have rwn : nu ≠ rw_ := M8.ne0 hrw
    have s9 := s8.trans srw
    have hls : (told.map (·.1))[i]? = some l := by
      rw [List.getElem?_map, hti]
      rfl
    refine r_ixL (SqL.of (srw _ _ h8t)) (atI_nat (rI_get hls)) ?_
    have g9 := (Fo.same s9).dget l
    rw [show fstM ord lo l = some (.int ((y : Nat) : Int)) by unfold fstM; rw [elz, hy1]; rfl] at g9
    walk_at "go"
    refine ⟨fo, _, rfl, g9, ?_⟩
    walk_at "go"
    have s09 := s04.trans s9
    refine r_ixT (sqT_same s09 hva) (atI_nat hyv) ?_
    refine ⟨ra, rfl, ⟨_, sqT_same s09 hra⟩, ?_⟩
    refine fo_T (xs := rI r) (fun x σ H' => ∃ (told2 : List (Nat × Wd)) (u3 : Option V), σ = [some (.ref va), some (.ref ga), some (.ref wd), u1, some (.ref o), some (.ref lp), some (.ref fo), some (.ref nu), some (.ref t), some (.int ((i : Nat) : Int)), some (.ref lr), some (.ref rw_), u3, none] ∧ Same H4 H' ∧ H' t = some (.lst (rI (told2.map (·.1)))) ∧ H' lr = some (.lst ys) ∧
      MapI H' nu told2.length (onM (told2.map (·.1)) fun l => ix l (told2.map (·.1))) ∧ BInv dd kk (lo 0) told2 i x ∧ told2[i]? = some (l, wl) ∧ Paired (fun r v => TupR H' v r) (((told2.map (·.1)).take i).map (lrow kk dd (told2.map (·.1)))) ys ∧ H' rw_ = some (.lst (rI ((List.range x).map fun v => ix (dd l v) (told2.map (·.1))))) ∧ (∀ v, v < x → dd l v ∈ told2.map (·.1)) ∧ x ≤ kk)
      ⟨told, _, rfl, s9, srw _ _ h8t, srw _ _ h8l, M8.same srw, B8, hti, Paired.mapP T8 fun _ _ z => z.kt (same_kt srw), upd_same, fun v hv => by omega, Nat.zero_le _⟩ (fun x σ H' _ ⟨_, _, _, s, _⟩ => sqT_same (s04.trans s) hra) ?_ ?_
    · rintro x xv σ6 H9 hx ⟨told2, w3, rfl, sA, hAt, hAl, MA, BA, hAi, TA, hAr, hAm, _⟩
      have hxk : x < kk := by
        have := (List.getElem?_eq_some_iff.mp hx).1
        rw [rI_len, e2] at this
        exact this
      have e5 := e4 x hxk
      rw [rI_at e5 hx]
      have hso := F.cl y hy2 x hxk
      have gA := (Lp4.same sA).dget (stp rows y x)
      rw [onM_in hso, ← hdl x] at gA
      have cntA := BA.count hcnt
      rw [List.length_map] at cntA
      have rlen : ((List.range x).map fun v => ix (dd l v) (told2.map (·.1))).length ≤ 50000 := by simp; omega
      walk_at "go"
      refine ⟨lp, _, rfl, gA, ?_⟩
      walk_at "go"
      refine ⟨nu, _, rfl, MA.dget _, ?_⟩
      walk_at "go"
      by_cases hin : dd l x ∈ told2.map (·.1)
      · refine ite_no (by rw [onM_in hin]; rfl) ?_
        walk_at "go"
        refine ⟨r_tyL hAr, ?_⟩
        walk_at "go"
        refine ⟨lp, _, rfl, gA, ?_⟩
        walk_at "go"
        have gN := MA.dget (dd l x)
        rw [onM_in hin] at gN
        refine ⟨nu, _, rfl, gN, ?_⟩
        walk_at "go"
        refine r_app' hAr (by rw [rI_len]; exact rlen) ?_
        walk_at "go"
        refine ⟨told2, _, rfl, same_mut sA rw4, by rw [upd_ne rwt]; exact hAt, by rw [upd_ne rwl]; exact hAl, MA.upd rwn, BA.old hAi hxk hin, hAi, Paired.mapP TA fun _ _ z => z.kt (kt_updL hAr), ?_, fun v hv => ?_, hxk⟩
        · rw [upd_same, List.range_succ, List.map_append, rI_app]
          rfl
        · rcases Nat.lt_or_ge v x with g | g
          · exact hAm v g
          · have : v = x := by omega
            rw [this]
            exact hin
      · refine ite_yes (by unfold onM; rw [if_neg hin]; rfl) ?_
        walk_at "go"
        refine r_lenQL (SqL.of hAt) ?_
        rw [rI_len, List.length_map]
        walk_at "go"
        refine ⟨lp, _, rfl, gA, ?_⟩
        obtain ⟨HB, PB, MB, oB, eB⟩ := MA.put (dd l x) (.int ((told2.length : Nat) : Int)) (by omega)
        refine ⟨nu, HB, rfl, PB, ?_⟩
        have sB : Same H4 HB := by
          rw [eB]
          exact same_mut sA hnu
        have ktB : Kt H9 HB := by
          rw [eB]
          exact MA.kt
        have hBt : HB t = some (.lst (rI (told2.map (·.1)))) := by
          rw [eB, upd_ne nut.symm]
          exact hAt
        have hBl : HB lr = some (.lst ys) := by
          rw [eB, upd_ne nulr.symm]
          exact hAl
        have hBr : HB rw_ = some (.lst (rI ((List.range x).map fun v => ix (dd l v) (told2.map (·.1))))) := by
          rw [eB, upd_ne rwn.symm]
          exact hAr
        walk_at "go"
        refine ⟨r_tyL hBt, ?_⟩
        walk_at "go"
        have gB := (Lp4.same sB).dget (stp rows y x)
        rw [onM_in hso, ← hdl x] at gB
        refine ⟨lp, _, rfl, gB, ?_⟩
        walk_at "go"
        refine r_app' hBt (by rw [rI_len, List.length_map]; omega) ?_
        walk_at "go"
        have e9 : rI (told2.map (·.1)) ++ [V.int ((dd l x : Nat) : Int)] = rI ((told2 ++ [(dd l x, wl ++ [x])]).map (·.1)) := by
          rw [List.map_append, rI_app]
          rfl
        rw [e9]
        have sC : Same H4 (upd HB t (.lst (rI ((told2 ++ [(dd l x, wl ++ [x])]).map (·.1))))) := same_mut sB t4
        have hCr := (upd_ne (H := HB) (o := .lst (rI ((told2 ++ [(dd l x, wl ++ [x])]).map (·.1)))) rwt.symm).trans hBr
        refine ⟨r_tyL hCr, ?_⟩
        walk_at "go"
        have gC := (Lp4.same sC).dget (stp rows y x)
        rw [onM_in hso, ← hdl x] at gC
        refine ⟨lp, _, rfl, gC, ?_⟩
        have els : (told2 ++ [(dd l x, wl ++ [x])]).map (·.1) = told2.map (·.1) ++ [dd l x] := by
          rw [List.map_append]
          rfl
        have MC : MapI (upd HB t (.lst (rI ((told2 ++ [(dd l x, wl ++ [x])]).map (·.1))))) nu (told2.length + 1) (onM ((told2 ++ [(dd l x, wl ++ [x])]).map (·.1)) fun l' => ix l' ((told2 ++ [(dd l x, wl ++ [x])]).map (·.1))) := by
          refine (MB.upd nut).ext fun x' => ?_
          rw [els]
          have h1 := onM_snoc (l := told2.map (·.1)) (f := fun l => ix l (told2.map (·.1))) (g := fun l' => ix l' (told2.map (·.1) ++ [dd l x])) (z := dd l x) (fun x hx => ix_app hx) x'
          have h2 : ix (dd l x) (told2.map (·.1) ++ [dd l x]) = told2.length := by
            rw [ix_new hin, List.length_map]
          simp only [h2] at h1
          exact h1
        have gN := MC.dget (dd l x)
        rw [onM_in (by rw [els]; simp)] at gN
        walk_at "go"
        refine ⟨nu, _, rfl, gN, ?_⟩
        walk_at "go"
        refine r_app' hCr (by rw [rI_len]; exact rlen) ?_
        walk_at "go"
        have ktC : Kt HB (upd HB t (.lst (rI ((told2 ++ [(dd l x, wl ++ [x])]).map (·.1))))) := kt_updL hBt
        have hiA := (List.getElem?_eq_some_iff.mp hAi).1
        refine ⟨told2 ++ [(dd l x, wl ++ [x])], _, rfl, same_mut sC rw4, by rw [upd_ne rwt, upd_same], by rw [upd_ne rwl, upd_ne tlr.symm]; exact hBl, by rw [List.length_append]; exact MC.upd rwn, BA.new hAi hxk hin, ?_, ?_, ?_, fun v hv => ?_, hxk⟩
        · rw [List.getElem?_append_left hiA]
          exact hAi
        · have eR : ((((told2 ++ [(dd l x, wl ++ [x])]).map (·.1)).take i).map (lrow kk dd ((told2 ++ [(dd l x, wl ++ [x])]).map (·.1)))) = ((told2.map (·.1)).take i).map (lrow kk dd (told2.map (·.1))) := by
            rw [els]
            refine lrows_app (by rw [List.length_map]; omega) fun l' hl' v hv => ?_
            obtain ⟨j, hj, ej⟩ := List.mem_iff_getElem.mp hl'
            rw [List.length_take, List.length_map] at hj
            rw [List.getElem_take, List.getElem_map] at ej
            obtain ⟨q, hq, eq, _⟩ := BA.cl j told2[j] v (List.getElem?_eq_some_iff.mpr ⟨by omega, rfl⟩) hv (.inl (by omega))
            rw [ej] at eq
            exact List.mem_map.mpr ⟨q, hq, eq⟩
          rw [eR]
          exact Paired.mapP TA fun _ _ z => ((z.kt ktB).kt ktC).kt (kt_updL hCr)
        · rw [upd_same]
          have eW : (List.range (x + 1)).map (fun v => ix (dd l v) ((told2 ++ [(dd l x, wl ++ [x])]).map (·.1))) = (List.range x).map (fun v => ix (dd l v) (told2.map (·.1))) ++ [ix (dd l x) ((told2 ++ [(dd l x, wl ++ [x])]).map (·.1))] := by
            rw [els, List.range_succ, List.map_append]
            exact congrArg (· ++ _) (List.map_congr_left fun v hv => ix_app (hAm v (List.mem_range.mp hv)))
          rw [eW, rI_app]
          rfl
        · rw [els]
          rcases Nat.lt_or_ge v x with g | g
          · exact List.mem_append_left _ (hAm v g)
          · have : v = x := by omega
            rw [this]
            simp
    · rintro σ6 H9 ⟨told2, w3, rfl, sA, hAt, hAl, MA, BA, hAi, TA, hAr, hAm, _⟩
      rw [rI_len, e2] at BA hAr hAm
      walk_at "go"
      refine ⟨r_tyL hAl, ?_⟩
      walk_at "go"
      refine r_tupL (SqL.of hAr) fun q hq => ?_
      walk_at "go"
      have sq := same_new (o := .tup (rI ((List.range kk).map fun v => ix (dd l v) (told2.map (·.1))))) hq
      have hiA := (List.getElem?_eq_some_iff.mp hAi).1
      have cntA := BA.count hcnt
      rw [List.length_map] at cntA
      have lys := Paired.length TA
      have hls2 : (told2.map (·.1))[i]? = some l := by
        rw [List.getElem?_map, hAi]
        rfl
      refine r_app' (sq _ _ hAl) (by rw [← lys]; simp; omega) ?_
      walk_at "go"
      rw [show ((i : Nat) : Int) + 1 = ((i + 1 : Nat) : Int) by omega]
      have lq : lr ≠ q := ne_of_none hAl hq
      have tq : t ≠ q := ne_of_none hAt hq
      have nq : nu ≠ q := MA.ne0 hq
      have ktq : Kt H9 (upd H9 q (.tup (rI ((List.range kk).map fun v => ix (dd l v) (told2.map (·.1)))))) := same_kt sq
      refine ⟨n + 1 - (i + 1), by omega, i + 1, told2, _, _, _, _, rfl, rfl, same_mut (sA.trans sq) lr4, by rw [upd_ne tlr]; exact sq _ _ hAt, upd_same, (MA.same sq).upd nulr, BA.row, hiA, ?_⟩
      have htk : (told2.map (·.1)).take (i + 1) = (told2.map (·.1)).take i ++ [l] := by
        rw [List.take_add_one, hls2]
        rfl
      rw [htk, List.map_append]
      have ktl : Kt (upd H9 q (.tup (rI ((List.range kk).map fun v => ix (dd l v) (told2.map (·.1)))))) (upd (upd H9 q (.tup (rI ((List.range kk).map fun v => ix (dd l v) (told2.map (·.1)))))) lr (.lst (ys ++ [.ref q]))) := kt_updL (sq _ _ hAl)
      exact Paired.snoc (Paired.mapP TA fun _ _ z => (z.kt ktq).kt ktl) ⟨q, rfl, ktl _ _ upd_same⟩
  · have e : i = told.length := by omega
    subst e
    walk_at "go"
    refine r_lenQL (SqL.of h8t) ?_
    rw [rI_len, List.length_map]
    refine ⟨_, rfl, by omega, by omega, fun D hD => ?_⟩
    rw [show ((told.length : Nat) : Int).toNat = told.length by omega]
    have lofs : ∀ l ∈ told.map (·.1), ∃ z, z ∈ ord ∧ l = lo z := fun l hl => by
      obtain ⟨q, hq, eq⟩ := List.mem_map.mp hl
      obtain ⟨h1, h2⟩ := B8.run q hq
      obtain ⟨z, hz, e⟩ := hrun q.2 h1
      exact ⟨z, hz, by rw [← eq, ← h2]; exact e⟩
    have fM : ∀ l ∈ told.map (·.1), fstM ord lo l = some (.int ((fstF ord lo l : Nat) : Int)) := fun l hl => by
      obtain ⟨z, hz, e⟩ := lofs l hl
      obtain ⟨y, h1, _⟩ := fstO_in (lo := lo) hz
      unfold fstM fstF
      rw [e, h1]
      rfl
    refine L2.lc_it L2.walk_range (fun i H => Same H8 H ∧ H D = some (.lst (rI ((List.range i).filter fun j => decide (fstF ord lo ((told.map (·.1)).getD j 0) ∈ gs)))) ∧ i ≤ told.length) ⟨same_new hD, upd_same, by omega⟩ (fun _ _ _ _ => trivial) ?_ ?_
    · rintro i x H9 HA hi ⟨s9, hL, _⟩ ⟨rfl, rfl⟩
      refine ⟨wipe1 _ _ _, ?_⟩
      simp only [Int.zero_add, wipe]
      walk_at "go"
      have hlen : i < (told.map (·.1)).length := by rw [List.length_map]; exact hi
      have hli : (told.map (·.1))[i]? = some ((told.map (·.1)).getD i 0) := by
        rw [List.getD_eq_getElem?_getD, List.getElem?_eq_getElem hlen]
        rfl
      refine r_ixL (SqL.of (s9 _ _ h8t)) (atI_nat (rI_get hli)) ?_
      have gF := (Fo.same (s8.trans s9)).dget ((told.map (·.1)).getD i 0)
      rw [fM _ (List.mem_of_getElem? hli)] at gF
      refine ⟨fo, _, rfl, gF, ?_⟩
      walk_at "go"
      refine ⟨wd, _, rfl, (Wn4.same (s8.trans s9)).dget _, ?_⟩
      walk_at "go"
      by_cases hg : fstF ord lo ((told.map (·.1)).getD i 0) ∈ gs
      · refine ite_yes (by unfold seenM; rw [if_pos hg]; rfl) ?_
        walk_at "go"
        refine ⟨_, hL, sl100' (by rw [rI_len]; exact Nat.lt_of_le_of_lt (List.length_filter_le _ _) (by rw [List.length_range]; omega)), same_mut s9 hD, ?_, hi⟩
        rw [upd_same, List.range_succ, List.filter_append, List.filter_cons_of_pos (by simpa using hg), rI_app]
        rfl
      · refine ite_no (by unfold seenM; rw [if_neg hg]; rfl) ?_
        refine ⟨s9, ?_, hi⟩
        rw [hL, List.range_succ, List.filter_append, List.filter_cons_of_neg (by simpa using hg)]
        simp
    · rintro H9 ⟨s9, hL, _⟩
      walk_at "go"
      refine r_tupL (SqL.of (s9 _ _ h8l)) fun q1 hq1 => ?_
      walk_at "go"
      have sq1 := same_new (o := .tup ys) hq1
      refine r_tupL (SqL.of (sq1 _ _ hL)) fun q2 hq2 => ?_
      walk_at "go"
      refine ⟨by decide, fun p hp => ?_⟩
      have sq2 := same_new (o := .tup (rI ((List.range told.length).filter fun j => decide (fstF ord lo ((told.map (·.1)).getD j 0) ∈ gs)))) hq2
      have sp := same_new (o := .tup [.ref q1, .ref q2]) hp
      have s8p := ((s9.trans sq1).trans sq2).trans sp
      rw [List.take_of_length_le (by rw [List.length_map]; exact Nat.le_refl _)] at T8
      have LE := least_of (fo := fstF ord lo) T3 F.cl F.h0 hf (hdd ▸ B8) (Nat.le_refl _)
      rw [hdd] at LE
      refine k _ _ _ _ ((s04.trans s8).trans s8p) ⟨p, _, _, rfl, upd_same, ⟨q1, ys, rfl, SqT.of ((sq2.trans sp) _ _ upd_same), Paired.mapP T8 fun _ _ z => (z.kt (same_kt s8p)).row⟩, ⟨q2, rfl, SqT.of (sp _ _ upd_same)⟩⟩ LE ?_
      rw [List.length_map, List.length_map]
      omega
end

end K18
end
section
set_option maxRecDepth 100000
set_option maxHeartbeats 4000000
local macro_rules | `(tactic| walk_at "go1") => `(tactic| first
  | (with_reducible refine K18.r_seq ?_) | (with_reducible refine K18.r_ifs ?_) | (with_reducible refine K18.r_ret ?_) | (with_reducible refine K18.r_asg ?_) | (with_reducible refine K18.r_drop ?_) | (with_reducible refine K18.r_next ?_)
  | (with_reducible refine K18.r_name ?_) | (with_reducible refine K18.r_var rfl ?_) | (with_reducible refine K18.r_c ?_) | (with_reducible refine K18.r_op ?_) | (with_reducible refine K18.r_cons ?_) | (with_reducible refine K18.r_nil ?_)
  | (with_reducible refine K18.r_cb ?_) | (with_reducible refine K18.r_call ?_) | (with_reducible refine K18.r_make ?_) | (with_reducible refine K18.r_B ?_) | (with_reducible refine K18.r_test ?_) | (with_reducible refine K18.r_or ?_) | (with_reducible refine K18.r_and ?_) | (with_reducible refine K18.r_not ?_)
  | (with_reducible refine K18.r_andV ?_) | (with_reducible refine K18.r_orV ?_) | (with_reducible refine K18.r_notV ?_) | (with_reducible refine K18.r_if ?_) | (with_reducible refine K18.r_aug rfl ?_) | (with_reducible refine K18.r_ip ?_)
  | (with_reducible refine K18.r_I0 ?_) | (with_reducible refine K18.r_int1 ?_) | (with_reducible refine K18.r_mod (by first | decide | omega) ?_) | (with_reducible refine K18.r_fdivN (by first | decide | omega) (by first | decide | omega) ?_) | (with_reducible refine K18.r_mulR (by first | decide | omega) (by first | decide | omega) ?_) | (with_reducible refine K18.r_mulL (by first | decide | omega) (by first | decide | omega) ?_) | (with_reducible refine K18.r_inG ?_) | (with_reducible refine K18.r_notInG ?_) | (with_reducible refine K18.r_ltS ?_) | (with_reducible refine K18.r_ex ?_) | (with_reducible refine K18.r_eqI ?_) | (with_reducible refine K18.r_neI ?_) | (with_reducible refine K18.r_eqB ?_) | (with_reducible refine K18.r_neB ?_) | (with_reducible refine K18.r_isN ?_)
  | (with_reducible refine K18.r_tup ?_) | (with_reducible refine K18.r_lst ?_) | (with_reducible refine K18.r_yes ?_) | (with_reducible refine K18.r_gsub ?_) | (with_reducible refine K18.r_dget ?_) | (with_reducible refine K18.r_sl ?_) | (with_reducible refine K18.r_part ?_) | (with_reducible refine K18.r_nopart ?_)
  | (with_reducible refine K18.r_chain ?_) | (with_reducible refine K18.r_bm ?_) | (with_reducible refine K18.iteT ?_) | (with_reducible refine K18.iteF ?_) | (with_reducible refine K18.iteNT ?_) | (with_reducible refine K18.iteNF ?_)
  | (with_reducible refine K18.r_for ?_) | (with_reducible refine K18.r_while ?_) | (with_reducible refine K18.r_lc ?_) | (with_reducible refine K18.r_iR1 ?_) | (with_reducible refine K18.r_iR2 ?_) | (with_reducible refine K18.r_iL ?_) | (with_reducible refine K18.r_iT ?_) | (with_reducible refine K18.r_iS ?_)
  | dsimp only [L2.start, List.map, List.replicate, List.length, List.cons_append, List.nil_append, List.append_nil, Nat.reduceAdd, Nat.reduceSub, List.set])
local macro_rules | `(tactic| walk_at "go") => `(tactic| repeat walk_at "go1")
local macro_rules | `(tactic| walk_at "go1") => `(tactic| first
  | (with_reducible refine K18.r_dnotin ?_) | (with_reducible refine K18.r_din ?_) | (with_reducible refine K18.r_dput ?_) | (with_reducible refine K18.r_dnewK ?_) | (with_reducible refine K18.r_dnewT ?_)
  | (with_reducible refine K18.r_gtup ?_) | (with_reducible refine K18.r_gcons ?_) | (with_reducible refine K18.r_gnil ?_) | (with_reducible refine K18.r_iAny ?_) | (with_reducible refine K18.r_lenZ (by first | assumption | omega) ?_))
local macro_rules | `(tactic| walk_at "go1") => `(tactic| first
  | (with_reducible refine K18.r_notN ?_) | (with_reducible refine K18.r_truth ?_))
namespace K18
open PySem PySem.Spec PyProof.Rows L2
/-! ### e.f as a target -/
def gFld (K : PySem.W.Frag) (to : TE) (f : Str) : TG := fun v σ H Q => to σ H fun x H1 => ∃ a C dx fs, x = .ref a ∧ H1 a = some (.ins C dx fs) ∧ Cls K C ∧ NoAttr K C f ∧ fs.length < 1000 ∧ Q σ (upd H1 a (.ins C dx (putF f v fs)))
theorem pg_fldK {X : Cx} (K : PySem.W.Frag) (hK : X.K = K) {o : Expr} {f : Str} {pos : Pos} {to : TE} (ho : PE X o to) : PG X (.Attribute o f pos) (gFld K to f) := by
  subst hK
  refine ⟨fun pins s σ H v u Q I r h => ?_⟩
  rw [assign_Attribute]
  refine wpAny_bind (wpAny_holding (thn (ho.run pins s σ H _ I h) fun ov s1 ⟨x, H1, I1, r1, a, C, dx, fs, ex, ea, c, n, l, q⟩ => ?_))
  subst ex
  obtain rfl : ov = Value.ref a := r1
  exact wpAny_bind (wpAny_standAt (wpAny_bind (wpAny_holding (setattr_ok I1 ea c n l r fun s3 I3 => wpAny_release ⟨σ, _, I3, q⟩))))
theorem ps_fldK {X : Cx} (K : PySem.W.Frag) (hK : X.K = K) {o value : Expr} {f : Str} {pos pos' : Pos} {ta tv : TE} (ha : PE X o ta) (hv : PE X value tv) (hs : swapsWith value (some (.Attribute o f pos')) pos.line X.env = pure false) : PS X (.Assign [.Attribute o f pos'] value pos) (sFld K ta tv f) := hK ▸ ps_fld ha hv hs
theorem r_gfld {K : PySem.W.Frag} {to : TE} {f : Str} {v : V} {σ : L2.St} {H : Hp} {Q : L2.St → Hp → Prop} (h : to σ H fun x H1 => ∃ a C dx fs, x = .ref a ∧ H1 a = some (.ins C dx fs) ∧ Cls K C ∧ NoAttr K C f ∧ fs.length < 1000 ∧ Q σ (upd H1 a (.ins C dx (putF f v fs)))) : gFld K to f v σ H Q := h
theorem r_sfld {K : PySem.W.Frag} {ta tv : TE} {f : Str} {D : Ends} {σ : L2.St} {H : Hp} (h : tv σ H fun y H1 => ta σ H1 fun x H2 => ∃ a C dx fs, x = .ref a ∧ H2 a = some (.ins C dx fs) ∧ Cls K C ∧ NoAttr K C f ∧ fs.length < 1000 ∧ D.nx σ (upd H2 a (.ins C dx (putF f y fs)))) : sFld K ta tv f D σ H := h
local macro_rules | `(tactic| walk_at "go1") => `(tactic| first
  | (with_reducible refine K18.r_dc ?_) | (with_reducible refine K18.r_fld ?_) | (with_reducible refine K18.r_nnotin ?_) | (with_reducible refine K18.r_nget ?_) | (with_reducible refine K18.r_nput ?_) | (with_reducible refine K18.r_dnewN ?_) | (with_reducible refine K18.r_gfld ?_) | (with_reducible refine K18.r_sfld ?_))
theorem putF_ne {f g : Str} {v x : V} {r : List (Str × V)} (h : ¬ g = f) : putF f v ((g, x) :: r) = (g, x) :: putF f v r := if_neg h
theorem putF_rows (s vl : V) : putF "rows" vl ([("signs", s)] : List (Str × V)) = ([("signs", s), ("rows", vl)] : List (Str × V)) := by
  rw [putF_ne (by decide +kernel)]
  rfl
theorem putF_goals (s vl ve : V) : putF "goals" ve ([("signs", s), ("rows", vl)] : List (Str × V)) = ([("signs", s), ("rows", vl), ("goals", ve)] : List (Str × V)) := by
  rw [putF_ne (by decide +kernel), putF_ne (by decide +kernel)]
  rfl
theorem RowsA.kp' {K : PySem.W.Frag} {H H' : Hp} {v : V} {rows : List (List Nat)} (h : RowsA K H v rows) (e : ∀ b o, (∀ C dx fs, o ≠ .ins C dx fs) → H b = some o → H' b = some o) : RowsA K H' v rows := by
  have sT : ∀ {a : Addr} {xs : List V}, SqT K H a xs → SqT K H' a xs := fun {a xs} h => by
    rcases h with (h | ⟨o, h⟩) | h
    · exact .inl (.inl (e _ _ (fun _ _ _ z => by cases z) h))
    · exact .inl (.inr ⟨o, e _ _ (fun _ _ _ z => by cases z) h⟩)
    · exact .inr h
  have sL : ∀ {a : Addr} {xs : List V}, SqL K H a xs → SqL K H' a xs := fun {a xs} h => by
    rcases h with (h | ⟨o, h⟩) | h
    · exact .inl (.inl (e _ _ (fun _ _ _ z => by cases z) h))
    · exact .inl (.inr ⟨o, e _ _ (fun _ _ _ z => by cases z) h⟩)
    · exact .inr h
  have sA : ∀ {v : V} {r : List Nat}, RowA K H v r → RowA K H' v r := fun {v r} ⟨a, h1, h2⟩ => ⟨a, h1, h2.elim (fun h => .inl (sL h)) fun h => .inr (sT h)⟩
  obtain ⟨a, vs, h1, h2, h3⟩ := h
  exact ⟨a, vs, h1, h2.elim (fun h => .inl (sL h)) (fun h => .inr (sT h)), Paired.mapP h3 fun _ _ z => sA z⟩
section
variable {P : Program} {w : World} {K : PySem.W.Frag} {mg : Str → Option Value} {base : Heap}
def spWalk (K : PySem.W.Frag) : Sp := fun vs H Q _ => ∃ (p dx : Addr) (sg : List Nat) (rv gv : V) (n : Nat) (rows : List (List Nat)) (gs : List Nat), vs = [.ref p, .str (S sg), rv, gv] ∧ H p = some (.ins (He.ga K "Walk") dx []) ∧ Sgn sg ∧ RowsA K H rv rows ∧ Tab sg.length n rows ∧ n ≤ 40 ∧ RowT K H gv gs ∧ GoalD n gs ∧
  ∀ L E H', SB p H H' → WalkO K H' p sg L E → Least sg.length (fun w => decide (run (stp rows) 0 w ∈ gs)) L E → L.length ≤ n → Q .non H'
theorem sc_Walk___init__ : FnScope ["self", "signs", "rows", "goals"] ["self", "signs", "rows", "goals"] (defScope s_Walk___init__) := ⟨rfl, rfl, rfl, by decide +kernel, rfl, by decide +kernel, by decide +kernel⟩
theorem ok_Walk___init__ (T : Tx K mg) : I1 P w K mg base CX0 5 "Walk" ["self", "signs", "rows", "goals"] (spWalk K) := by
  obtain ⟨fd, F⟩ := d_Walk___init__ T
  refine .mk1 F (k_Walk T) (g_Walk T) (fun _ _ _ _ _ _ us hl => match us, hl with | [_, _, _, _], _ => rfl) sc_Walk___init__ (fun vs H Q E h => ?_) (fun cdv A outer s H vs Q E hr h => ?_)
  · obtain ⟨p, dx, sg, rv, gv, n, rows, gs, rfl, hp, G, R, Tb, hn, Rg, GD, k⟩ := h
    rfl
  obtain ⟨p, dx, sg, rv, gv, n, rows, gs, rfl, hp, G, R, Tb, hn, Rg, GD, k⟩ := h
  have hu := hu_of hr
  have hu64 := hu64_of hr
  have hu6 := hu64' hr
  obtain ⟨t1, h_MOST_STANDINGS⟩ := v_MOST_STANDINGS T
  refine ⟨_, (pss_cons (ps_expr (pe_c1 (ok_check_signs_of T) (hr.mono (by decide)) (by rfl) (pa_cons (pv 1) pa_nil)))
      (pss_cons (ps_if (pt_not (pt_val (pe_c1 (ok_is_rows T) (hr.mono (by decide)) (by rfl) (pa_cons (pv 2) (pa_cons (pe_callB call_lenZ (by rfl) (f_len T) PySem.boot_len (pa_cons (pv 1) pa_nil)) (pa_cons (pe_glob (v := .int 150) (by rfl) h_MOST_STANDINGS ⟨_, rfl⟩) pa_nil)))))) (pss_one (ps_never)) pss_nil)
      (pss_cons (ps_if (pt_not (pt_val (pe_c1 (ok_is_goals T) (hr.mono (by decide)) (by rfl) (pa_cons (pv 3) (pa_cons (pe_callB (call_lenK K (by rfl)) (by rfl) (f_len T) PySem.boot_len (pa_cons (pv 2) pa_nil)) pa_nil))))) (pss_one (ps_never)) pss_nil)
      (pss_cons (ps_fldK K (by rfl) (pv 0) (pv 1) rfl)
      (pss_one (ps_asg (pe_c1 (ok_least_form T) (hr.mono (by decide)) (by rfl) (pa_cons (pe_c1 (ok_deep_2 T) (hr.mono (by decide)) (by rfl) (pa_cons (pv 2) pa_nil)) (pa_cons (pe_c1 (ok_deep_1 T) (hr.mono (by decide)) (by rfl) (pa_cons (pv 3) pa_nil)) pa_nil))) (pg_tupK K (by rfl) rfl (pgs_cons (pg_fldK K (by rfl) (pv 0)) (pgs_cons (pg_fldK K (by rfl) (pv 0)) pgs_nil))))))))), ?_⟩
  walk_at "go"
  have hl := G.len
  have glen : gs.length ≤ n := nd_len (GD.asc.imp fun h => Nat.ne_of_lt h) GD.lt
  refine ⟨sg, rfl, G, fun H1 s1 => ?_⟩
  walk_at "go"
  refine ⟨rv, sg.length, n, rows, rfl, R.same s1, Tb, by omega, by omega, fun H2 s2 => ?_⟩
  walk_at "go"
  have s02 := s1.trans s2
  obtain ⟨ra, rvs, rfl, hra, pra⟩ := R.same s02
  refine ⟨ra, rvs, rfl, hra, ?_⟩
  walk_at "go"
  have lrv : rvs.length = n := (Paired.length pra).symm.trans Tb.len
  rw [lrv]
  refine ⟨gv, n, gs, rfl, (Rg.kp (same_kp s02)).a, GD, by omega, fun H3 s3 => ?_⟩
  walk_at "go"
  have s03 := s02.trans s3
  have hp3 := s03 _ _ hp
  refine ⟨p, _, dx, [], rfl, hp3, c_Walk T, n_Walk_signs T, by simp, ?_⟩
  walk_at "go"
  have keep : ∀ {H' : Hp} {o' : HO} {fs : List (Str × V)}, H' p = some (.ins (He.ga K "Walk") dx fs) → ∀ b o, (∀ C dx fs, o ≠ .ins C dx fs) → H' b = some o → upd H' p o' b = some o := fun {H' o' fs} h b o no hb => by
    rw [upd_ne (fun z => by rw [z, h] at hb; exact no _ _ _ (Option.some.inj hb).symm)]
    exact hb
  have R4 : RowsA K (upd H3 p (.ins (He.ga K "Walk") dx (putF "signs" (.str (S sg)) []))) (.ref ra) rows := (R.same s03).kp' (keep hp3)
  have Tr : ∀ r ∈ rows, r.length ≤ 1000 := fun r hr => by
    obtain ⟨i, hi, e⟩ := List.mem_iff_getElem.mp hr
    have := (Tb.row i r (List.getElem?_eq_some_iff.mpr ⟨hi, e⟩)).1
    omega
  refine ⟨.ref ra, rows, rfl, R4, by rw [Tb.len]; omega, Tr, fun q H5 s5 hq0 R5 => ?_⟩
  walk_at "go"
  have Rg4 : RowT K (upd H3 p (.ins (He.ga K "Walk") dx (putF "signs" (.str (S sg)) []))) gv gs := by
    obtain ⟨a, e, h⟩ := Rg.kp (same_kp s03)
    refine ⟨a, e, ?_⟩
    rcases h with (h | ⟨o, h⟩) | h
    · exact .inl (.inl (keep hp3 _ _ (fun _ _ _ z => by cases z) h))
    · exact .inl (.inr ⟨o, keep hp3 _ _ (fun _ _ _ z => by cases z) h⟩)
    · exact .inr h
  refine ⟨gv, gs, rfl, (Rg4.kp (same_kp s5)).a, by omega, fun g H6 s6 hg0 Rg6 => ?_⟩
  walk_at "go"
  refine ⟨.ref q, .ref g, sg.length, n, rows, gs, rfl, R5.kp (same_kp s6), Tb, by omega, by omega, Rg6, GD, fun v L E' H7 s7 LT LE hL => ?_⟩
  obtain ⟨tp, vl, ve, rfl, htp, RL, RE⟩ := LT
  walk_at "go"
  have s47 := (s5.trans s6).trans s7
  have hp7 : H7 p = some (.ins (He.ga K "Walk") dx [("signs", .str (S sg))]) := s47 _ _ (by rw [upd_same]; rfl)
  refine r_gtup (SqT.of htp) rfl ?_
  walk_at "go"
  refine ⟨p, _, dx, _, rfl, hp7, c_Walk T, n_Walk_rows T, by simp, ?_⟩
  rw [putF_rows]
  walk_at "go"
  refine ⟨p, _, dx, _, rfl, upd_same, c_Walk T, n_Walk_goals T, by simp, ?_⟩
  rw [putF_goals]
  walk_at "go"
  have SBf : SB p H (upd (upd H7 p (.ins (He.ga K "Walk") dx [("signs", .str (S sg)), ("rows", vl)])) p (.ins (He.ga K "Walk") dx [("signs", .str (S sg)), ("rows", vl), ("goals", ve)])) :=
    ((((same_sb s03).mut (.inl rfl)).trans (same_sb s47)).mut (.inl rfl)).mut (.inl rfl)
  have keepT : ∀ {v : V} {r : List Nat}, RowT K H7 v r → RowT K (upd (upd H7 p (.ins (He.ga K "Walk") dx [("signs", .str (S sg)), ("rows", vl)])) p (.ins (He.ga K "Walk") dx [("signs", .str (S sg)), ("rows", vl), ("goals", ve)])) v r := fun {v r} ⟨a, e, h⟩ => by
    refine ⟨a, e, ?_⟩
    rcases h with (h | ⟨o, h⟩) | h
    · exact .inl (.inl (keep upd_same _ _ (fun _ _ _ z => by cases z) (keep hp7 _ _ (fun _ _ _ z => by cases z) h)))
    · exact .inl (.inr ⟨o, keep upd_same _ _ (fun _ _ _ z => by cases z) (keep hp7 _ _ (fun _ _ _ z => by cases z) h)⟩)
    · exact .inr h
  refine k L E' _ SBf ⟨dx, vl, ve, upd_same, ?_, keepT RE⟩ LE hL
  obtain ⟨a, vs, e, h, pr⟩ := RL
  refine ⟨a, vs, e, ?_, Paired.mapP pr fun _ _ z => keepT z⟩
  rcases h with (h | ⟨o, h⟩) | h
  · exact .inl (.inl (keep upd_same _ _ (fun _ _ _ z => by cases z) (keep hp7 _ _ (fun _ _ _ z => by cases z) h)))
  · exact .inl (.inr ⟨o, keep upd_same _ _ (fun _ _ _ z => by cases z) (keep hp7 _ _ (fun _ _ _ z => by cases z) h)⟩)
  · exact .inr h
end

end K18
end
section
set_option maxRecDepth 100000
set_option maxHeartbeats 4000000
local macro_rules | `(tactic| walk_at "go1") => `(tactic| first
  | (with_reducible refine K18.r_seq ?_) | (with_reducible refine K18.r_ifs ?_) | (with_reducible refine K18.r_ret ?_) | (with_reducible refine K18.r_asg ?_) | (with_reducible refine K18.r_drop ?_) | (with_reducible refine K18.r_next ?_)
  | (with_reducible refine K18.r_name ?_) | (with_reducible refine K18.r_var rfl ?_) | (with_reducible refine K18.r_c ?_) | (with_reducible refine K18.r_op ?_) | (with_reducible refine K18.r_cons ?_) | (with_reducible refine K18.r_nil ?_)
  | (with_reducible refine K18.r_cb ?_) | (with_reducible refine K18.r_call ?_) | (with_reducible refine K18.r_make ?_) | (with_reducible refine K18.r_B ?_) | (with_reducible refine K18.r_test ?_) | (with_reducible refine K18.r_or ?_) | (with_reducible refine K18.r_and ?_) | (with_reducible refine K18.r_not ?_)
  | (with_reducible refine K18.r_andV ?_) | (with_reducible refine K18.r_orV ?_) | (with_reducible refine K18.r_notV ?_) | (with_reducible refine K18.r_if ?_) | (with_reducible refine K18.r_aug rfl ?_) | (with_reducible refine K18.r_ip ?_)
  | (with_reducible refine K18.r_I0 ?_) | (with_reducible refine K18.r_int1 ?_) | (with_reducible refine K18.r_mod (by first | decide | omega) ?_) | (with_reducible refine K18.r_fdivN (by first | decide | omega) (by first | decide | omega) ?_) | (with_reducible refine K18.r_mulR (by first | decide | omega) (by first | decide | omega) ?_) | (with_reducible refine K18.r_mulL (by first | decide | omega) (by first | decide | omega) ?_) | (with_reducible refine K18.r_inG ?_) | (with_reducible refine K18.r_notInG ?_) | (with_reducible refine K18.r_ltS ?_) | (with_reducible refine K18.r_ex ?_) | (with_reducible refine K18.r_eqI ?_) | (with_reducible refine K18.r_neI ?_) | (with_reducible refine K18.r_eqB ?_) | (with_reducible refine K18.r_neB ?_) | (with_reducible refine K18.r_isN ?_)
  | (with_reducible refine K18.r_tup ?_) | (with_reducible refine K18.r_lst ?_) | (with_reducible refine K18.r_yes ?_) | (with_reducible refine K18.r_gsub ?_) | (with_reducible refine K18.r_dget ?_) | (with_reducible refine K18.r_sl ?_) | (with_reducible refine K18.r_part ?_) | (with_reducible refine K18.r_nopart ?_)
  | (with_reducible refine K18.r_chain ?_) | (with_reducible refine K18.r_bm ?_) | (with_reducible refine K18.iteT ?_) | (with_reducible refine K18.iteF ?_) | (with_reducible refine K18.iteNT ?_) | (with_reducible refine K18.iteNF ?_)
  | (with_reducible refine K18.r_for ?_) | (with_reducible refine K18.r_while ?_) | (with_reducible refine K18.r_lc ?_) | (with_reducible refine K18.r_iR1 ?_) | (with_reducible refine K18.r_iR2 ?_) | (with_reducible refine K18.r_iL ?_) | (with_reducible refine K18.r_iT ?_) | (with_reducible refine K18.r_iS ?_)
  | dsimp only [L2.start, List.map, List.replicate, List.length, List.cons_append, List.nil_append, List.append_nil, Nat.reduceAdd, Nat.reduceSub, List.set])
local macro_rules | `(tactic| walk_at "go") => `(tactic| repeat walk_at "go1")
local macro_rules | `(tactic| walk_at "go1") => `(tactic| first
  | (with_reducible refine K18.r_dnotin ?_) | (with_reducible refine K18.r_din ?_) | (with_reducible refine K18.r_dput ?_) | (with_reducible refine K18.r_dnewK ?_) | (with_reducible refine K18.r_dnewT ?_)
  | (with_reducible refine K18.r_gtup ?_) | (with_reducible refine K18.r_gcons ?_) | (with_reducible refine K18.r_gnil ?_) | (with_reducible refine K18.r_iAny ?_) | (with_reducible refine K18.r_lenZ (by first | assumption | omega) ?_))
local macro_rules | `(tactic| walk_at "go1") => `(tactic| first
  | (with_reducible refine K18.r_notN ?_) | (with_reducible refine K18.r_truth ?_))
namespace K18
open PySem PySem.Spec PyProof.Rows L2
local macro_rules | `(tactic| walk_at "go1") => `(tactic| first
  | (with_reducible refine K18.r_dc ?_) | (with_reducible refine K18.r_fld ?_) | (with_reducible refine K18.r_nnotin ?_) | (with_reducible refine K18.r_nget ?_) | (with_reducible refine K18.r_nput ?_) | (with_reducible refine K18.r_dnewN ?_) | (with_reducible refine K18.r_gfld ?_) | (with_reducible refine K18.r_sfld ?_))
/-- the words of the standings: told in their order -/
theorem told_range {k : Nat} {acc : Wd → Bool} {L : List (List Nat)} {E : List Nat} (LE : Least k acc L E) {told : List (Nat × Wd)} {i v : Nat} (B : BInv (stp L) k 0 told i v) (hr : told.map (·.1) = List.range told.length) {p : Nat × Wd} (hp : told[i]? = some p) (hv : v < k) (hi : p.1 = i) (hn : stp L p.1 v ∉ told.map (·.1)) : stp L p.1 v = told.length := by
  have hil := (List.getElem?_eq_some_iff.mp hp).1
  rcases Nat.lt_trichotomy (stp L p.1 v) told.length with g | g | g
  · exact absurd (by rw [hr]; exact List.mem_range.mpr g) hn
  · exact g
  · exfalso
    have hlt : i < L.length := by
      have := B.run p (List.mem_of_getElem? hp)
      rw [← hi, ← this.2]
      exact LE.tab.run_lt LE.tab.pos this.1
    rw [hi] at g
    rcases LE.rg i v hlt hv told.length g with e | ⟨j, u, hu, c, e⟩
    · have := B.len_pos
      omega
    · have hj : j < told.length := by omega
      have hj1 : (told[j]).1 = j := by
        have h1 : (told.map (·.1))[j]? = some (told[j]).1 := by
          rw [List.getElem?_map, List.getElem?_eq_getElem hj]
          rfl
        rw [hr, List.getElem?_range hj] at h1
        exact (Option.some.inj h1).symm
      obtain ⟨q, hq, e2, _⟩ := B.cl j told[j] u (List.getElem?_eq_some_iff.mpr ⟨hj, rfl⟩) hu c
      rw [hj1, e] at e2
      have : told.length ∈ told.map (·.1) := List.mem_map.mpr ⟨q, hq, e2⟩
      rw [hr] at this
      exact absurd (List.mem_range.mp this) (Nat.lt_irrefl _)
/-- least words of the standings -/
structure WsD (k : Nat) (L : List (List Nat)) (ws : List Wd) : Prop where
  len : ws.length = L.length
  srt : ws.Pairwise slt
  short : ∀ w ∈ ws, w.length ≤ L.length
  ltk : ∀ w ∈ ws, Ltk k w
  at_ : ∀ (z : Nat) (w : Wd), ws[z]? = some w → run (stp L) 0 w = z
  least : ∀ x, Ltk k x → ∃ w ∈ ws, run (stp L) 0 w = run (stp L) 0 x ∧ sle w x
theorem ws_of {k : Nat} {acc : Wd → Bool} {L : List (List Nat)} {E : List Nat} (LE : Least k acc L E) {told : List (Nat × Wd)} (B : BInv (stp L) k 0 told told.length 0) (hr : told.map (·.1) = List.range told.length) (sh : ShortW told) : WsD k L (told.map (·.2)) := by
  have hall : ∀ x, Ltk k x → run (stp L) 0 x < told.length := fun x hx => by
    obtain ⟨q, hq, e, _⟩ := B.all (Nat.le_refl _) x hx
    have : q.1 ∈ told.map (·.1) := List.mem_map.mpr ⟨q, hq, rfl⟩
    rw [hr, e] at this
    exact List.mem_range.mp this
  have h1 : told.length = L.length := by
    have a : told.length ≤ L.length := by
      have := B.count (run_range LE.tab LE.tab.pos)
      rwa [List.length_range] at this
    rcases Nat.lt_or_ge told.length L.length with g | g
    · exfalso
      obtain ⟨x, hx, e⟩ := LE.reach told.length g
      have := hall x hx
      omega
    · omega
  refine ⟨by rw [List.length_map]; exact h1, by rw [List.pairwise_map]; exact B.srt, fun w hw => ?_, fun w hw => ?_, fun z w hz => ?_, fun x hx => ?_⟩
  · obtain ⟨q, hq, e⟩ := List.mem_map.mp hw
    obtain ⟨j, hj, ej⟩ := List.mem_iff_getElem.mp hq
    have := sh j q (List.getElem?_eq_some_iff.mpr ⟨hj, ej⟩)
    rw [← e]
    omega
  · obtain ⟨q, hq, e⟩ := List.mem_map.mp hw
    rw [← e]
    exact (B.run q hq).1
  · rw [List.getElem?_map] at hz
    cases e : told[z]? with
    | none => rw [e] at hz; cases hz
    | some q =>
      rw [e] at hz
      cases hz
      rw [(B.run q (List.mem_of_getElem? e)).2]
      have h2 : (told.map (·.1))[z]? = some q.1 := by rw [List.getElem?_map, e]; rfl
      have hzl := (List.getElem?_eq_some_iff.mp e).1
      rw [hr, List.getElem?_range hzl] at h2
      exact (Option.some.inj h2).symm
  · obtain ⟨q, hq, e, hs⟩ := B.all (Nat.le_refl _) x hx
    exact ⟨q.2, List.mem_map.mpr ⟨q, hq, rfl⟩, by rw [(B.run q hq).2, e], hs⟩
/-- the told papers, by standing -/
def tmM (sg : List Nat) (told : List (Nat × Wd)) : Nat → Option V := fun z => (told.find? fun p => decide (p.1 = z)).map fun p => .str (S (cod sg p.2))
theorem tmM_none {sg : List Nat} {told : List (Nat × Wd)} {z : Nat} : (!(tmM sg told z).isSome) = true ↔ z ∉ told.map (·.1) := by
  unfold tmM
  cases e : told.find? fun p => decide (p.1 = z) with
  | none =>
    have := List.find?_eq_none.mp e
    simp only [Option.map_none, Option.isSome_none, Bool.not_false, true_iff]
    intro h
    obtain ⟨q, hq, eq⟩ := List.mem_map.mp h
    exact absurd (decide_eq_true eq) (this q hq)
  | some p =>
    have h1 := List.find?_some e
    constructor
    · intro h
      cases h
    · intro h
      exact absurd (List.mem_map.mpr ⟨p, List.mem_of_find?_eq_some e, by simpa using h1⟩) h
theorem tmM_snoc {sg : List Nat} {told : List (Nat × Wd)} {z : Nat} {w : Wd} (h : z ∉ told.map (·.1)) (x : Nat) : (if x = z then some (V.str (S (cod sg w))) else tmM sg told x) = tmM sg (told ++ [(z, w)]) x := by
  unfold tmM
  rw [List.find?_append]
  by_cases e : x = z
  · subst e
    rw [if_pos rfl]
    have : told.find? (fun p => decide (p.1 = x)) = none := List.find?_eq_none.mpr fun q hq hd => h (List.mem_map.mpr ⟨q, hq, of_decide_eq_true hd⟩)
    rw [this, List.find?_cons_of_pos (by simp)]
    rfl
  · rw [if_neg e, List.find?_cons_of_neg (by simpa using fun q => e q.symm)]
    simp
theorem tmM_at {sg : List Nat} {told : List (Nat × Wd)} (nd : (told.map (·.1)).Nodup) {j : Nat} {p : Nat × Wd} (h : told[j]? = some p) : tmM sg told p.1 = some (.str (S (cod sg p.2))) := by
  unfold tmM
  cases e : told.find? fun q => decide (q.1 = p.1) with
  | none => exact absurd (decide_eq_true rfl) (List.find?_eq_none.mp e p (List.mem_of_getElem? h))
  | some q =>
    have h1 : q.1 = p.1 := by simpa using List.find?_some e
    obtain ⟨j2, hj2, e2⟩ := List.mem_iff_getElem.mp (List.mem_of_find?_eq_some e)
    obtain ⟨hj, ej⟩ := List.getElem?_eq_some_iff.mp h
    have : j2 = j := by
      refine (List.getElem_inj (xs := told.map (·.1)) (h₀ := by rw [List.length_map]; exact hj2) (h₁ := by rw [List.length_map]; exact hj) nd).mp ?_
      rw [List.getElem_map, List.getElem_map, e2, ej, h1]
    subst this
    rw [← e2, ej]
    rfl
section
variable {P : Program} {w : World} {K : PySem.W.Frag} {mg : Str → Option Value} {base : Heap}
def spLP (K : PySem.W.Frag) : Sp := fun vs H Q _ => ∃ (p : Addr) (sg : List Nat) (acc : Wd → Bool) (L : List (List Nat)) (E : List Nat), vs = [.ref p] ∧ WalkO K H p sg L E ∧ Least sg.length acc L E ∧ L.length ≤ 40 ∧ sg.length ≤ 12 ∧
  ∀ q ws H', Same H H' → H q = none → H' q = some (.lst (ws.map fun x => .str (S (cod sg x)))) → WsD sg.length L ws → Q (.ref q) H'
theorem sc_least_papers : FnScope ["walk", "order", "told", "k", "z", "v", "onto"] ["walk"] (defScope s_least_papers) := ⟨rfl, rfl, rfl, by decide +kernel, rfl, by decide +kernel, by decide +kernel⟩
theorem ok_least_papers (T : Tx K mg) : C1 P w K mg base CX0 1 "least_papers" ["walk"] (spLP K) := by
  obtain ⟨fd, F⟩ := d_least_papers T
  refine .mk1 F (g_least_papers T) (fun _ _ _ _ _ _ us hl => match us, hl with | [_], _ => rfl) sc_least_papers (fun vs H Q E h => ?_) (fun cdv A outer s H vs Q E hr h => ?_)
  · obtain ⟨p, sg, acc, L, E', rfl, W, LE, hL, h12, k⟩ := h
    rfl
  obtain ⟨p, sg, acc, L, E', rfl, W, LE, hL, h12, k⟩ := h
  have hu := hu_of hr
  have hu64 := hu64_of hr
  have hu6 := hu64' hr
  refine ⟨_, (pss_cons (ps_set (i := 1) sc_least_papers.nd rfl (Or.inl rfl) (pe_lst (pa_cons pe_int pa_nil)))
      (pss_cons (ps_set (i := 2) sc_least_papers.nd rfl (Or.inr rfl) pe_dnewK)
      (pss_cons (ps_dput hu (pv 2) pe_int pe_str rfl)
      (pss_cons (ps_set (i := 3) sc_least_papers.nd rfl (Or.inl rfl) pe_int)
      (pss_cons (ps_while PassesOwn.never (pt_cmpR op_lt (pv 3) (pe_callB (call_lenK K (by rfl)) (by rfl) (f_len T) PySem.boot_len (pa_cons (pv 1) pa_nil)) (nomark _)) (pss_cons (ps_set (i := 4) sc_least_papers.nd rfl (Or.inl rfl) (pe_ix (ix_listK K (by rfl)) (pv 1) (pv 3) (fun _ _ => rfl)))
      (pss_cons (ps_for PassesOwn.never rfl (pi_range1 (by rfl) (f_range T) (pa_cons (pe_callB call_lenZ (by rfl) (f_len T) PySem.boot_len (pa_cons (pe_fldK K (by rfl) (pv 0)) pa_nil)) pa_nil)) (pg_name (i := 5) sc_least_papers.nd rfl (Or.inl rfl)) (pss_cons (ps_set (i := 6) sc_least_papers.nd rfl (Or.inl rfl) (pe_ix (ix_tupK K (by rfl)) (pe_ix (ix_tupK K (by rfl)) (pe_fldK K (by rfl) (pv 0)) (pv 4) (fun _ _ => rfl)) (pv 5) (fun _ _ => rfl)))
      (pss_one (ps_if (pt_cmp (pc_dnotin hu (pv 6) (pv 2))) (pss_cons (ps_dput hu (pv 2) (pv 6) (pe_op op_catS (pe_dget hu (pv 2) (pv 4) (fun _ _ => rfl)) (pe_ix ix_str (pe_fldK K (by rfl) (pv 0)) (pv 5) (fun _ _ => rfl))) rfl)
      (pss_one (ps_expr (pe_bmK K (by rfl) PySem.F.plainAttrs_list PySem.F.slot_list_append PySem.F.type_list_append mt_append (pv 1) (pa_cons (pv 6) pa_nil))))) pss_nil))))
      (pss_one (ps_aug (i := 3) sc_least_papers.nd rfl (Or.inl rfl) pe_int ip_add)))))
      (pss_one (ps_ret (pe_lc (own := [("z", 4)]) (g := gName 4) (by rfl) sc_least_papers.nd (pi_range1 (by rfl) (f_range T) (pa_cons (pe_callB (call_lenK K (by rfl)) (by rfl) (f_len T) PySem.boot_len (pa_cons (pe_fldK K (by rfl) (pv 0)) pa_nil)) pa_nil)) (blkOk_by (own := [("z", 4)]) (by kernel_rfl)) (fun _ _ _ _ _ => pg_name (i := 4) sc_least_papers.nd rfl (Or.inl rfl)) (fun _ _ _ _ _ => pts_nil) (fun _ _ _ _ _ => (pe_dget hu (pv 2) (pv 4) (fun _ _ => rfl))))))))))), ?_⟩
  walk_at "go"
  obtain ⟨dx, vl, ve, hp, RL, RE⟩ := W
  obtain ⟨va, vvs, rfl, hva, pvs⟩ := id RL
  have Tb := LE.tab
  refine ⟨by decide, fun t ht => ?_⟩
  walk_at "go"
  intro s hs
  walk_at "go"
  have ts : t ≠ s := fun z => by rw [z.symm, upd_same] at hs; cases hs
  have hs0 : H s = none := by rw [upd_ne ts.symm] at hs; exact hs
  obtain ⟨H4, P4, M4, o4, e4⟩ := (MapI.new (H := upd H t (.lst [.int 0])) (p := s)).put 0 (.str "") (by omega)
  refine ⟨s, H4, rfl, P4, ?_⟩
  have S4 : Same H H4 := by
    rw [e4]
    exact same_mut ((same_new ht).trans (same_new hs)) hs0
  walk_at "go"
  refine ⟨fun m σ H' => ∃ (i : Nat) (told : List (Nat × Wd)) (u1 u2 u3 : Option V), m = L.length + 1 - i ∧ σ = [some (.ref p), some (.ref t), some (.ref s), some (.int ((i : Nat) : Int)), u1, u2, u3] ∧ Same H H' ∧ H' t = some (.lst (rI (told.map (·.1)))) ∧ MapI H' s told.length (tmM sg told) ∧
    BInv (stp L) sg.length 0 told i 0 ∧ ShortW told ∧ i ≤ told.length ∧ told.map (·.1) = List.range told.length, ⟨L.length + 1 - 0, 0, [(0, [])], _, _, _, rfl, rfl, S4, ?_, ?_, BInv.start, ShortW.one 0, by decide, by decide⟩, ?_⟩
  · rw [e4, upd_ne ts, upd_ne ts, upd_same]
    rfl
  · refine M4.ext fun z => ?_
    have := tmM_snoc (sg := sg) (told := []) (z := 0) (w := []) (by simp) z
    exact this
  rintro m σ' H5 ⟨i, told, u1, u2, u3, hm, rfl, s5, h5, M5, B5, W5, hi, hr5⟩
  have cnt := B5.count (run_range Tb Tb.pos)
  rw [List.length_range] at cnt
  walk_at "go"
  refine r_lenQL (SqL.of h5) ?_
  rw [rI_len, List.length_map]
  walk_at "go"
  refine iteD (fun h => ?_) (fun h => ?_)
  · refine ⟨_, fun _ _ z => z, ?_⟩
    have hil : i < told.length := by omega
    have hti : told[i]? = some told[i] := List.getElem?_eq_some_iff.mpr ⟨hil, rfl⟩
    have hz1 : told[i].1 = i := by
      have h1 : (told.map (·.1))[i]? = some told[i].1 := by rw [List.getElem?_map, hti]; rfl
      rw [hr5, List.getElem?_range hil] at h1
      exact (Option.some.inj h1).symm
    have hls : (told.map (·.1))[i]? = some i := by rw [List.getElem?_map, hti, Option.map_some, hz1]
    walk_at "go"
    refine r_ixL (SqL.of h5) (atI_nat (rI_get hls)) ?_
    walk_at "go"
    refine ⟨p, _, dx, _, _, rfl, s5 _ _ hp, c_Walk T, n_Walk_signs T, rfl, ?_⟩
    walk_at "go"
    refine ⟨_, rfl, by omega, by omega, ?_⟩
    have hiL : i < L.length := by omega
    refine fo_R (n := sg.length) (fun x σ H' => ∃ (told2 : List (Nat × Wd)) (u2 u3 : Option V), σ = [some (.ref p), some (.ref t), some (.ref s), some (.int ((i : Nat) : Int)), some (.int ((i : Nat) : Int)), u2, u3] ∧ Same H H' ∧ H' t = some (.lst (rI (told2.map (·.1)))) ∧ MapI H' s told2.length (tmM sg told2) ∧
      BInv (stp L) sg.length 0 told2 i x ∧ ShortW told2 ∧ told2[i]? = some told[i] ∧ told2.map (·.1) = List.range told2.length) ⟨told, _, _, rfl, s5, h5, M5, B5, W5, hti, hr5⟩ ?_ ?_
    · rintro x σ6 H6 hx ⟨told2, v1, v2, rfl, s6, h6, M6, B6, W6, hi6, hr6⟩
      walk_at "go"
      refine ⟨p, _, dx, _, _, rfl, s6 _ _ hp, c_Walk T, n_Walk_rows T, rfl, ?_⟩
      walk_at "go"
      have R6 := RL.kp (same_kp s6)
      obtain ⟨r, e1, e2⟩ := Tb.get2 R6 hiL hx
      refine R6.get e1 fun yr hyr => ?_
      walk_at "go"
      refine hyr.get e2 ?_
      walk_at "go"
      refine ⟨s, _, rfl, M6.dget _, ?_⟩
      walk_at "go"
      have cnt6 := B6.count (run_range Tb Tb.pos)
      rw [List.length_range] at cnt6
      have hi6' := (List.getElem?_eq_some_iff.mp hi6).1
      refine iteB (fun hn6 => ?_) (fun hn6 => ?_)
      · have hnew : stp L told[i].1 x ∉ told2.map (·.1) := by
          rw [hz1]
          exact tmM_none.mp hn6
        have hlen := told_range LE B6 hr6 hi6 hx hz1 hnew
        walk_at "go"
        have gT := M6.dget told[i].1
        rw [tmM_at B6.nd hi6, hz1] at gT
        refine ⟨s, _, rfl, gT, ?_⟩
        walk_at "go"
        refine ⟨p, _, dx, _, _, rfl, s6 _ _ hp, c_Walk T, n_Walk_signs T, rfl, ?_⟩
        walk_at "go"
        refine r_ixS hx (by omega) ?_
        walk_at "go"
        have wl := W6 i _ hi6
        refine r_catS ?hl ?_
        case hl => rw [cod_len]; simp; omega
        walk_at "go"
        have e9 : cod sg told[i].2 ++ [sg[x]] = cod sg (told[i].2 ++ [x]) := by rw [cod_snoc, getS hx]
        rw [e9]
        obtain ⟨H7, P7, M7, o7, e7⟩ := M6.put (stp L i x) (.str (S (cod sg (told[i].2 ++ [x])))) (by omega)
        refine ⟨s, H7, rfl, P7, ?_⟩
        have s7 : Same H H7 := by
          rw [e7]
          exact same_mut s6 hs0
        have h7 : H7 t = some (.lst (rI (told2.map (·.1)))) := by
          rw [e7, upd_ne ts]
          exact h6
        walk_at "go"
        refine ⟨r_tyL h7, ?_⟩
        walk_at "go"
        refine r_app' h7 (by rw [rI_len, List.length_map]; omega) ?_
        walk_at "go"
        have hB := B6.new hi6 hx hnew
        rw [hz1] at hB hlen hnew
        refine ⟨told2 ++ [(stp L i x, told[i].2 ++ [x])], _, _, rfl, same_mut s7 ht, by rw [upd_same, List.map_append, rI_app]; rfl, ?_, hB, W6.snoc hi6 _ _, ?_, ?_⟩
        · rw [List.length_append]
          exact (M7.upd ts.symm).ext fun z => tmM_snoc hnew z
        · rw [List.getElem?_append_left hi6']
          exact hi6
        · rw [List.map_append, List.length_append, hr6, List.length_singleton, List.range_succ]
          show List.range told2.length ++ [stp L i x] = _
          rw [hlen]
      · have hold : stp L told[i].1 x ∈ told2.map (·.1) := by
          refine Classical.byContradiction fun z => ?_
          rw [hz1] at z
          rw [tmM_none.mpr z] at hn6
          cases hn6
        walk_at "go"
        exact ⟨told2, _, _, rfl, s6, h6, M6, B6.old hi6 hx hold, W6, hi6, hr6⟩
    · rintro σ6 H6 ⟨told2, v1, v2, rfl, s6, h6, M6, B6, W6, hi6, hr6⟩
      walk_at "go"
      rw [show ((i : Nat) : Int) + 1 = ((i + 1 : Nat) : Int) by omega]
      have := (List.getElem?_eq_some_iff.mp hi6).1
      exact ⟨L.length + 1 - (i + 1), by omega, i + 1, told2, _, _, _, rfl, rfl, s6, h6, M6, B6.row, W6, by omega, hr6⟩
  · have : i = told.length := by omega
    subst this
    have WD := ws_of LE B5 hr5 W5
    have hlen : told.length = L.length := by
      have := WD.len
      rwa [List.length_map] at this
    walk_at "go"
    refine ⟨p, _, dx, _, _, rfl, s5 _ _ hp, c_Walk T, n_Walk_rows T, rfl, ?_⟩
    walk_at "go"
    refine r_lenQT (sqT_same s5 hva) ?_
    rw [← Paired.length pvs]
    refine ⟨_, rfl, by omega, by omega, fun D hD => ?_⟩
    refine lcg_R (fun z => (tmM sg told z).getD .non) (by omega) hD ?_ ?_
    · intro z H6 hz s6 Q6 k6
      have hzt : told[z]? = some told[z] := List.getElem?_eq_some_iff.mpr ⟨by omega, rfl⟩
      have hz1 : told[z].1 = z := by
        have h1 : (told.map (·.1))[z]? = some told[z].1 := by rw [List.getElem?_map, hzt]; rfl
        rw [hr5, List.getElem?_range (by omega)] at h1
        exact (Option.some.inj h1).symm
      have gT := (M5.same s6).dget z
      have e := tmM_at (sg := sg) B5.nd hzt
      rw [hz1] at e
      rw [e] at gT
      walk_at "go"
      refine ⟨s, _, rfl, gT, ?_⟩
      have kk := k6 _ (Same.refl _)
      rw [e] at kk
      exact kk
    · intro H6 s6 hL6
      refine k D (told.map (·.2)) H6 (s5.trans s6) (s5.free hD) ?_ WD
      rw [hL6]
      refine congrArg (fun l => some (HO.lst l)) (List.ext_getElem? fun z => ?_)
      rw [List.getElem?_map, List.getElem?_map, List.getElem?_map]
      rcases Nat.lt_or_ge z L.length with g | g
      · have hzt : told[z]? = some told[z] := List.getElem?_eq_some_iff.mpr ⟨by omega, rfl⟩
        have hz1 : told[z].1 = z := by
          have h1 : (told.map (·.1))[z]? = some told[z].1 := by rw [List.getElem?_map, hzt]; rfl
          rw [hr5, List.getElem?_range (by omega)] at h1
          exact (Option.some.inj h1).symm
        have e := tmM_at (sg := sg) B5.nd hzt
        rw [hz1] at e
        rw [List.getElem?_range g, hzt]
        show some ((tmM sg told z).getD .non) = _
        rw [e]
        rfl
      · rw [List.getElem?_eq_none_iff.mpr (by simpa using g), List.getElem?_eq_none_iff.mpr (by omega)]
        rfl
end
/-! ### x in a tuple of data -/
def rInDT (K : PySem.W.Frag) : R2 := fun x y H Q => ∃ d ds, Dp K H x d ∧ Dp K H y (.tuple ds) ∧ SeqAt.shaped d = true ∧ SeqAt.shaped (.tuple ds) = true ∧ Q (.bl (ds.any fun z => PyData.eqv z d)) H
theorem op_inDTK {X : Cx} (K : PySem.W.Frag) (hK : X.K = K) (hu : X.A.units + 65 < cLine) : OpR X (compareOp .In) (rInDT K) := by
  subst hK
  intro pins s σ H x y v u Q I rx ry h
  obtain ⟨d, ds, hd, he, sd, se, q⟩ := h
  obtain ⟨as, r1⟩ := Dp.reads I d x v hd rx
  obtain ⟨bs, r2⟩ := Dp.reads I (.tuple ds) y u he ry
  exact SeqAt.in_tuple_reads r2 r1 (SeqAt.canLay_of_shaped se) (SeqAt.canLay_of_shaped sd) (room_in_shaped sd hu) ⟨.bl _, H, I, rfl, q⟩
/-- entries of a level -/
def EntL (sg : List Nat) (pr : Cw → Nat × Nat) (H : Hp) (fr : List Cw) (xs : List V) : Prop := Paired (fun (e : Cw) y => ∃ q b, y = .ref q ∧ H q = some (.tup [.str (S (cod sg e.1)), .str (S (cod sg e.2)), .ref b]) ∧ PairT H b (pr e)) fr xs
theorem EntL.kt {sg : List Nat} {pr : Cw → Nat × Nat} {H H' : Hp} {fr : List Cw} {xs : List V} (h : EntL sg pr H fr xs) (e : Kt H H') : EntL sg pr H' fr xs := Paired.mapP h fun _ _ ⟨q, b, h1, h2, h3⟩ => ⟨q, b, h1, e _ _ h2, e _ _ h3⟩
section
variable {P : Program} {w : World} {K : PySem.W.Frag} {mg : Str → Option Value} {base : Heap}
def spGoes (K : PySem.W.Frag) : Sp := fun vs H Q _ => ∃ (p h : Addr) (sg : List Nat) (L : List (List Nat)) (E : List Nat) (pr : Cw → Nat × Nat) (fr : List Cw) (xs : List V), vs = [.ref p, .ref h] ∧ WalkO K H p sg L E ∧ Tab sg.length L.length L ∧ sg.length ≤ 12 ∧ H h = some (.lst xs) ∧ EntL sg pr H fr xs ∧ fr.length ≤ 2000 ∧ (∀ e ∈ fr, (pr e).1 < L.length ∧ (pr e).2 < L.length ∧ e.2.length ≤ 50000) ∧ (∀ a t v, pr (a, t ++ [v]) = d2 L (pr (a, t)) v) ∧
  ∀ q ys H', Same H H' → H q = none → H' q = some (.lst ys) → EntL sg pr H' (exts sg.length fr) ys → Q (.ref q) H'
theorem exts_len (k : Nat) (fr : List Cw) : (exts k fr).length = fr.length * k := by
  induction fr with
  | nil => simp [exts]
  | cons e fr ih =>
    show (((List.range k).map fun v => (e.1, e.2 ++ [v])) ++ exts k fr).length = _
    rw [List.length_append, ih, List.length_map, List.length_range, List.length_cons, Nat.succ_mul]
    omega
theorem sc_goes_on : FnScope ["walk", "here", "told", "ahead", "after", "pair", "v", "onto"] ["walk", "here"] (defScope s_goes_on) := ⟨rfl, rfl, rfl, by decide +kernel, rfl, by decide +kernel, by decide +kernel⟩
theorem ok_goes_on (T : Tx K mg) : C1 P w K mg base CX0 1 "goes_on" ["walk", "here"] (spGoes K) := by
  obtain ⟨fd, F⟩ := d_goes_on T
  refine .mk1 F (g_goes_on T) (fun _ _ _ _ _ _ us hl => match us, hl with | [_, _], _ => rfl) sc_goes_on (fun vs H Q E h => ?_) (fun cdv A outer s H vs Q E hr h => ?_)
  · obtain ⟨p, h, sg, L, E', pr, fr, xs, rfl, W, Tb, h12, hh, EL, hf, hlt, hstep, k⟩ := h
    rfl
  obtain ⟨p, h, sg, L, E', pr, fr, xs, rfl, W, Tb, h12, hh, EL, hf, hlt, hstep, k⟩ := h
  have hu := hu_of hr
  have hu64 := hu64_of hr
  have hu6 := hu64' hr
  refine ⟨_, (pss_cons (ps_set (i := 2) sc_goes_on.nd rfl (Or.inl rfl) (pe_lst pa_nil))
      (pss_cons (ps_for PassesOwn.never rfl (pi_listK K (by rfl) (pv 1)) (pg_tupK K (by rfl) rfl (pgs_cons (pg_name (i := 3) sc_goes_on.nd rfl (Or.inl rfl)) (pgs_cons (pg_name (i := 4) sc_goes_on.nd rfl (Or.inl rfl)) (pgs_cons (pg_name (i := 5) sc_goes_on.nd rfl (Or.inl rfl)) pgs_nil)))) (pss_one (ps_for PassesOwn.never rfl (pi_range1 (by rfl) (f_range T) (pa_cons (pe_callB call_lenZ (by rfl) (f_len T) PySem.boot_len (pa_cons (pe_fldK K (by rfl) (pv 0)) pa_nil)) pa_nil)) (pg_name (i := 6) sc_goes_on.nd rfl (Or.inl rfl)) (pss_cons (ps_set (i := 7) sc_goes_on.nd rfl (Or.inl rfl) (pe_tup (pa_cons (pe_ix (ix_tupK K (by rfl)) (pe_ix (ix_tupK K (by rfl)) (pe_fldK K (by rfl) (pv 0)) (pe_ix (ix_tupK K (by rfl)) (pv 5) pe_int (fun _ _ => rfl)) (fun _ _ => rfl)) (pv 6) (fun _ _ => rfl)) (pa_cons (pe_ix (ix_tupK K (by rfl)) (pe_ix (ix_tupK K (by rfl)) (pe_fldK K (by rfl) (pv 0)) (pe_ix (ix_tupK K (by rfl)) (pv 5) pe_int (fun _ _ => rfl)) (fun _ _ => rfl)) (pv 6) (fun _ _ => rfl)) pa_nil))))
      (pss_one (ps_expr (pe_bmK K (by rfl) PySem.F.plainAttrs_list PySem.F.slot_list_append PySem.F.type_list_append mt_append (pv 2) (pa_cons (pe_tup (pa_cons (pv 3) (pa_cons (pe_op op_catS (pv 4) (pe_ix ix_str (pe_fldK K (by rfl) (pv 0)) (pv 6) (fun _ _ => rfl))) (pa_cons (pv 7) pa_nil)))) pa_nil))))))))
      (pss_one (ps_ret (pv 2))))), ?_⟩
  walk_at "go"
  obtain ⟨dx, vl, ve, hp, RL, RE⟩ := W
  refine ⟨by decide, fun t ht => ?_⟩
  walk_at "go"
  have st := same_new (o := .lst []) ht
  refine ⟨h, rfl, ⟨_, SqL.of (st _ _ hh)⟩, ?_⟩
  have lfx := Paired.length EL
  refine fo_L (xs := xs) (fun i σ H' => ∃ (u1 u2 u3 u4 u5 : Option V) (ys : List V), σ = [some (.ref p), some (.ref h), some (.ref t), u1, u2, u3, u4, u5] ∧ Same H H' ∧ H' t = some (.lst ys) ∧ EntL sg pr H' (exts sg.length (fr.take i)) ys ∧ i ≤ fr.length)
    ⟨_, _, _, _, _, [], rfl, st, upd_same, by rw [List.take_zero]; exact .nil, Nat.zero_le _⟩ (fun i σ H' _ ⟨_, _, _, _, _, _, _, s, _⟩ => SqL.of (s _ _ hh)) ?_ ?_
  · rintro i x σ H1 hx ⟨u1, u2, u3, u4, u5, ys, rfl, s1, h1, E1, _⟩
    have hi : i < fr.length := by
      have := (List.getElem?_eq_some_iff.mp hx).1
      omega
    have hfi : fr[i]? = some fr[i] := List.getElem?_eq_some_iff.mpr ⟨hi, rfl⟩
    have hm := hlt _ (List.getElem_mem hi)
    obtain ⟨x', hx', q, b, rfl, hq, hb⟩ := paired_get EL hfi
    rw [hx] at hx'
    cases hx'
    generalize fr[i] = e at hfi hm hq hb
    have htk : fr.take (i + 1) = fr.take i ++ [e] := by
      rw [List.take_add_one, hfi]
      rfl
    refine r_gtup (SqT.of (s1 _ _ hq)) rfl ?_
    walk_at "go"
    refine ⟨p, _, dx, _, _, rfl, s1 _ _ hp, c_Walk T, n_Walk_signs T, rfl, ?_⟩
    walk_at "go"
    refine ⟨_, rfl, by omega, by omega, ?_⟩
    refine fo_R (n := sg.length) (fun x σ H' => ∃ (u4 u5 : Option V) (ys : List V), σ = [some (.ref p), some (.ref h), some (.ref t), some (.str (S (cod sg e.1))), some (.str (S (cod sg e.2))), some (.ref b), u4, u5] ∧ Same H H' ∧ H' t = some (.lst ys) ∧ EntL sg pr H' (exts sg.length (fr.take i) ++ (List.range x).map fun v => (e.1, e.2 ++ [v])) ys ∧ x ≤ sg.length)
      ⟨_, _, ys, rfl, s1, h1, by simpa using E1, Nat.zero_le _⟩ ?_ ?_
    · rintro x σ6 H6 hx6 ⟨v4, v5, ys2, rfl, s6, h6, E6, _⟩
      have R6 := RL.kp (same_kp s6)
      have hb6 := s6 _ _ hb
      walk_at "go"
      refine ⟨p, _, dx, _, _, rfl, s6 _ _ hp, c_Walk T, n_Walk_rows T, rfl, ?_⟩
      walk_at "go"
      refine r_ixT (SqT.of hb6) rfl ?_
      obtain ⟨r1, e1, e2⟩ := Tb.get2 R6 hm.1 hx6
      refine R6.get e1 fun y1 hy1 => ?_
      walk_at "go"
      refine hy1.get e2 ?_
      walk_at "go"
      refine ⟨p, _, dx, _, _, rfl, s6 _ _ hp, c_Walk T, n_Walk_rows T, rfl, ?_⟩
      walk_at "go"
      refine r_ixT (SqT.of hb6) rfl ?_
      obtain ⟨r2, e3, e4⟩ := Tb.get2 R6 hm.2.1 hx6
      refine R6.get e3 fun y2 hy2 => ?_
      walk_at "go"
      refine hy2.get e4 ?_
      walk_at "go"
      refine ⟨by decide, fun c hc => ?_⟩
      have sc := same_new (o := .tup [.int ((stp L (pr e).1 x : Nat) : Int), .int ((stp L (pr e).2 x : Nat) : Int)]) hc
      walk_at "go"
      have htc := sc _ _ h6
      refine ⟨r_tyL htc, ?_⟩
      walk_at "go"
      refine ⟨p, _, dx, _, _, rfl, (s6.trans sc) _ _ hp, c_Walk T, n_Walk_signs T, rfl, ?_⟩
      walk_at "go"
      refine r_ixS hx6 (by omega) ?_
      walk_at "go"
      refine r_catS ?hl ?_
      case hl => rw [cod_len]; simp; omega
      walk_at "go"
      have e9 : cod sg e.2 ++ [sg[x]] = cod sg (e.2 ++ [x]) := by rw [cod_snoc, getS hx6]
      rw [e9]
      refine ⟨by decide, fun q2 hq2 => ?_⟩
      have sq2 := same_new (o := .tup [.str (S (cod sg e.1)), .str (S (cod sg (e.2 ++ [x]))), .ref c]) hq2
      walk_at "go"
      have lys := Paired.length E6
      rw [List.length_append, exts_len, List.length_take, List.length_map, List.length_range] at lys
      have lb : min i fr.length * sg.length ≤ 2000 * 12 := Nat.mul_le_mul (by omega) h12
      refine r_app' (sq2 _ _ htc) (by omega) ?_
      walk_at "go"
      have s9 := (s6.trans sc).trans sq2
      refine ⟨_, _, ys2 ++ [.ref q2], rfl, same_mut s9 ht, upd_same, ?_, hx6⟩
      rw [List.range_succ, List.map_append, ← List.append_assoc]
      have k1 : Kt H6 _ := (same_kt sc).trans (same_kt sq2)
      have k2 := kt_updL (o := .lst (ys2 ++ [.ref q2])) (sq2 _ _ htc)
      refine Paired.snoc (E6.kt (k1.trans k2)) ⟨q2, c, rfl, k2 _ _ upd_same, ?_⟩
      have : pr (e.1, e.2 ++ [x]) = (stp L (pr e).1 x, stp L (pr e).2 x) := hstep e.1 e.2 x
      rw [this]
      exact k2 _ _ (sq2 _ _ upd_same)
    · rintro σ6 H6 ⟨v4, v5, ys2, rfl, s6, h6, E6, _⟩
      walk_at "go"
      refine ⟨_, _, _, _, _, ys2, rfl, s6, h6, ?_, hi⟩
      have : exts sg.length (fr.take (i + 1)) = exts sg.length (fr.take i) ++ (List.range sg.length).map fun v => (e.1, e.2 ++ [v]) := by
        rw [htk]
        simp [exts]
      rw [this]
      exact E6
  · rintro σ H1 ⟨u1, u2, u3, u4, u5, ys, rfl, s1, h1, E1, _⟩
    rw [← lfx, List.take_length] at E1
    walk_at "go"
    exact k t ys H1 s1 ht h1 E1
end

end K18
end
section
set_option maxRecDepth 100000
set_option maxHeartbeats 4000000
local macro_rules | `(tactic| walk_at "go1") => `(tactic| first
  | (with_reducible refine K18.r_seq ?_) | (with_reducible refine K18.r_ifs ?_) | (with_reducible refine K18.r_ret ?_) | (with_reducible refine K18.r_asg ?_) | (with_reducible refine K18.r_drop ?_) | (with_reducible refine K18.r_next ?_)
  | (with_reducible refine K18.r_name ?_) | (with_reducible refine K18.r_var rfl ?_) | (with_reducible refine K18.r_c ?_) | (with_reducible refine K18.r_op ?_) | (with_reducible refine K18.r_cons ?_) | (with_reducible refine K18.r_nil ?_)
  | (with_reducible refine K18.r_cb ?_) | (with_reducible refine K18.r_call ?_) | (with_reducible refine K18.r_make ?_) | (with_reducible refine K18.r_B ?_) | (with_reducible refine K18.r_test ?_) | (with_reducible refine K18.r_or ?_) | (with_reducible refine K18.r_and ?_) | (with_reducible refine K18.r_not ?_)
  | (with_reducible refine K18.r_andV ?_) | (with_reducible refine K18.r_orV ?_) | (with_reducible refine K18.r_notV ?_) | (with_reducible refine K18.r_if ?_) | (with_reducible refine K18.r_aug rfl ?_) | (with_reducible refine K18.r_ip ?_)
  | (with_reducible refine K18.r_I0 ?_) | (with_reducible refine K18.r_int1 ?_) | (with_reducible refine K18.r_mod (by first | decide | omega) ?_) | (with_reducible refine K18.r_fdivN (by first | decide | omega) (by first | decide | omega) ?_) | (with_reducible refine K18.r_mulR (by first | decide | omega) (by first | decide | omega) ?_) | (with_reducible refine K18.r_mulL (by first | decide | omega) (by first | decide | omega) ?_) | (with_reducible refine K18.r_inG ?_) | (with_reducible refine K18.r_notInG ?_) | (with_reducible refine K18.r_ltS ?_) | (with_reducible refine K18.r_ex ?_) | (with_reducible refine K18.r_eqI ?_) | (with_reducible refine K18.r_neI ?_) | (with_reducible refine K18.r_eqB ?_) | (with_reducible refine K18.r_neB ?_) | (with_reducible refine K18.r_isN ?_)
  | (with_reducible refine K18.r_tup ?_) | (with_reducible refine K18.r_lst ?_) | (with_reducible refine K18.r_yes ?_) | (with_reducible refine K18.r_gsub ?_) | (with_reducible refine K18.r_dget ?_) | (with_reducible refine K18.r_sl ?_) | (with_reducible refine K18.r_part ?_) | (with_reducible refine K18.r_nopart ?_)
  | (with_reducible refine K18.r_chain ?_) | (with_reducible refine K18.r_bm ?_) | (with_reducible refine K18.iteT ?_) | (with_reducible refine K18.iteF ?_) | (with_reducible refine K18.iteNT ?_) | (with_reducible refine K18.iteNF ?_)
  | (with_reducible refine K18.r_for ?_) | (with_reducible refine K18.r_while ?_) | (with_reducible refine K18.r_lc ?_) | (with_reducible refine K18.r_iR1 ?_) | (with_reducible refine K18.r_iR2 ?_) | (with_reducible refine K18.r_iL ?_) | (with_reducible refine K18.r_iT ?_) | (with_reducible refine K18.r_iS ?_)
  | dsimp only [L2.start, List.map, List.replicate, List.length, List.cons_append, List.nil_append, List.append_nil, Nat.reduceAdd, Nat.reduceSub, List.set])
local macro_rules | `(tactic| walk_at "go") => `(tactic| repeat walk_at "go1")
local macro_rules | `(tactic| walk_at "go1") => `(tactic| first
  | (with_reducible refine K18.r_dnotin ?_) | (with_reducible refine K18.r_din ?_) | (with_reducible refine K18.r_dput ?_) | (with_reducible refine K18.r_dnewK ?_) | (with_reducible refine K18.r_dnewT ?_)
  | (with_reducible refine K18.r_gtup ?_) | (with_reducible refine K18.r_gcons ?_) | (with_reducible refine K18.r_gnil ?_) | (with_reducible refine K18.r_iAny ?_) | (with_reducible refine K18.r_lenZ (by first | assumption | omega) ?_))
local macro_rules | `(tactic| walk_at "go1") => `(tactic| first
  | (with_reducible refine K18.r_notN ?_) | (with_reducible refine K18.r_truth ?_))
namespace K18
open PySem PySem.Spec PyProof.Rows L2
local macro_rules | `(tactic| walk_at "go1") => `(tactic| first
  | (with_reducible refine K18.r_dc ?_) | (with_reducible refine K18.r_fld ?_) | (with_reducible refine K18.r_nnotin ?_) | (with_reducible refine K18.r_nget ?_) | (with_reducible refine K18.r_nput ?_) | (with_reducible refine K18.r_dnewN ?_) | (with_reducible refine K18.r_gfld ?_) | (with_reducible refine K18.r_sfld ?_))
theorem r_meth {C : Addr} {m : Str} {sp : Sp} {dvs : List V} {E : XK} {ta : TE} {t : TA} {σ : L2.St} {H : Hp} {Q : VK} (h : ta σ H fun x H1 => ∃ a dx fs, x = .ref a ∧ H1 a = some (.ins C dx fs) ∧ fs.lookup m = none ∧ t σ H1 fun vs H2 => sp (x :: (vs ++ dvs)) H2 Q E) : tMeth C m sp dvs E ta t σ H Q := h
local macro_rules | `(tactic| walk_at "go1") => `(tactic| first
  | (with_reducible refine K18.r_meth ?_))
/-- what is wanted, as data -/
def wnD (both : Bool) : List PyData := if both = true then [.tuple [.bool true, .bool true]] else [.tuple [.bool true, .bool false], .tuple [.bool false, .bool true]]
theorem wn_any (both : Bool) (E : List Nat) (z : Nat × Nat) : ((wnD both).any fun y => PyData.eqv y (.tuple [.bool (decide (z.1 ∈ E)), .bool (decide (z.2 ∈ E))])) = want both E z := by
  unfold want
  cases both <;> cases decide (z.1 ∈ E) <;> cases decide (z.2 ∈ E) <;> decide
theorem wn_shp (both : Bool) : SeqAt.shaped (.tuple (wnD both)) = true := by cases both <;> decide
theorem bb_shp (a b : Bool) : SeqAt.shaped (.tuple [.bool a, .bool b]) = true := by cases a <;> cases b <;> decide
theorem hds_of {k : Nat} {L : List (List Nat)} {ws : List Wd} (W : WsD k L ws) (w1 w2 : Wd) : Hds k (prC L w1 w2) (d2 L) ws where
  srt := W.srt
  ltk := W.ltk
  cov := fun a ha => by
    obtain ⟨x, hx, e, hs⟩ := W.least a ha
    refine ⟨x, hx, hs, ?_⟩
    unfold prC
    rw [e]
  step := fun a t v => by
    unfold prC
    rw [run_snoc]
theorem prC_lt {k : Nat} {L : List (List Nat)} {n : Nat} (Tb : Tab k n L) {w1 w2 : Wd} (h1 : Ltk k w1) (h2 : Ltk k w2) {c : Cw} (hc : CL k c) : (prC L w1 w2 c).1 < n ∧ (prC L w1 w2 c).2 < n := by
  unfold prC
  rw [run_d2]
  exact ⟨Tb.run_lt (Tb.run_lt (Tb.run_lt Tb.pos hc.1) h1) hc.2, Tb.run_lt (Tb.run_lt (Tb.run_lt Tb.pos hc.1) h2) hc.2⟩
theorem heads_snoc (ws : List Wd) (x : Wd) (s : Nat) : heads (ws ++ [x]) s = heads ws s ++ (if x.length = s then [(x, [])] else []) := by
  unfold heads
  rw [List.filter_append, List.map_append]
  by_cases e : x.length = s
  · rw [if_pos e, List.filter_cons_of_pos (by simpa using e)]
    rfl
  · rw [if_neg e, List.filter_cons_of_neg (by simpa using e)]
    rfl
theorem heads_len (ws : List Wd) (s : Nat) : (heads ws s).length ≤ ws.length := by
  unfold heads
  rw [List.length_map]
  exact List.length_filter_le _ _
theorem nd_pairs {n : Nat} {l : List (Nat × Nat)} (nd : l.Nodup) (h : ∀ z ∈ l, z.1 < n ∧ z.2 < n) : l.length ≤ n * n := by
  have := nd.length_le_of_subset (l₂ := allP n) fun z hz => allP_mem (h z hz).1 (h z hz).2
  rwa [allP_len] at this
section
variable {P : Program} {w : World} {K : PySem.W.Frag} {mg : Str → Option Value} {base : Heap}
def spLC (K : PySem.W.Frag) : Sp := fun vs H Q _ => ∃ (p : Addr) (wn : V) (sg l1 l2 : List Nat) (acc : Wd → Bool) (L : List (List Nat)) (E : List Nat) (both : Bool), vs = [.ref p, .str (S l1), .str (S l2), wn] ∧ WalkO K H p sg L E ∧ Least sg.length acc L E ∧ L.length ≤ 40 ∧ sg.length ≤ 12 ∧ sg.Pairwise (· < ·) ∧ Pap sg l1 ∧ Pap sg l2 ∧ l1.length ≤ 60 ∧ l2.length ≤ 60 ∧ Dp K H wn (.tuple (wnD both)) ∧
  ∀ v o H', Same H H' → LeastC sg.length (wantC L E both (wd sg l1) (wd sg l2)) o → CtxO sg H' v o → Q v H'
theorem Dp.same {K : PySem.W.Frag} {H H' : Hp} {both : Bool} {v : V} (e : Same H H') (h : Dp K H v (.tuple (wnD both))) : Dp K H' v (.tuple (wnD both)) := by
  have one : ∀ {v : V} {a b : Bool}, Dp K H v (.tuple [.bool a, .bool b]) → Dp K H' v (.tuple [.bool a, .bool b]) := fun {v a b} h => by
    cases h with
    | tup hs ha =>
      cases ha with
      | cons h1 t1 =>
        cases t1 with
        | cons h2 t2 =>
          cases t2
          cases h1
          cases h2
          exact .tup (sqT_same e hs) (.cons (.bl _) (.cons (.bl _) .nil))
  cases both with
  | true =>
    cases h with
    | tup hs ha =>
      cases ha with
      | cons h1 t1 =>
        cases t1
        exact .tup (sqT_same e hs) (.cons (one h1) .nil)
  | false =>
    cases h with
    | tup hs ha =>
      cases ha with
      | cons h1 t1 =>
        cases t1 with
        | cons h2 t2 =>
          cases t2
          exact .tup (sqT_same e hs) (.cons (one h1) (.cons (one h2) .nil))
theorem sc_least_context : FnScope ["walk", "first", "second", "wanted", "aheads", "longest", "seen", "here", "size", "z", "fresh", "ahead", "after", "pair"] ["walk", "first", "second", "wanted"] (defScope s_least_context) := ⟨rfl, rfl, rfl, by decide +kernel, rfl, by decide +kernel, by decide +kernel⟩
theorem ok_least_context (T : Tx K mg) : C1 P w K mg base CX0 3 "least_context" ["walk", "first", "second", "wanted"] (spLC K) := by
  obtain ⟨fd, F⟩ := d_least_context T
  refine .mk1 F (g_least_context T) (fun _ _ _ _ _ _ us hl => match us, hl with | [_, _, _, _], _ => rfl) sc_least_context (fun vs H Q E h => ?_) (fun cdv A outer s H vs Q E hr h => ?_)
  · obtain ⟨p, wn, sg, l1, l2, acc, L, E', both, rfl, W, LE, hL, h12, asc, pl1, pl2, n1, n2, hwn, k⟩ := h
    rfl
  obtain ⟨p, wn, sg, l1, l2, acc, L, E', both, rfl, W, LE, hL, h12, asc, pl1, pl2, n1, n2, hwn, k⟩ := h
  have hu := hu_of hr
  have hu64 := hu64_of hr
  have hu6 := hu64' hr
  refine ⟨_, (pss_cons (ps_set (i := 4) sc_least_context.nd rfl (Or.inl rfl) (pe_c1 (ok_least_papers T) (hr.mono (by decide)) (by rfl) (pa_cons (pv 0) pa_nil)))
      (pss_cons (ps_set (i := 5) sc_least_context.nd rfl (Or.inl rfl) (pe_callB (cr_maxK K (by rfl) rfl) (by rfl) (f_max T) (by decide +kernel) (pa_cons (pe_lc (own := [("ahead", 11)]) (g := gName 11) (by rfl) sc_least_context.nd (pi_listK K (by rfl) (pv 4)) (blkOk_by (own := [("ahead", 11)]) (by kernel_rfl)) (fun _ _ _ _ _ => pg_name (i := 11) sc_least_context.nd rfl (Or.inl rfl)) (fun _ _ _ _ _ => pts_nil) (fun _ _ _ _ _ => (pe_callB call_lenZ (by rfl) (f_len T) PySem.boot_len (pa_cons (pv 11) pa_nil)))) pa_nil)))
      (pss_cons (ps_set (i := 6) sc_least_context.nd rfl (Or.inl rfl) pe_dnewT)
      (pss_cons (ps_set (i := 7) sc_least_context.nd rfl (Or.inl rfl) (pe_lst pa_nil))
      (pss_cons (ps_set (i := 8) sc_least_context.nd rfl (Or.inl rfl) pe_int)
      (pss_cons (ps_while PassesOwn.never (pw_or (pt_truthK K (by rfl) (pv 7) (by intro _; rfl)) (pw_or1 (pt_cmpR op_le (pv 8) (pv 5) (nomark _)))).pt (pss_cons (ps_for PassesOwn.never rfl (pi_range1 (by rfl) (f_range T) (pa_cons (pe_callB (call_lenK K (by rfl)) (by rfl) (f_len T) PySem.boot_len (pa_cons (pv 4) pa_nil)) pa_nil)) (pg_name (i := 9) sc_least_context.nd rfl (Or.inl rfl)) (pss_one (ps_if (pt_cmpR op_eq (pe_callB call_lenZ (by rfl) (f_len T) PySem.boot_len (pa_cons (pe_ix (ix_listK K (by rfl)) (pv 4) (pv 9) (fun _ _ => rfl)) pa_nil)) (pv 8) (nomark _)) (pss_one (ps_expr (pe_bmK K (by rfl) PySem.F.plainAttrs_list PySem.F.slot_list_append PySem.F.type_list_append mt_append (pv 7) (pa_cons (pe_tup (pa_cons (pe_ix (ix_listK K (by rfl)) (pv 4) (pv 9) (fun _ _ => rfl)) (pa_cons pe_str (pa_cons (pe_tup (pa_cons (pe_m1 (ok_Walk_reached T) (hr.mono (by decide)) (pv 0) (pa_cons (pv 1) (pa_cons (pv 9) pa_nil))) (pa_cons (pe_m1 (ok_Walk_reached T) (hr.mono (by decide)) (pv 0) (pa_cons (pv 2) (pa_cons (pv 9) pa_nil))) pa_nil))) pa_nil)))) pa_nil)))) pss_nil)))
      (pss_cons (ps_set (i := 10) sc_least_context.nd rfl (Or.inl rfl) (pe_lst pa_nil))
      (pss_cons (ps_for PassesOwn.never rfl (pi_listK K (by rfl) (pv 7)) (pg_tupK K (by rfl) rfl (pgs_cons (pg_name (i := 11) sc_least_context.nd rfl (Or.inl rfl)) (pgs_cons (pg_name (i := 12) sc_least_context.nd rfl (Or.inl rfl)) (pgs_cons (pg_name (i := 13) sc_least_context.nd rfl (Or.inl rfl)) pgs_nil)))) (pss_one (ps_if (pt_cmp (pc_dnotin hu (pv 13) (pv 6))) (pss_cons (ps_dput hu (pv 6) (pv 13) pe_bl rfl)
      (pss_cons (ps_if (pt_cmpR (op_inDTK K (by rfl) hu64) (pe_tup (pa_cons (pe_cmpR (op_in_seqK K (by rfl)) (pe_ix (ix_tupK K (by rfl)) (pv 13) pe_int (fun _ _ => rfl)) (pe_fldK K (by rfl) (pv 0)) (by rfl)) (pa_cons (pe_cmpR (op_in_seqK K (by rfl)) (pe_ix (ix_tupK K (by rfl)) (pv 13) pe_int (fun _ _ => rfl)) (pe_fldK K (by rfl) (pv 0)) (by rfl)) pa_nil))) (pv 3) (by rfl)) (pss_one (ps_ret (pe_tup (pa_cons (pv 11) (pa_cons (pv 12) pa_nil))))) pss_nil)
      (pss_one (ps_expr (pe_bmK K (by rfl) PySem.F.plainAttrs_list PySem.F.slot_list_append PySem.F.type_list_append mt_append (pv 10) (pa_cons (pe_tup (pa_cons (pv 11) (pa_cons (pv 12) (pa_cons (pv 13) pa_nil)))) pa_nil)))))) pss_nil)))
      (pss_cons (ps_set (i := 7) sc_least_context.nd rfl (Or.inl rfl) (pe_c1 (ok_goes_on T) (hr.mono (by decide)) (by rfl) (pa_cons (pv 0) (pa_cons (pv 10) pa_nil))))
      (pss_one (ps_aug (i := 8) sc_least_context.nd rfl (Or.inl rfl) pe_int ip_add)))))))
      (pss_one (ps_ret pe_non)))))))), ?_⟩
  walk_at "go"
  obtain ⟨dx, vl, ve, hp, RL, RE⟩ := id W
  have Tb := LE.tab
  refine ⟨p, sg, acc, L, E', rfl, W, LE, hL, h12, fun wq ws H1 s1 hwq0 hwq WD => ?_⟩
  have HD := hds_of WD (wd sg l1) (wd sg l2)
  have lws := WD.len
  walk_at "go"
  refine ⟨wq, rfl, ⟨_, SqL.of hwq⟩, fun D hD => ?_⟩
  refine lcg_L (xs := ws.map fun x => V.str (S (cod sg x))) (fun v => match v with | .str z => .int ((z.length : Nat) : Int) | v => v) (by rw [List.length_map]; omega) hD (SqL.of hwq) ?_ ?_
  · intro m x H2 hx s2 Q2 k2
    rw [List.getElem?_map] at hx
    cases e : ws[m]? with
    | none => rw [e] at hx; cases hx
    | some u =>
      rw [e] at hx
      cases hx
      have := WD.short u (List.mem_of_getElem? e)
      walk_at "go"
      refine r_lenZ (by rw [cod_len]; omega) ?_
      have kk := k2 _ (Same.refl _)
      simp only [S_len] at kk
      exact kk
  intro H2 s2 hL2
  walk_at "go"
  have hws0 : 0 < ws.length := by
    rw [lws]
    exact Tb.pos
  refine ⟨D, ws.map fun x => ((x.length : Nat) : Int), rfl, SqL.of ?_, by rw [List.length_map]; exact hws0, fun mx hmx hle => ?_⟩
  · rw [hL2]
    simp [S_len, cod_len]
  obtain ⟨wm, hwm, em⟩ := List.mem_map.mp hmx
  have hlg : ∀ x ∈ ws, x.length ≤ wm.length := fun x hx => by
    have := hle _ (List.mem_map.mpr ⟨x, hx, rfl⟩)
    omega
  have lg40 := WD.short wm hwm
  rw [← em]
  generalize wm.length = lg at hlg lg40 ⊢
  have s02 := s1.trans s2
  walk_at "go"
  intro sd hsd
  walk_at "go"
  have ssd := same_new (o := .dT []) hsd
  refine ⟨by decide, fun hd hhd => ?_⟩
  have shd := same_new (o := .lst []) hhd
  walk_at "go"
  have sd0 : H sd = none := s02.free hsd
  have hd0 : H hd = none := (s02.trans ssd).free hhd
  have s04 := (s02.trans ssd).trans shd
  have hwq4 := ((s2.trans ssd).trans shd) _ _ hwq
  have NN : L.length * L.length ≤ 1600 := Nat.mul_le_mul hL hL
  refine ⟨fun m σ H' => ∃ (seen : List (Nat × Nat)) (here : List Cw) (s hd : Nat) (xs : List V) (u9 u10 u11 u12 u13 : Option V), m = 2 * (1601 - seen.length) + (lg + 1 - s) + (if here = [] then 0 else 1) ∧ s + m ≤ 4000 ∧ σ = [some (.ref p), some (.str (S l1)), some (.str (S l2)), some wn, some (.ref wq), some (.int ((lg : Nat) : Int)), some (.ref sd), some (.ref hd), some (.int ((s : Nat) : Int)), u9, u10, u11, u12, u13] ∧ Same H H' ∧ H hd = none ∧ hd ≠ wq ∧
    H' hd = some (.lst xs) ∧ EntL sg (prC L (wd sg l1) (wd sg l2)) H' here xs ∧ here.length ≤ 19200 ∧ MapP H' sd seen.length (seenM seen) ∧ seen.Nodup ∧ (∀ z ∈ seen, z.1 < L.length ∧ z.2 < L.length) ∧ SInv sg.length (prC L (wd sg l1) (wd sg l2)) (want both E') ws seen here s ∧ H' wq = some (.lst (ws.map fun x => .str (S (cod sg x)))),
    ⟨_, [], [], 0, hd, [], _, _, _, _, _, rfl, ?_, rfl, s04, hd0, (ne_of_none ((s2.trans ssd) _ _ hwq) hhd).symm, upd_same, .nil, by decide, ?_, List.nodup_nil, (fun z hz => nomatch hz), SInv.begin HD, hwq4⟩, ?_⟩
  · simp
    omega
  · exact (MapP.new).same shd
  rintro m σ' H5 ⟨seen, here, s, hq, xs, u9, u10, u11, u12, u13, hm, hsm, rfl, s5, hq0, hqw, h5, E5, hl5, M5, nd5, lt5, I5, hwq5⟩
  have lex := Paired.length E5
  have lsn := nd_pairs nd5 lt5
  walk_at "go"
  refine ⟨!xs.isEmpty, .inl ⟨xs, SqL.of h5, rfl⟩, ?_⟩
  refine iteB (fun hne => ?_) (fun hne => ?_)
  · have hcase : here ≠ [] ∨ s ≤ lg := .inl fun z => by
      rw [z] at lex
      rw [List.length_eq_zero_iff.mp lex.symm] at hne
      cases hne
    walk_at "go"
    refine ⟨_, fun _ _ z => z, ?_⟩
    walk_at "go"
    refine r_lenQL (SqL.of hwq5) ?_
    rw [List.length_map]
    refine ⟨_, rfl, by omega, by omega, ?_⟩
    refine fo_R (n := ws.length) (fun z σ H' => ∃ (xs : List V) (u9 : Option V), σ = [some (.ref p), some (.str (S l1)), some (.str (S l2)), some wn, some (.ref wq), some (.int ((lg : Nat) : Int)), some (.ref sd), some (.ref hq), some (.int ((s : Nat) : Int)), u9, u10, u11, u12, u13] ∧ Same H H' ∧ H' hq = some (.lst xs) ∧ EntL sg (prC L (wd sg l1) (wd sg l2)) H' (here ++ heads (ws.take z) s) xs ∧ MapP H' sd seen.length (seenM seen) ∧ H' wq = some (.lst (ws.map fun x => .str (S (cod sg x)))) ∧ z ≤ ws.length)
      ⟨xs, _, rfl, s5, h5, by rw [List.take_zero]; simpa [heads] using E5, M5, hwq5, Nat.zero_le _⟩ ?_ ?_
    · rintro z σ6 H6 hz ⟨xs6, v9, rfl, s6, h6, E6, M6, hwq6, _⟩
      have hwz : ws[z]? = some ws[z] := List.getElem?_eq_some_iff.mpr ⟨hz, rfl⟩
      have hsh := WD.short _ (List.getElem_mem hz)
      have hwv : (ws.map fun x => V.str (S (cod sg x)))[z]? = some (.str (S (cod sg ws[z]))) := by
        rw [List.getElem?_map, hwz]
        rfl
      have htk : ws.take (z + 1) = ws.take z ++ [ws[z]] := by
        rw [List.take_add_one, hwz]
        rfl
      have hz40 : (cod sg ws[z]).length ≤ 100000 := by rw [cod_len]; omega
      walk_at "go"
      refine r_ixL (SqL.of hwq6) (atI_nat hwv) ?_
      walk_at "go"
      rw [cod_len]
      refine iteD (fun he => ?_) (fun he => ?_)
      · have he' : ws[z].length = s := by omega
        walk_at "go"
        refine ⟨r_tyL h6, ?_⟩
        walk_at "go"
        refine r_ixL (SqL.of hwq6) (atI_nat hwv) ?_
        walk_at "go"
        refine ⟨p, dx, _, rfl, s6 _ _ hp, rfl, ?_⟩
        walk_at "go"
        refine ⟨p, sg, l1, z, L, E', rfl, W.same s6, Tb, by omega, pl1, n1, h12, asc, fun H7 s7 => ?_⟩
        walk_at "go"
        refine ⟨p, dx, _, rfl, (s6.trans s7) _ _ hp, rfl, ?_⟩
        walk_at "go"
        refine ⟨p, sg, l2, z, L, E', rfl, W.same (s6.trans s7), Tb, by omega, pl2, n2, h12, asc, fun H8 s8 => ?_⟩
        walk_at "go"
        refine ⟨by decide, fun b hb => ?_⟩
        walk_at "go"
        refine ⟨by decide, fun q hq2 => ?_⟩
        have sb := same_new (o := .tup [.int ((run (stp L) z (wd sg l1) : Nat) : Int), .int ((run (stp L) z (wd sg l2) : Nat) : Int)]) hb
        have sq := same_new (o := .tup [.str (S (cod sg ws[z])), .str "", .ref b]) hq2
        have s9 := ((s7.trans s8).trans sb).trans sq
        walk_at "go"
        have l6 := Paired.length E6
        have hhl := heads_len (ws.take z) s
        rw [List.length_append] at l6
        rw [List.length_take] at hhl
        refine r_app' (s9 _ _ h6) (by omega) ?_
        walk_at "go"
        have k9 := same_kt s9
        have kl := kt_updL (o := .lst (xs6 ++ [.ref q])) (s9 _ _ h6)
        have hne : hq ≠ sd := fun e => by
          obtain ⟨kvs, h, _⟩ := M6
          rw [← e, h6] at h
          cases h
        have hnw : hq ≠ wq := hqw
        refine ⟨xs6 ++ [.ref q], _, rfl, same_mut (s6.trans s9) hq0, upd_same, ?_, (M6.same s9).upd hne.symm, by rw [upd_ne hnw.symm]; exact s9 _ _ hwq6, hz⟩
        rw [htk, heads_snoc, if_pos he', ← List.append_assoc]
        refine Paired.snoc (E6.kt (k9.trans kl)) ⟨q, b, rfl, kl _ _ upd_same, ?_⟩
        have e0 : prC L (wd sg l1) (wd sg l2) (ws[z], []) = (run (stp L) z (wd sg l1), run (stp L) z (wd sg l2)) := by
          unfold prC
          rw [WD.at_ z _ hwz]
          rfl
        rw [e0]
        exact kl _ _ (sq _ _ upd_same)
      · walk_at "go"
        refine ⟨xs6, _, rfl, s6, h6, ?_, M6, hwq6, hz⟩
        rw [htk, heads_snoc, if_neg (by omega), List.append_nil]
        exact E6
    rintro σ6 H6 ⟨xs6, v9, rfl, s6, h6, E6, M6, hwq6, _⟩
    rw [List.take_length] at E6
    obtain ⟨fsrt, fmem⟩ := I5.full HD
    have lfx := Paired.length E6
    have lfl : (here ++ heads ws s).length ≤ 20000 := by
      have := heads_len ws s
      rw [List.length_append]
      omega
    walk_at "go"
    refine ⟨by decide, fun fl hfl => ?_⟩
    walk_at "go"
    have sfl := same_new (o := .lst []) hfl
    have hfq : hq ≠ fl := ne_of_none h6 hfl
    have fl0 : H fl = none := s6.free hfl
    refine ⟨hq, rfl, ⟨_, SqL.of (sfl _ _ h6)⟩, ?_⟩
    refine fo_L (xs := xs6) (fun i σ H' => ∃ (seen2 : List (Nat × Nat)) (fr : List Cw) (ys : List V) (u11 u12 u13 : Option V), σ = [some (.ref p), some (.str (S l1)), some (.str (S l2)), some wn, some (.ref wq), some (.int ((lg : Nat) : Int)), some (.ref sd), some (.ref hq), some (.int ((s : Nat) : Int)), v9, some (.ref fl), u11, u12, u13] ∧ Same H H' ∧ Kt H6 H' ∧ H' hq = some (.lst xs6) ∧ H' fl = some (.lst ys) ∧ EntL sg (prC L (wd sg l1) (wd sg l2)) H' fr ys ∧ MapP H' sd seen2.length (seenM seen2) ∧ seen2.Nodup ∧ (∀ z ∈ seen2, z.1 < L.length ∧ z.2 < L.length) ∧ Scan (prC L (wd sg l1) (wd sg l2)) (want both E') seen (here ++ heads ws s) i seen2 fr ∧ seen2.length = seen.length + fr.length ∧ H' wq = some (.lst (ws.map fun x => .str (S (cod sg x)))))
      ⟨seen, [], [], _, _, _, rfl, s6.trans sfl, same_kt sfl, sfl _ _ h6, upd_same, .nil, M6.same sfl, nd5, lt5, Scan.begin I5, rfl, sfl _ _ hwq6⟩ (fun i σ H' _ ⟨_, _, _, _, _, _, _, _, _, h, _⟩ => SqL.of h) ?_ ?_
    · rintro i x σ H7 hx ⟨seen2, fr, ys, w11, w12, w13, rfl, s7, k67, h7, hf7, F7, M7, nd7, lt7, SC, l27, hwq7⟩
      have hi : i < (here ++ heads ws s).length := by
        have := (List.getElem?_eq_some_iff.mp hx).1
        omega
      have hfi : (here ++ heads ws s)[i]? = some (here ++ heads ws s)[i] := List.getElem?_eq_some_iff.mpr ⟨hi, rfl⟩
      obtain ⟨x', hx', q, b, rfl, hqT, hbT⟩ := paired_get E6 hfi
      rw [hx] at hx'
      cases hx'
      generalize (here ++ heads ws s)[i] = e at hfi hqT hbT
      have hem := fmem e (List.mem_of_getElem? hfi)
      have hpl := prC_lt Tb (wd_ltk pl1) (wd_ltk pl2) hem.1
      have lsn7 := nd_pairs nd7 lt7
      refine r_gtup (SqT.of (k67 _ _ hqT)) rfl ?_
      walk_at "go"
      have hb7 : PairT H7 b (prC L (wd sg l1) (wd sg l2) e) := k67 _ _ hbT
      refine ⟨sd, _, rfl, M7.dget hb7, ?_⟩
      walk_at "go"
      refine iteB (fun hn => ?_) (fun hn => ?_)
      · have hnew := seenM_none.mp hn
        walk_at "go"
        obtain ⟨H8, P8, M8, o8, e8⟩ := M7.put hb7 (.bl true) (by omega)
        refine ⟨sd, H8, rfl, P8, ?_⟩
        have s8 : Same H H8 := by
          rw [e8]
          exact same_mut s7 sd0
        have k78 : Kt H7 H8 := by
          rw [e8]
          exact M7.kt
        have nsd : ∀ {c : Addr} {zs : List V}, H7 c = some (.lst zs) → H8 c = some (.lst zs) := fun {c zs} hc => by
          rw [e8, upd_ne (fun z => by
            obtain ⟨kvs, h, _⟩ := M7
            rw [← z, hc] at h
            cases h)]
          exact hc
        have hb8 := k78 _ _ hb7
        have RE8 := RE.kp (same_kp s8)
        walk_at "go"
        refine r_ixT (SqT.of hb8) rfl ?_
        walk_at "go"
        refine ⟨p, _, dx, _, _, rfl, s8 _ _ hp, c_Walk T, n_Walk_goals T, rfl, ?_⟩
        refine r_inRow RE8 ?_
        walk_at "go"
        refine r_ixT (SqT.of hb8) rfl ?_
        walk_at "go"
        refine ⟨p, _, dx, _, _, rfl, s8 _ _ hp, c_Walk T, n_Walk_goals T, rfl, ?_⟩
        refine r_inRow RE8 ?_
        walk_at "go"
        refine ⟨by decide, fun c hc => ?_⟩
        have sc := same_new (o := .tup [.bl (decide ((prC L (wd sg l1) (wd sg l2) e).1 ∈ E')), .bl (decide ((prC L (wd sg l1) (wd sg l2) e).2 ∈ E'))]) hc
        walk_at "go"
        refine ⟨.tuple [.bool (decide ((prC L (wd sg l1) (wd sg l2) e).1 ∈ E')), .bool (decide ((prC L (wd sg l1) (wd sg l2) e).2 ∈ E'))], wnD both, .tup (SqT.of upd_same) (.cons (.bl _) (.cons (.bl _) .nil)), Dp.same (s8.trans sc) hwn, bb_shp _ _, wn_shp _, ?_⟩
        rw [wn_any both E' (prC L (wd sg l1) (wd sg l2) e)]
        walk_at "go"
        refine iteB (fun hg => ?_) (fun hg => ?_)
        · walk_at "go"
          refine ⟨by decide, fun r hr2 => ?_⟩
          have te : e.1.length + e.2.length = s := hem.2
          exact k _ (some e) _ ((s8.trans sc).trans (same_new hr2)) (SC.found I5 HD hfi hg) ⟨⟨r, rfl, upd_same⟩, by omega, by omega⟩
        · walk_at "go"
          have hf8 := sc _ _ (nsd hf7)
          refine ⟨r_tyL hf8, ?_⟩
          walk_at "go"
          refine ⟨by decide, fun q2 hq2 => ?_⟩
          have sq2 := same_new (o := .tup [.str (S (cod sg e.1)), .str (S (cod sg e.2)), .ref b]) hq2
          walk_at "go"
          have lF := Paired.length F7
          refine r_app' (sq2 _ _ hf8) (by omega) ?_
          walk_at "go"
          have k89 := (same_kt sc).trans (same_kt sq2)
          have kl := kt_updL (o := .lst (ys ++ [.ref q2])) (sq2 _ _ hf8)
          have s9 := (s8.trans sc).trans sq2
          have fne : sd ≠ fl := fun z => by
            obtain ⟨kvs, h, _⟩ := M7
            rw [z, hf7] at h
            cases h
          refine ⟨seen2 ++ [prC L (wd sg l1) (wd sg l2) e], fr ++ [e], ys ++ [.ref q2], _, _, _, rfl, same_mut s9 fl0, ((k67.trans k78).trans k89).trans kl, by rw [upd_ne hfq]; exact sq2 _ _ (sc _ _ (nsd h7)), upd_same, ?_, ?_, ?_, ?_, SC.add hfi hg, by rw [List.length_append, List.length_append, l27]; simp; omega, ?_⟩
          · exact Paired.snoc (F7.kt ((k78.trans k89).trans kl)) ⟨q2, b, rfl, kl _ _ upd_same, (k89.trans kl) _ _ hb8⟩
          · rw [List.length_append]
            exact (((M8.same sc).same sq2).upd fne).ext fun z => seenM_add z
          · exact List.nodup_append.mpr ⟨nd7, by simp, fun a ha b hb e2 => hnew (by rw [← List.mem_singleton.mp hb, ← e2]; exact ha)⟩
          · intro z hz
            rcases List.mem_append.mp hz with g | g
            · exact lt7 z g
            · rw [List.mem_singleton.mp g]
              exact hpl
          · have : wq ≠ fl := ne_of_none hwq6 hfl
            rw [upd_ne this]
            exact sq2 _ _ (sc _ _ (nsd hwq7))
      · have hold : prC L (wd sg l1) (wd sg l2) e ∈ seen2 := by
          refine Classical.byContradiction fun z => ?_
          rw [seenM_none.mpr z] at hn
          cases hn
        walk_at "go"
        exact ⟨seen2, fr, ys, _, _, _, rfl, s7, k67, h7, hf7, F7, M7, nd7, lt7, SC.skip fsrt hfi hold, l27, hwq7⟩
    rintro σ H7 ⟨seen2, fr, ys, w11, w12, w13, rfl, s7, k67, h7, hf7, F7, M7, nd7, lt7, SC, l27, hwq7⟩
    have lsn7 := nd_pairs nd7 lt7
    have frs : ∀ e ∈ fr, CL sg.length e ∧ tot e = s := fun e he => fmem e (List.mem_of_mem_take (SC.sub.subset he))
    walk_at "go"
    refine ⟨p, fl, sg, L, E', prC L (wd sg l1) (wd sg l2), fr, ys, rfl, W.same s7, Tb, h12, hf7, F7, by omega, fun e he => ?_, HD.step, fun q2 zs H8 s8 hq20 h8 E8 => ?_⟩
    · obtain ⟨c1, c2⟩ := frs e he
      obtain ⟨d1, d2⟩ := prC_lt Tb (wd_ltk pl1) (wd_ltk pl2) c1
      unfold tot at c2
      exact ⟨d1, d2, by omega⟩
    walk_at "go"
    rw [show ((s : Nat) : Int) + 1 = ((s + 1 : Nat) : Int) by omega]
    have le8 := exts_len sg.length fr
    have lb : fr.length * sg.length ≤ 1600 * 12 := Nat.mul_le_mul (by omega) h12
    have hm' : 2 * (1601 - seen2.length) + (lg + 1 - (s + 1)) + (if exts sg.length fr = [] then 0 else 1) < m := by
      rw [hm, l27]
      cases fr with
      | nil =>
        rw [show exts sg.length [] = [] from rfl, if_pos rfl]
        simp only [List.length_nil, Nat.add_zero]
        rcases hcase with g | g
        · rw [if_neg g]
          omega
        · split <;> omega
      | cons e fr =>
        simp only [List.length_cons] at l27 ⊢
        split <;> (try split) <;> omega
    refine ⟨_, hm', seen2, exts sg.length fr, s + 1, q2, zs, _, _, _, _, _, rfl, by omega, rfl, s7.trans s8, s7.free hq20, (ne_of_none hwq7 hq20).symm, h8, E8, by omega, M7.same s8, nd7, lt7, SC.next (by rw [lfx]; exact Nat.le_refl _) I5 HD, s8 _ _ hwq7⟩
  · have hxs : here = [] := by
      cases xs with
      | nil => exact List.length_eq_zero_iff.mp lex
      | cons x xs => cases hne
    walk_at "go"
    refine iteD (fun hsl => ?_) (fun hsl => ?_)
    · have hcase : here ≠ [] ∨ s ≤ lg := .inr (by omega)
      walk_at "go"
      refine ⟨_, fun _ _ z => z, ?_⟩
      walk_at "go"
      refine r_lenQL (SqL.of hwq5) ?_
      rw [List.length_map]
      refine ⟨_, rfl, by omega, by omega, ?_⟩
      refine fo_R (n := ws.length) (fun z σ H' => ∃ (xs : List V) (u9 : Option V), σ = [some (.ref p), some (.str (S l1)), some (.str (S l2)), some wn, some (.ref wq), some (.int ((lg : Nat) : Int)), some (.ref sd), some (.ref hq), some (.int ((s : Nat) : Int)), u9, u10, u11, u12, u13] ∧ Same H H' ∧ H' hq = some (.lst xs) ∧ EntL sg (prC L (wd sg l1) (wd sg l2)) H' (here ++ heads (ws.take z) s) xs ∧ MapP H' sd seen.length (seenM seen) ∧ H' wq = some (.lst (ws.map fun x => .str (S (cod sg x)))) ∧ z ≤ ws.length)
        ⟨xs, _, rfl, s5, h5, by rw [List.take_zero]; simpa [heads] using E5, M5, hwq5, Nat.zero_le _⟩ ?_ ?_
      · rintro z σ6 H6 hz ⟨xs6, v9, rfl, s6, h6, E6, M6, hwq6, _⟩
        have hwz : ws[z]? = some ws[z] := List.getElem?_eq_some_iff.mpr ⟨hz, rfl⟩
        have hsh := WD.short _ (List.getElem_mem hz)
        have hwv : (ws.map fun x => V.str (S (cod sg x)))[z]? = some (.str (S (cod sg ws[z]))) := by
          rw [List.getElem?_map, hwz]
          rfl
        have htk : ws.take (z + 1) = ws.take z ++ [ws[z]] := by
          rw [List.take_add_one, hwz]
          rfl
        have hz40 : (cod sg ws[z]).length ≤ 100000 := by rw [cod_len]; omega
        walk_at "go"
        refine r_ixL (SqL.of hwq6) (atI_nat hwv) ?_
        walk_at "go"
        rw [cod_len]
        refine iteD (fun he => ?_) (fun he => ?_)
        · have he' : ws[z].length = s := by omega
          walk_at "go"
          refine ⟨r_tyL h6, ?_⟩
          walk_at "go"
          refine r_ixL (SqL.of hwq6) (atI_nat hwv) ?_
          walk_at "go"
          refine ⟨p, dx, _, rfl, s6 _ _ hp, rfl, ?_⟩
          walk_at "go"
          refine ⟨p, sg, l1, z, L, E', rfl, W.same s6, Tb, by omega, pl1, n1, h12, asc, fun H7 s7 => ?_⟩
          walk_at "go"
          refine ⟨p, dx, _, rfl, (s6.trans s7) _ _ hp, rfl, ?_⟩
          walk_at "go"
          refine ⟨p, sg, l2, z, L, E', rfl, W.same (s6.trans s7), Tb, by omega, pl2, n2, h12, asc, fun H8 s8 => ?_⟩
          walk_at "go"
          refine ⟨by decide, fun b hb => ?_⟩
          walk_at "go"
          refine ⟨by decide, fun q hq2 => ?_⟩
          have sb := same_new (o := .tup [.int ((run (stp L) z (wd sg l1) : Nat) : Int), .int ((run (stp L) z (wd sg l2) : Nat) : Int)]) hb
          have sq := same_new (o := .tup [.str (S (cod sg ws[z])), .str "", .ref b]) hq2
          have s9 := ((s7.trans s8).trans sb).trans sq
          walk_at "go"
          have l6 := Paired.length E6
          have hhl := heads_len (ws.take z) s
          rw [List.length_append] at l6
          rw [List.length_take] at hhl
          refine r_app' (s9 _ _ h6) (by omega) ?_
          walk_at "go"
          have k9 := same_kt s9
          have kl := kt_updL (o := .lst (xs6 ++ [.ref q])) (s9 _ _ h6)
          have hne : hq ≠ sd := fun e => by
            obtain ⟨kvs, h, _⟩ := M6
            rw [← e, h6] at h
            cases h
          have hnw : hq ≠ wq := hqw
          refine ⟨xs6 ++ [.ref q], _, rfl, same_mut (s6.trans s9) hq0, upd_same, ?_, (M6.same s9).upd hne.symm, by rw [upd_ne hnw.symm]; exact s9 _ _ hwq6, hz⟩
          rw [htk, heads_snoc, if_pos he', ← List.append_assoc]
          refine Paired.snoc (E6.kt (k9.trans kl)) ⟨q, b, rfl, kl _ _ upd_same, ?_⟩
          have e0 : prC L (wd sg l1) (wd sg l2) (ws[z], []) = (run (stp L) z (wd sg l1), run (stp L) z (wd sg l2)) := by
            unfold prC
            rw [WD.at_ z _ hwz]
            rfl
          rw [e0]
          exact kl _ _ (sq _ _ upd_same)
        · walk_at "go"
          refine ⟨xs6, _, rfl, s6, h6, ?_, M6, hwq6, hz⟩
          rw [htk, heads_snoc, if_neg (by omega), List.append_nil]
          exact E6
      rintro σ6 H6 ⟨xs6, v9, rfl, s6, h6, E6, M6, hwq6, _⟩
      rw [List.take_length] at E6
      obtain ⟨fsrt, fmem⟩ := I5.full HD
      have lfx := Paired.length E6
      have lfl : (here ++ heads ws s).length ≤ 20000 := by
        have := heads_len ws s
        rw [List.length_append]
        omega
      walk_at "go"
      refine ⟨by decide, fun fl hfl => ?_⟩
      walk_at "go"
      have sfl := same_new (o := .lst []) hfl
      have hfq : hq ≠ fl := ne_of_none h6 hfl
      have fl0 : H fl = none := s6.free hfl
      refine ⟨hq, rfl, ⟨_, SqL.of (sfl _ _ h6)⟩, ?_⟩
      refine fo_L (xs := xs6) (fun i σ H' => ∃ (seen2 : List (Nat × Nat)) (fr : List Cw) (ys : List V) (u11 u12 u13 : Option V), σ = [some (.ref p), some (.str (S l1)), some (.str (S l2)), some wn, some (.ref wq), some (.int ((lg : Nat) : Int)), some (.ref sd), some (.ref hq), some (.int ((s : Nat) : Int)), v9, some (.ref fl), u11, u12, u13] ∧ Same H H' ∧ Kt H6 H' ∧ H' hq = some (.lst xs6) ∧ H' fl = some (.lst ys) ∧ EntL sg (prC L (wd sg l1) (wd sg l2)) H' fr ys ∧ MapP H' sd seen2.length (seenM seen2) ∧ seen2.Nodup ∧ (∀ z ∈ seen2, z.1 < L.length ∧ z.2 < L.length) ∧ Scan (prC L (wd sg l1) (wd sg l2)) (want both E') seen (here ++ heads ws s) i seen2 fr ∧ seen2.length = seen.length + fr.length ∧ H' wq = some (.lst (ws.map fun x => .str (S (cod sg x)))))
        ⟨seen, [], [], _, _, _, rfl, s6.trans sfl, same_kt sfl, sfl _ _ h6, upd_same, .nil, M6.same sfl, nd5, lt5, Scan.begin I5, rfl, sfl _ _ hwq6⟩ (fun i σ H' _ ⟨_, _, _, _, _, _, _, _, _, h, _⟩ => SqL.of h) ?_ ?_
      · rintro i x σ H7 hx ⟨seen2, fr, ys, w11, w12, w13, rfl, s7, k67, h7, hf7, F7, M7, nd7, lt7, SC, l27, hwq7⟩
        have hi : i < (here ++ heads ws s).length := by
          have := (List.getElem?_eq_some_iff.mp hx).1
          omega
        have hfi : (here ++ heads ws s)[i]? = some (here ++ heads ws s)[i] := List.getElem?_eq_some_iff.mpr ⟨hi, rfl⟩
        obtain ⟨x', hx', q, b, rfl, hqT, hbT⟩ := paired_get E6 hfi
        rw [hx] at hx'
        cases hx'
        generalize (here ++ heads ws s)[i] = e at hfi hqT hbT
        have hem := fmem e (List.mem_of_getElem? hfi)
        have hpl := prC_lt Tb (wd_ltk pl1) (wd_ltk pl2) hem.1
        have lsn7 := nd_pairs nd7 lt7
        refine r_gtup (SqT.of (k67 _ _ hqT)) rfl ?_
        walk_at "go"
        have hb7 : PairT H7 b (prC L (wd sg l1) (wd sg l2) e) := k67 _ _ hbT
        refine ⟨sd, _, rfl, M7.dget hb7, ?_⟩
        walk_at "go"
        refine iteB (fun hn => ?_) (fun hn => ?_)
        · have hnew := seenM_none.mp hn
          walk_at "go"
          obtain ⟨H8, P8, M8, o8, e8⟩ := M7.put hb7 (.bl true) (by omega)
          refine ⟨sd, H8, rfl, P8, ?_⟩
          have s8 : Same H H8 := by
            rw [e8]
            exact same_mut s7 sd0
          have k78 : Kt H7 H8 := by
            rw [e8]
            exact M7.kt
          have nsd : ∀ {c : Addr} {zs : List V}, H7 c = some (.lst zs) → H8 c = some (.lst zs) := fun {c zs} hc => by
            rw [e8, upd_ne (fun z => by
              obtain ⟨kvs, h, _⟩ := M7
              rw [← z, hc] at h
              cases h)]
            exact hc
          have hb8 := k78 _ _ hb7
          have RE8 := RE.kp (same_kp s8)
          walk_at "go"
          refine r_ixT (SqT.of hb8) rfl ?_
          walk_at "go"
          refine ⟨p, _, dx, _, _, rfl, s8 _ _ hp, c_Walk T, n_Walk_goals T, rfl, ?_⟩
          refine r_inRow RE8 ?_
          walk_at "go"
          refine r_ixT (SqT.of hb8) rfl ?_
          walk_at "go"
          refine ⟨p, _, dx, _, _, rfl, s8 _ _ hp, c_Walk T, n_Walk_goals T, rfl, ?_⟩
          refine r_inRow RE8 ?_
          walk_at "go"
          refine ⟨by decide, fun c hc => ?_⟩
          have sc := same_new (o := .tup [.bl (decide ((prC L (wd sg l1) (wd sg l2) e).1 ∈ E')), .bl (decide ((prC L (wd sg l1) (wd sg l2) e).2 ∈ E'))]) hc
          walk_at "go"
          refine ⟨.tuple [.bool (decide ((prC L (wd sg l1) (wd sg l2) e).1 ∈ E')), .bool (decide ((prC L (wd sg l1) (wd sg l2) e).2 ∈ E'))], wnD both, .tup (SqT.of upd_same) (.cons (.bl _) (.cons (.bl _) .nil)), Dp.same (s8.trans sc) hwn, bb_shp _ _, wn_shp _, ?_⟩
          rw [wn_any both E' (prC L (wd sg l1) (wd sg l2) e)]
          walk_at "go"
          refine iteB (fun hg => ?_) (fun hg => ?_)
          · walk_at "go"
            refine ⟨by decide, fun r hr2 => ?_⟩
            have te : e.1.length + e.2.length = s := hem.2
            exact k _ (some e) _ ((s8.trans sc).trans (same_new hr2)) (SC.found I5 HD hfi hg) ⟨⟨r, rfl, upd_same⟩, by omega, by omega⟩
          · walk_at "go"
            have hf8 := sc _ _ (nsd hf7)
            refine ⟨r_tyL hf8, ?_⟩
            walk_at "go"
            refine ⟨by decide, fun q2 hq2 => ?_⟩
            have sq2 := same_new (o := .tup [.str (S (cod sg e.1)), .str (S (cod sg e.2)), .ref b]) hq2
            walk_at "go"
            have lF := Paired.length F7
            refine r_app' (sq2 _ _ hf8) (by omega) ?_
            walk_at "go"
            have k89 := (same_kt sc).trans (same_kt sq2)
            have kl := kt_updL (o := .lst (ys ++ [.ref q2])) (sq2 _ _ hf8)
            have s9 := (s8.trans sc).trans sq2
            have fne : sd ≠ fl := fun z => by
              obtain ⟨kvs, h, _⟩ := M7
              rw [z, hf7] at h
              cases h
            refine ⟨seen2 ++ [prC L (wd sg l1) (wd sg l2) e], fr ++ [e], ys ++ [.ref q2], _, _, _, rfl, same_mut s9 fl0, ((k67.trans k78).trans k89).trans kl, by rw [upd_ne hfq]; exact sq2 _ _ (sc _ _ (nsd h7)), upd_same, ?_, ?_, ?_, ?_, SC.add hfi hg, by rw [List.length_append, List.length_append, l27]; simp; omega, ?_⟩
            · exact Paired.snoc (F7.kt ((k78.trans k89).trans kl)) ⟨q2, b, rfl, kl _ _ upd_same, (k89.trans kl) _ _ hb8⟩
            · rw [List.length_append]
              exact (((M8.same sc).same sq2).upd fne).ext fun z => seenM_add z
            · exact List.nodup_append.mpr ⟨nd7, by simp, fun a ha b hb e2 => hnew (by rw [← List.mem_singleton.mp hb, ← e2]; exact ha)⟩
            · intro z hz
              rcases List.mem_append.mp hz with g | g
              · exact lt7 z g
              · rw [List.mem_singleton.mp g]
                exact hpl
            · have : wq ≠ fl := ne_of_none hwq6 hfl
              rw [upd_ne this]
              exact sq2 _ _ (sc _ _ (nsd hwq7))
        · have hold : prC L (wd sg l1) (wd sg l2) e ∈ seen2 := by
            refine Classical.byContradiction fun z => ?_
            rw [seenM_none.mpr z] at hn
            cases hn
          walk_at "go"
          exact ⟨seen2, fr, ys, _, _, _, rfl, s7, k67, h7, hf7, F7, M7, nd7, lt7, SC.skip fsrt hfi hold, l27, hwq7⟩
      rintro σ H7 ⟨seen2, fr, ys, w11, w12, w13, rfl, s7, k67, h7, hf7, F7, M7, nd7, lt7, SC, l27, hwq7⟩
      have lsn7 := nd_pairs nd7 lt7
      have frs : ∀ e ∈ fr, CL sg.length e ∧ tot e = s := fun e he => fmem e (List.mem_of_mem_take (SC.sub.subset he))
      walk_at "go"
      refine ⟨p, fl, sg, L, E', prC L (wd sg l1) (wd sg l2), fr, ys, rfl, W.same s7, Tb, h12, hf7, F7, by omega, fun e he => ?_, HD.step, fun q2 zs H8 s8 hq20 h8 E8 => ?_⟩
      · obtain ⟨c1, c2⟩ := frs e he
        obtain ⟨d1, d2⟩ := prC_lt Tb (wd_ltk pl1) (wd_ltk pl2) c1
        unfold tot at c2
        exact ⟨d1, d2, by omega⟩
      walk_at "go"
      rw [show ((s : Nat) : Int) + 1 = ((s + 1 : Nat) : Int) by omega]
      have le8 := exts_len sg.length fr
      have lb : fr.length * sg.length ≤ 1600 * 12 := Nat.mul_le_mul (by omega) h12
      have hm' : 2 * (1601 - seen2.length) + (lg + 1 - (s + 1)) + (if exts sg.length fr = [] then 0 else 1) < m := by
        rw [hm, l27]
        cases fr with
        | nil =>
          rw [show exts sg.length [] = [] from rfl, if_pos rfl]
          simp only [List.length_nil, Nat.add_zero]
          rcases hcase with g | g
          · rw [if_neg g]
            omega
          · split <;> omega
        | cons e fr =>
          simp only [List.length_cons] at l27 ⊢
          split <;> (try split) <;> omega
      refine ⟨_, hm', seen2, exts sg.length fr, s + 1, q2, zs, _, _, _, _, _, rfl, by omega, rfl, s7.trans s8, s7.free hq20, (ne_of_none hwq7 hq20).symm, h8, E8, by omega, M7.same s8, nd7, lt7, SC.next (by rw [lfx]; exact Nat.le_refl _) I5 HD, s8 _ _ hwq7⟩
    · walk_at "go"
      subst hxs
      exact k .non none H5 s5 (I5.stop HD fun x hx => by have := hlg x hx; omega) rfl
end

end K18
end
section
set_option maxRecDepth 100000
set_option maxHeartbeats 4000000
local macro_rules | `(tactic| walk_at "go1") => `(tactic| first
  | (with_reducible refine K18.r_seq ?_) | (with_reducible refine K18.r_ifs ?_) | (with_reducible refine K18.r_ret ?_) | (with_reducible refine K18.r_asg ?_) | (with_reducible refine K18.r_drop ?_) | (with_reducible refine K18.r_next ?_)
  | (with_reducible refine K18.r_name ?_) | (with_reducible refine K18.r_var rfl ?_) | (with_reducible refine K18.r_c ?_) | (with_reducible refine K18.r_op ?_) | (with_reducible refine K18.r_cons ?_) | (with_reducible refine K18.r_nil ?_)
  | (with_reducible refine K18.r_cb ?_) | (with_reducible refine K18.r_call ?_) | (with_reducible refine K18.r_make ?_) | (with_reducible refine K18.r_B ?_) | (with_reducible refine K18.r_test ?_) | (with_reducible refine K18.r_or ?_) | (with_reducible refine K18.r_and ?_) | (with_reducible refine K18.r_not ?_)
  | (with_reducible refine K18.r_andV ?_) | (with_reducible refine K18.r_orV ?_) | (with_reducible refine K18.r_notV ?_) | (with_reducible refine K18.r_if ?_) | (with_reducible refine K18.r_aug rfl ?_) | (with_reducible refine K18.r_ip ?_)
  | (with_reducible refine K18.r_I0 ?_) | (with_reducible refine K18.r_int1 ?_) | (with_reducible refine K18.r_mod (by first | decide | omega) ?_) | (with_reducible refine K18.r_fdivN (by first | decide | omega) (by first | decide | omega) ?_) | (with_reducible refine K18.r_mulR (by first | decide | omega) (by first | decide | omega) ?_) | (with_reducible refine K18.r_mulL (by first | decide | omega) (by first | decide | omega) ?_) | (with_reducible refine K18.r_inG ?_) | (with_reducible refine K18.r_notInG ?_) | (with_reducible refine K18.r_ltS ?_) | (with_reducible refine K18.r_ex ?_) | (with_reducible refine K18.r_eqI ?_) | (with_reducible refine K18.r_neI ?_) | (with_reducible refine K18.r_eqB ?_) | (with_reducible refine K18.r_neB ?_) | (with_reducible refine K18.r_isN ?_)
  | (with_reducible refine K18.r_tup ?_) | (with_reducible refine K18.r_lst ?_) | (with_reducible refine K18.r_yes ?_) | (with_reducible refine K18.r_gsub ?_) | (with_reducible refine K18.r_dget ?_) | (with_reducible refine K18.r_sl ?_) | (with_reducible refine K18.r_part ?_) | (with_reducible refine K18.r_nopart ?_)
  | (with_reducible refine K18.r_chain ?_) | (with_reducible refine K18.r_bm ?_) | (with_reducible refine K18.iteT ?_) | (with_reducible refine K18.iteF ?_) | (with_reducible refine K18.iteNT ?_) | (with_reducible refine K18.iteNF ?_)
  | (with_reducible refine K18.r_for ?_) | (with_reducible refine K18.r_while ?_) | (with_reducible refine K18.r_lc ?_) | (with_reducible refine K18.r_iR1 ?_) | (with_reducible refine K18.r_iR2 ?_) | (with_reducible refine K18.r_iL ?_) | (with_reducible refine K18.r_iT ?_) | (with_reducible refine K18.r_iS ?_)
  | dsimp only [L2.start, List.map, List.replicate, List.length, List.cons_append, List.nil_append, List.append_nil, Nat.reduceAdd, Nat.reduceSub, List.set])
local macro_rules | `(tactic| walk_at "go") => `(tactic| repeat walk_at "go1")
local macro_rules | `(tactic| walk_at "go1") => `(tactic| first
  | (with_reducible refine K18.r_dnotin ?_) | (with_reducible refine K18.r_din ?_) | (with_reducible refine K18.r_dput ?_) | (with_reducible refine K18.r_dnewK ?_) | (with_reducible refine K18.r_dnewT ?_)
  | (with_reducible refine K18.r_gtup ?_) | (with_reducible refine K18.r_gcons ?_) | (with_reducible refine K18.r_gnil ?_) | (with_reducible refine K18.r_iAny ?_) | (with_reducible refine K18.r_lenZ (by first | assumption | omega) ?_))
local macro_rules | `(tactic| walk_at "go1") => `(tactic| first
  | (with_reducible refine K18.r_notN ?_) | (with_reducible refine K18.r_truth ?_))
namespace K18
open PySem PySem.Spec PyProof.Rows L2
local macro_rules | `(tactic| walk_at "go1") => `(tactic| first
  | (with_reducible refine K18.r_dc ?_) | (with_reducible refine K18.r_fld ?_) | (with_reducible refine K18.r_gfld ?_) | (with_reducible refine K18.r_sfld ?_) | (with_reducible refine K18.r_meth ?_))
theorem CtxO.keep {sg : List Nat} {H H' : Hp} {v : V} {o : Option Cw} (h : CtxO sg H v o) (e : Kt H H') : CtxO sg H' v o := by
  cases o with
  | none => exact h
  | some c =>
    obtain ⟨⟨q, h1, h2⟩, h3⟩ := h
    exact ⟨⟨q, h1, e _ _ h2⟩, h3⟩
section
variable {P : Program} {w : World} {K : PySem.W.Frag} {mg : Str → Option Value} {base : Heap}
/-- what a maker is given, and what it leaves -/
def spObj (K : PySem.W.Frag) (cn : Str) (both : Bool) : Sp := fun vs H Q _ => ∃ (o dx p : Addr) (sg l1 l2 : List Nat) (acc : Wd → Bool) (L : List (List Nat)) (E : List Nat), vs = [.ref o, .ref p, .str (S l1), .str (S l2)] ∧ H o = some (.ins (He.ga K cn) dx []) ∧ WalkO K H p sg L E ∧ Least sg.length acc L E ∧ L.length ≤ 40 ∧ sg.length ≤ 12 ∧ sg.Pairwise (· < ·) ∧ Pap sg l1 ∧ Pap sg l2 ∧ l1.length ≤ 60 ∧ l2.length ≤ 60 ∧
  ∀ v c H', SB o H H' → H' o = some (.ins (He.ga K cn) dx [("context", v)]) → LeastC sg.length (wantC L E both (wd sg l1) (wd sg l2)) c → CtxO sg H' v c → Q .non H'
theorem sc_Blind___init__ : FnScope ["self", "walk", "first", "second"] ["self", "walk", "first", "second"] (defScope s_Blind___init__) := ⟨rfl, rfl, rfl, by decide +kernel, rfl, by decide +kernel, by decide +kernel⟩
theorem ok_Blind___init__ (T : Tx K mg) : I1 P w K mg base CX0 4 "Blind" ["self", "walk", "first", "second"] (spObj K "Blind" false) := by
  obtain ⟨fd, F⟩ := d_Blind___init__ T
  refine .mk1 F (k_Blind T) (g_Blind T) (fun _ _ _ _ _ _ us hl => match us, hl with | [_, _, _, _], _ => rfl) sc_Blind___init__ (fun vs H Q E h => ?_) (fun cdv A outer s H vs Q E hr h => ?_)
  · obtain ⟨o, dx, p, sg, l1, l2, acc, L, E', rfl, ho, W, LE, hL, h12, asc, pl1, pl2, n1, n2, k⟩ := h
    rfl
  obtain ⟨o, dx, p, sg, l1, l2, acc, L, E', rfl, ho, W, LE, hL, h12, asc, pl1, pl2, n1, n2, k⟩ := h
  have hu := hu_of hr
  have hu64 := hu64_of hr
  have hu6 := hu64' hr
  refine ⟨_, (pss_cons (ps_expr (pe_c1 (ok_check_paper T) (hr.mono (by decide)) (by rfl) (pa_cons (pe_fldK K (by rfl) (pv 1)) (pa_cons (pv 2) pa_nil))))
      (pss_cons (ps_expr (pe_c1 (ok_check_paper T) (hr.mono (by decide)) (by rfl) (pa_cons (pe_fldK K (by rfl) (pv 1)) (pa_cons (pv 3) pa_nil))))
      (pss_one (ps_fldK K (by rfl) (pv 0) (pe_c1 (ok_least_context T) (hr.mono (by decide)) (by rfl) (pa_cons (pv 1) (pa_cons (pv 2) (pa_cons (pv 3) (pa_cons (pe_tup (pa_cons (pe_tup (pa_cons pe_bl (pa_cons pe_bl pa_nil))) (pa_cons (pe_tup (pa_cons pe_bl (pa_cons pe_bl pa_nil))) pa_nil))) pa_nil))))) rfl)))), ?_⟩
  walk_at "go"
  obtain ⟨dw, vl, ve, hp, RL, RE⟩ := id W
  refine ⟨p, _, dw, _, _, rfl, hp, c_Walk T, n_Walk_signs T, rfl, ?_⟩
  walk_at "go"
  refine ⟨sg, l1, rfl, pl1, n1, fun H1 s1 => ?_⟩
  walk_at "go"
  refine ⟨p, _, dw, _, _, rfl, s1 _ _ hp, c_Walk T, n_Walk_signs T, rfl, ?_⟩
  walk_at "go"
  refine ⟨sg, l2, rfl, pl2, n2, fun H2 s2 => ?_⟩
  walk_at "go"
  refine ⟨by decide, fun q1 hq1 => ?_⟩
  walk_at "go"
  refine ⟨by decide, fun q2 hq2 => ?_⟩
  walk_at "go"
  refine ⟨by decide, fun q3 hq3 => ?_⟩
  walk_at "go"
  have a1 := same_new (o := .tup [.bl true, .bl false]) hq1
  have a2 := same_new (o := .tup [.bl false, .bl true]) hq2
  have a3 := same_new (o := .tup [.ref q1, .ref q2]) hq3
  have s3 := (((s1.trans s2).trans a1).trans a2).trans a3
  refine ⟨p, .ref q3, sg, l1, l2, acc, L, E', false, rfl, W.same s3, LE, hL, h12, asc, pl1, pl2, n1, n2, .tup (SqT.of upd_same) (.cons (.tup (SqT.of ((a2.trans a3) _ _ upd_same)) (.cons (.bl _) (.cons (.bl _) .nil))) (.cons (.tup (SqT.of (a3 _ _ upd_same)) (.cons (.bl _) (.cons (.bl _) .nil))) .nil)), fun v c H' s' LC CO => ?_⟩
  walk_at "go"
  have ho' := (s3.trans s') _ _ ho
  refine ⟨o, _, dx, _, rfl, ho', c_Blind T, n_Blind_context T, by decide, ?_⟩
  walk_at "go"
  exact k v c _ ((same_sb (s3.trans s')).mut (.inl rfl)) upd_same LC (CO.keep (kt_upd fun xs z => by rw [ho'] at z; cases z))
theorem sc_Seeing___init__ : FnScope ["self", "walk", "first", "second"] ["self", "walk", "first", "second"] (defScope s_Seeing___init__) := ⟨rfl, rfl, rfl, by decide +kernel, rfl, by decide +kernel, by decide +kernel⟩
theorem ok_Seeing___init__ (T : Tx K mg) : I1 P w K mg base CX0 4 "Seeing" ["self", "walk", "first", "second"] (spObj K "Seeing" true) := by
  obtain ⟨fd, F⟩ := d_Seeing___init__ T
  refine .mk1 F (k_Seeing T) (g_Seeing T) (fun _ _ _ _ _ _ us hl => match us, hl with | [_, _, _, _], _ => rfl) sc_Seeing___init__ (fun vs H Q E h => ?_) (fun cdv A outer s H vs Q E hr h => ?_)
  · obtain ⟨o, dx, p, sg, l1, l2, acc, L, E', rfl, ho, W, LE, hL, h12, asc, pl1, pl2, n1, n2, k⟩ := h
    rfl
  obtain ⟨o, dx, p, sg, l1, l2, acc, L, E', rfl, ho, W, LE, hL, h12, asc, pl1, pl2, n1, n2, k⟩ := h
  have hu := hu_of hr
  have hu64 := hu64_of hr
  have hu6 := hu64' hr
  refine ⟨_, (pss_cons (ps_expr (pe_c1 (ok_check_paper T) (hr.mono (by decide)) (by rfl) (pa_cons (pe_fldK K (by rfl) (pv 1)) (pa_cons (pv 2) pa_nil))))
      (pss_cons (ps_expr (pe_c1 (ok_check_paper T) (hr.mono (by decide)) (by rfl) (pa_cons (pe_fldK K (by rfl) (pv 1)) (pa_cons (pv 3) pa_nil))))
      (pss_one (ps_fldK K (by rfl) (pv 0) (pe_c1 (ok_least_context T) (hr.mono (by decide)) (by rfl) (pa_cons (pv 1) (pa_cons (pv 2) (pa_cons (pv 3) (pa_cons (pe_tup (pa_cons (pe_tup (pa_cons pe_bl (pa_cons pe_bl pa_nil))) pa_nil)) pa_nil))))) rfl)))), ?_⟩
  walk_at "go"
  obtain ⟨dw, vl, ve, hp, RL, RE⟩ := id W
  refine ⟨p, _, dw, _, _, rfl, hp, c_Walk T, n_Walk_signs T, rfl, ?_⟩
  walk_at "go"
  refine ⟨sg, l1, rfl, pl1, n1, fun H1 s1 => ?_⟩
  walk_at "go"
  refine ⟨p, _, dw, _, _, rfl, s1 _ _ hp, c_Walk T, n_Walk_signs T, rfl, ?_⟩
  walk_at "go"
  refine ⟨sg, l2, rfl, pl2, n2, fun H2 s2 => ?_⟩
  walk_at "go"
  refine ⟨by decide, fun q1 hq1 => ?_⟩
  walk_at "go"
  refine ⟨by decide, fun q3 hq3 => ?_⟩
  walk_at "go"
  have a1 := same_new (o := .tup [.bl true, .bl true]) hq1
  have a3 := same_new (o := .tup [.ref q1]) hq3
  have s3 := ((s1.trans s2).trans a1).trans a3
  refine ⟨p, .ref q3, sg, l1, l2, acc, L, E', true, rfl, W.same s3, LE, hL, h12, asc, pl1, pl2, n1, n2, .tup (SqT.of upd_same) (.cons (.tup (SqT.of (a3 _ _ upd_same)) (.cons (.bl _) (.cons (.bl _) .nil))) .nil), fun v c H' s' LC CO => ?_⟩
  walk_at "go"
  have ho' := (s3.trans s') _ _ ho
  refine ⟨o, _, dx, _, rfl, ho', c_Seeing T, n_Seeing_context T, by decide, ?_⟩
  walk_at "go"
  exact k v c _ ((same_sb (s3.trans s')).mut (.inl rfl)) upd_same LC (CO.keep (kt_upd fun xs z => by rw [ho'] at z; cases z))
/-- bool(..) of an object: is there no context -/
def spBoolO (K : PySem.W.Frag) (cn : Str) : Sp := fun vs H Q _ => ∃ (o dx : Addr) (v : V), vs = [.ref o] ∧ H o = some (.ins (He.ga K cn) dx [("context", v)]) ∧ Q (.bl (decide (v = .non))) H
theorem sc_Blind___bool__ : FnScope ["self"] ["self"] (defScope s_Blind___bool__) := ⟨rfl, rfl, rfl, by decide +kernel, rfl, by decide +kernel, by decide +kernel⟩
theorem ok_Blind___bool__ (T : Tx K mg) : M1 P w K mg base CX0 1 (He.ga K "Blind") "__bool__" ["self"] (spBoolO K "Blind") := by
  obtain ⟨fd, F⟩ := d_Blind___bool__ T
  refine .mk1 F (m_Blind___bool__ T) (c_Blind T) (fun _ _ _ _ _ _ us hl => match us, hl with | [_], _ => rfl) sc_Blind___bool__ (fun vs H Q E h => ?_) (fun cdv A outer s H vs Q E hr h => ?_)
  · obtain ⟨o, dx, v, rfl, ho, k⟩ := h
    rfl
  obtain ⟨o, dx, v, rfl, ho, k⟩ := h
  have hu := hu_of hr
  have hu64 := hu64_of hr
  have hu6 := hu64' hr
  refine ⟨_, (pss_one (ps_ret (pe_callTy call_bool1 (by rfl) (f_bool T) (by decide +kernel) (pa_cons (pe_cmpR op_isN (pe_fldK K (by rfl) (pv 0)) pe_non (nomark _)) pa_nil)))), ?_⟩
  walk_at "go"
  refine ⟨o, _, dx, _, _, rfl, ho, c_Blind T, n_Blind_context T, rfl, ?_⟩
  walk_at "go"
  refine ⟨rfl, ?_⟩
  walk_at "go"
  exact .inr ⟨_, rfl, k⟩
theorem sc_Seeing___bool__ : FnScope ["self"] ["self"] (defScope s_Seeing___bool__) := ⟨rfl, rfl, rfl, by decide +kernel, rfl, by decide +kernel, by decide +kernel⟩
theorem ok_Seeing___bool__ (T : Tx K mg) : M1 P w K mg base CX0 1 (He.ga K "Seeing") "__bool__" ["self"] (spBoolO K "Seeing") := by
  obtain ⟨fd, F⟩ := d_Seeing___bool__ T
  refine .mk1 F (m_Seeing___bool__ T) (c_Seeing T) (fun _ _ _ _ _ _ us hl => match us, hl with | [_], _ => rfl) sc_Seeing___bool__ (fun vs H Q E h => ?_) (fun cdv A outer s H vs Q E hr h => ?_)
  · obtain ⟨o, dx, v, rfl, ho, k⟩ := h
    rfl
  obtain ⟨o, dx, v, rfl, ho, k⟩ := h
  have hu := hu_of hr
  have hu64 := hu64_of hr
  have hu6 := hu64' hr
  refine ⟨_, (pss_one (ps_ret (pe_callTy call_bool1 (by rfl) (f_bool T) (by decide +kernel) (pa_cons (pe_cmpR op_isN (pe_fldK K (by rfl) (pv 0)) pe_non (nomark _)) pa_nil)))), ?_⟩
  walk_at "go"
  refine ⟨o, _, dx, _, _, rfl, ho, c_Seeing T, n_Seeing_context T, rfl, ?_⟩
  walk_at "go"
  refine ⟨rfl, ?_⟩
  walk_at "go"
  exact .inr ⟨_, rfl, k⟩
end

end K18
end
section
set_option maxRecDepth 100000
set_option maxHeartbeats 4000000
local macro_rules | `(tactic| walk_at "go1") => `(tactic| first
  | (with_reducible refine K18.r_seq ?_) | (with_reducible refine K18.r_ifs ?_) | (with_reducible refine K18.r_ret ?_) | (with_reducible refine K18.r_asg ?_) | (with_reducible refine K18.r_drop ?_) | (with_reducible refine K18.r_next ?_)
  | (with_reducible refine K18.r_name ?_) | (with_reducible refine K18.r_var rfl ?_) | (with_reducible refine K18.r_c ?_) | (with_reducible refine K18.r_op ?_) | (with_reducible refine K18.r_cons ?_) | (with_reducible refine K18.r_nil ?_)
  | (with_reducible refine K18.r_cb ?_) | (with_reducible refine K18.r_call ?_) | (with_reducible refine K18.r_make ?_) | (with_reducible refine K18.r_B ?_) | (with_reducible refine K18.r_test ?_) | (with_reducible refine K18.r_or ?_) | (with_reducible refine K18.r_and ?_) | (with_reducible refine K18.r_not ?_)
  | (with_reducible refine K18.r_andV ?_) | (with_reducible refine K18.r_orV ?_) | (with_reducible refine K18.r_notV ?_) | (with_reducible refine K18.r_if ?_) | (with_reducible refine K18.r_aug rfl ?_) | (with_reducible refine K18.r_ip ?_)
  | (with_reducible refine K18.r_I0 ?_) | (with_reducible refine K18.r_int1 ?_) | (with_reducible refine K18.r_mod (by first | decide | omega) ?_) | (with_reducible refine K18.r_fdivN (by first | decide | omega) (by first | decide | omega) ?_) | (with_reducible refine K18.r_mulR (by first | decide | omega) (by first | decide | omega) ?_) | (with_reducible refine K18.r_mulL (by first | decide | omega) (by first | decide | omega) ?_) | (with_reducible refine K18.r_inG ?_) | (with_reducible refine K18.r_notInG ?_) | (with_reducible refine K18.r_ltS ?_) | (with_reducible refine K18.r_ex ?_) | (with_reducible refine K18.r_eqI ?_) | (with_reducible refine K18.r_neI ?_) | (with_reducible refine K18.r_eqB ?_) | (with_reducible refine K18.r_neB ?_) | (with_reducible refine K18.r_isN ?_)
  | (with_reducible refine K18.r_tup ?_) | (with_reducible refine K18.r_lst ?_) | (with_reducible refine K18.r_yes ?_) | (with_reducible refine K18.r_gsub ?_) | (with_reducible refine K18.r_dget ?_) | (with_reducible refine K18.r_sl ?_) | (with_reducible refine K18.r_part ?_) | (with_reducible refine K18.r_nopart ?_)
  | (with_reducible refine K18.r_chain ?_) | (with_reducible refine K18.r_bm ?_) | (with_reducible refine K18.iteT ?_) | (with_reducible refine K18.iteF ?_) | (with_reducible refine K18.iteNT ?_) | (with_reducible refine K18.iteNF ?_)
  | (with_reducible refine K18.r_for ?_) | (with_reducible refine K18.r_while ?_) | (with_reducible refine K18.r_lc ?_) | (with_reducible refine K18.r_iR1 ?_) | (with_reducible refine K18.r_iR2 ?_) | (with_reducible refine K18.r_iL ?_) | (with_reducible refine K18.r_iT ?_) | (with_reducible refine K18.r_iS ?_)
  | dsimp only [L2.start, List.map, List.replicate, List.length, List.cons_append, List.nil_append, List.append_nil, Nat.reduceAdd, Nat.reduceSub, List.set])
local macro_rules | `(tactic| walk_at "go") => `(tactic| repeat walk_at "go1")
local macro_rules | `(tactic| walk_at "go1") => `(tactic| first
  | (with_reducible refine K18.r_dnotin ?_) | (with_reducible refine K18.r_din ?_) | (with_reducible refine K18.r_dput ?_) | (with_reducible refine K18.r_dnewK ?_) | (with_reducible refine K18.r_dnewT ?_)
  | (with_reducible refine K18.r_gtup ?_) | (with_reducible refine K18.r_gcons ?_) | (with_reducible refine K18.r_gnil ?_) | (with_reducible refine K18.r_iAny ?_) | (with_reducible refine K18.r_lenZ (by first | assumption | omega) ?_))
local macro_rules | `(tactic| walk_at "go1") => `(tactic| first
  | (with_reducible refine K18.r_notN ?_) | (with_reducible refine K18.r_truth ?_))
namespace K18
open PySem PySem.Spec PyProof.Rows L2
/-! ### bool(x), x an object with its own __bool__ -/
open PySem.Builtin in
theorem bool_obj {prog : Program} {w : World} {A : Around} {E : Value → Shared → Prop} {s : Shared} {x : Addr} {Q : Value → Shared → Prop} (ht : wpAny (model prog w) A.in1.in1 (truthy (.ref x)) (fun b s' => Q (.bool b) s') E s) : wpAny (model prog w) A (call (.type "bool") [.ref x]) Q E s := by
  have ft := F.called_bool
  obtain ⟨c, tl, hmro⟩ := ft.mro
  have hmade := ft.made
  have hsub := ft.sub
  have hct := F.typeCall_bool_1 (.ref x)
  refine wpAny_call (codeAny_of_tree ?_)
  show wpAny _ _ (callAny (.type "bool") _) _ _ _
  refine wpAny_pure ⟨Code.quiet_builtin _ (by decide +kernel), codeAny_builtin F.entry_type_call ?_⟩
  rw [Around.under_plain (weight_type_call_type "bool" _ []) (units_type_call_type "bool" _ [])]
  have h1 := ft.notType
  have h2 := ft.canCreate
  repeat (any_goals (first | assumption | wp_step))
  refine codeAny_mono (R := wants (fun obj s₁ => s₁.TypeIs obj "bool" ∧ Q obj s₁) E) (codeAny_call_builtin ft.plain F.entry_bool_new (wpAny_of_eq (F.newCall_bool_1 (.ref x)) ?g)) fun r s₁ hr => ?_
  case g =>
    obtain ⟨hp, g, d, tk, os⟩ := s
    have f1 := F.conv_sub_bool
    have key : ∀ {Q' : Bool → Shared → Prop}, (∀ b s', Q (.bool b) s' → Q' b s') → wpAny (model prog w) A.in1.in1 (truthy (.ref x)) Q' E ⟨hp, g, d, tk, os⟩ := fun h => wpAny_mono ht (fun b s' q => h b s' q) fun _ _ e => e
    repeat (any_goals (first | assumption | (with_reducible refine key (fun b s' q => ?_)) | wp_step))
    all_goals first | exact ⟨_, rfl, ⟨rfl, q⟩⟩ | exact ⟨rfl, q⟩ | trace_state
  cases r with
  | error e => exact hr
  | ok fl =>
    cases fl with
    | ret obj =>
      obtain ⟨hT, hq⟩ := hr
      have hli := ft.init.lookup
      have hbi := ft.init.bind obj
      repeat (any_goals (first | assumption | wp_step))
      refine codeAny_mono (codeAny_call_builtin ft.init.plain F.entry_object_init (ft.init.check _ _ _ _ _ _ _ _ hT (F.args_object_init_2 obj (.ref x)) (object_init_meets (rest := [.ref x]) ft.init.lookup ft.made F.newNe_bool prog w A.in1 (wants (fun r s₂ => r = .none ∧ Q obj s₂) E) s₁ ⟨hT, rfl, hq⟩))) fun r₂ s₂ hr₂ => ?_
      cases r₂ with
      | error e => exact hr₂
      | ok fl₂ =>
        cases fl₂ with
        | ret r =>
          obtain ⟨rfl, hq⟩ := hr₂
          repeat (any_goals (first | assumption | wp_step))
        | _ => exact hr₂.elim
    | _ => exact hr.elim
theorem call_at {X : Cx} {CX : CXT} {n : Nat} {f a : Addr} {fd : FuncData} {ps : List Str} {sp : Sp} {E : XK} {A : Around} {pins : List (Addr × Obj)} {σ : L2.St} {H : Hp} {s : Shared} {Q : VK} {Qv : Value → Shared → Prop} (F : FnOk X.prog X.w X.K X.mg X.base CX n f fd ps sp) (hb : Binds X.K fd ps []) (hx : Passes CX X E) (sb : Sub X n A) (I : Inv X pins σ H s)
    (h : sp [.ref a] H Q E) (hq : ∀ v u H' s', Inv X pins σ H' s' → RelV v u → Q v H' → Qv u s') : wpAny (model X.prog X.w) A (call (.ref f) [.ref a]) Qv X.xe s := by
  have e0 : Env0 X.prog X.w X.K X.mg X.base A X.stack s H := by
    have e := I.env0
    exact ⟨by rw [sb.fr]; exact e.frames, e.mod, e.bs, e.bsz, e.funs, e.frf, e.hok, e.bare⟩
  have hl := F.len _ _ _ _ h
  have r2 : Vals [V.ref a] [Value.ref a] := .cons rfl .nil
  refine wpAny_call (codeAny_mono (F.run A X.stack s H ⟨[.ref a], []⟩ [.ref a] [.ref a] Q E sb.room e0 (by
    have := hb s [.ref a] I.kIn (by simpa using hl)
    simpa using this) r2 h) fun r s' hq' => ?_)
  cases r with
  | error e => exact hx pins σ H s e s' I hq'
  | ok fl =>
    cases fl with
    | ret u =>
      obtain ⟨z, H', I', rz, ez⟩ := I.after hq'
      exact hq z u H' s' I' rz ez
    | next => exact False.elim hq'
    | brk => exact False.elim hq'
    | cont => exact False.elim hq'
def rBO (K : PySem.W.Frag) : List V → Hp → VK → Prop := fun xs H Q => ∃ (o dx : Addr) (cn : Str) (v : V), xs = [.ref o] ∧ (cn = "Blind" ∨ cn = "Seeing") ∧ H o = some (.ins (He.ga K cn) dx [("context", v)]) ∧ Q (.bl (decide (v = .non))) H
theorem call_bool_own {X : Cx} {n : Nat} (hr : Room (n + 2) X.A) (B : M1 X.prog X.w X.K X.mg X.base CX0 n (He.ga X.K "Blind") "__bool__" ["self"] (spBoolO X.K "Blind")) (Se : M1 X.prog X.w X.K X.mg X.base CX0 n (He.ga X.K "Seeing") "__bool__" ["self"] (spBoolO X.K "Seeing")) : CallR X (.type "bool") (rBO X.K) := by
  intro pins s σ H xs us Q I r h
  obtain ⟨o, dx, cn, v, rfl, hc, ho, q⟩ := h
  obtain ⟨u, rfl, rx⟩ := vals1 r
  obtain rfl : u = .ref o := rx
  have go : ∀ {cn : Str}, H o = some (.ins (He.ga X.K cn) dx [("context", v)]) → M1 X.prog X.w X.K X.mg X.base CX0 n (He.ga X.K cn) "__bool__" ["self"] (spBoolO X.K cn) → wpAny (model X.prog X.w) X.A (call (.type "bool") [.ref o]) (EP X pins σ Q) X.xe s := fun {cn} ho M => by
    obtain ⟨f, fd, F, hm, hcl, hb⟩ := M.ex
    obtain ⟨mA, J, _⟩ := ins_get I.hok ho
    obtain ⟨od, J, _⟩ := J.look
    obtain ⟨m, hF⟩ := I.fr
    refine bool_obj (PySem.W.truthy_K hF I.ok.mod.kin J hm.at_ hm.fn ?_)
    refine call_at (E := E0) F hb pass0 ⟨hr.in1.in1, rfl⟩ I (Q := fun x H' => x = .bl (decide (v = .non)) ∧ Q x H') ⟨o, dx, v, rfl, ho, rfl, q⟩ fun x u H' s' I' rx hx => ?_
    obtain ⟨e, hq⟩ := hx
    subst e
    cases rx
    exact ⟨.bl _, H', I', rfl, hq⟩
  rcases hc with e | e
  · subst e
    exact go ho B
  · subst e
    exact go ho Se
def rLenW (K : PySem.W.Frag) : List V → Hp → VK → Prop := fun xs H Q => ∃ (p : Addr) (sg : List Nat) (L : List (List Nat)) (E : List Nat), xs = [.ref p] ∧ WalkO K H p sg L E ∧ L.length ≤ 1000 ∧ Q (.int ((L.length : Nat) : Int)) H
theorem call_len_own {X : Cx} {n : Nat} (hr : Room (n + 1) X.A) (B : M1 X.prog X.w X.K X.mg X.base CX0 n (He.ga X.K "Walk") "__len__" ["self"] (spLenW X.K)) : CallR X (.builtin "len") (rLenW X.K) := by
  intro pins s σ H xs us Q I r h
  obtain ⟨p, sg, L, E', rfl, W, hl, q⟩ := h
  obtain ⟨u, rfl, rx⟩ := vals1 r
  obtain rfl : u = .ref p := rx
  obtain ⟨f, fd, F, hm, hcl, hb⟩ := B.ex
  obtain ⟨dx, vl, ve, hp, _⟩ := id W
  obtain ⟨mA, J, _⟩ := ins_get I.hok hp
  obtain ⟨od, J, _⟩ := J.look
  obtain ⟨m, hF⟩ := I.fr
  refine PySem.W.len_K hF I.ok.mod.kin J hm.at_ hm.fn ?_
  refine call_at (E := E0) F hb pass0 ⟨hr.in1, rfl⟩ I (Q := fun x H' => x = .int ((L.length : Nat) : Int) ∧ Q x H') ⟨p, sg, L, E', rfl, W, rfl, q⟩ fun x u H' s' I' rx hx => ?_
  obtain ⟨e, hq⟩ := hx
  subst e
  obtain ⟨t, rfl⟩ := rx
  exact ⟨⟨by omega, by omega⟩, .int ((L.length : Nat) : Int), H', I'.tok _, ⟨_, rfl⟩, hq⟩

end K18
end
section
set_option maxRecDepth 100000
set_option maxHeartbeats 4000000
local macro_rules | `(tactic| walk_at "go1") => `(tactic| first
  | (with_reducible refine K18.r_seq ?_) | (with_reducible refine K18.r_ifs ?_) | (with_reducible refine K18.r_ret ?_) | (with_reducible refine K18.r_asg ?_) | (with_reducible refine K18.r_drop ?_) | (with_reducible refine K18.r_next ?_)
  | (with_reducible refine K18.r_name ?_) | (with_reducible refine K18.r_var rfl ?_) | (with_reducible refine K18.r_c ?_) | (with_reducible refine K18.r_op ?_) | (with_reducible refine K18.r_cons ?_) | (with_reducible refine K18.r_nil ?_)
  | (with_reducible refine K18.r_cb ?_) | (with_reducible refine K18.r_call ?_) | (with_reducible refine K18.r_make ?_) | (with_reducible refine K18.r_B ?_) | (with_reducible refine K18.r_test ?_) | (with_reducible refine K18.r_or ?_) | (with_reducible refine K18.r_and ?_) | (with_reducible refine K18.r_not ?_)
  | (with_reducible refine K18.r_andV ?_) | (with_reducible refine K18.r_orV ?_) | (with_reducible refine K18.r_notV ?_) | (with_reducible refine K18.r_if ?_) | (with_reducible refine K18.r_aug rfl ?_) | (with_reducible refine K18.r_ip ?_)
  | (with_reducible refine K18.r_I0 ?_) | (with_reducible refine K18.r_int1 ?_) | (with_reducible refine K18.r_mod (by first | decide | omega) ?_) | (with_reducible refine K18.r_fdivN (by first | decide | omega) (by first | decide | omega) ?_) | (with_reducible refine K18.r_mulR (by first | decide | omega) (by first | decide | omega) ?_) | (with_reducible refine K18.r_mulL (by first | decide | omega) (by first | decide | omega) ?_) | (with_reducible refine K18.r_inG ?_) | (with_reducible refine K18.r_notInG ?_) | (with_reducible refine K18.r_ltS ?_) | (with_reducible refine K18.r_ex ?_) | (with_reducible refine K18.r_eqI ?_) | (with_reducible refine K18.r_neI ?_) | (with_reducible refine K18.r_eqB ?_) | (with_reducible refine K18.r_neB ?_) | (with_reducible refine K18.r_isN ?_)
  | (with_reducible refine K18.r_tup ?_) | (with_reducible refine K18.r_lst ?_) | (with_reducible refine K18.r_yes ?_) | (with_reducible refine K18.r_gsub ?_) | (with_reducible refine K18.r_dget ?_) | (with_reducible refine K18.r_sl ?_) | (with_reducible refine K18.r_part ?_) | (with_reducible refine K18.r_nopart ?_)
  | (with_reducible refine K18.r_chain ?_) | (with_reducible refine K18.r_bm ?_) | (with_reducible refine K18.iteT ?_) | (with_reducible refine K18.iteF ?_) | (with_reducible refine K18.iteNT ?_) | (with_reducible refine K18.iteNF ?_)
  | (with_reducible refine K18.r_for ?_) | (with_reducible refine K18.r_while ?_) | (with_reducible refine K18.r_lc ?_) | (with_reducible refine K18.r_iR1 ?_) | (with_reducible refine K18.r_iR2 ?_) | (with_reducible refine K18.r_iL ?_) | (with_reducible refine K18.r_iT ?_) | (with_reducible refine K18.r_iS ?_)
  | dsimp only [L2.start, List.map, List.replicate, List.length, List.cons_append, List.nil_append, List.append_nil, Nat.reduceAdd, Nat.reduceSub, List.set])
local macro_rules | `(tactic| walk_at "go") => `(tactic| repeat walk_at "go1")
local macro_rules | `(tactic| walk_at "go1") => `(tactic| first
  | (with_reducible refine K18.r_dnotin ?_) | (with_reducible refine K18.r_din ?_) | (with_reducible refine K18.r_dput ?_) | (with_reducible refine K18.r_dnewK ?_) | (with_reducible refine K18.r_dnewT ?_)
  | (with_reducible refine K18.r_gtup ?_) | (with_reducible refine K18.r_gcons ?_) | (with_reducible refine K18.r_gnil ?_) | (with_reducible refine K18.r_iAny ?_) | (with_reducible refine K18.r_lenZ (by first | assumption | omega) ?_))
local macro_rules | `(tactic| walk_at "go1") => `(tactic| first
  | (with_reducible refine K18.r_notN ?_) | (with_reducible refine K18.r_truth ?_))
namespace K18
open PySem PySem.Spec PyProof.Rows L2
/-! ### o.m(e, .., k = v) -/
def tMethK (C : Addr) (m : Str) (n l : Nat) (sp : Sp) (gV : List V → List V → List V) (E : XK) (ta : TE) (t tk : TA) : TE := fun σ H Q => ta σ H fun x H1 => ∃ a dx fs, x = .ref a ∧ H1 a = some (.ins C dx fs) ∧ fs.lookup m = none ∧
  t σ H1 fun vs H2 => tk σ H2 fun zs H3 => vs.length + 1 = n ∧ zs.length = l ∧ sp (gV (x :: vs) zs) H3 Q E
theorem pe_methK {X : Cx} {CX : CXT} {k n : Nat} {f C : Addr} {fd : FuncData} {ps ks : List Str} {sp : Sp} {E : XK} {m : Str} {pos apos : Pos} {o e : Expr} {es : List Expr} {kws : List Keyword} {ta : TE} {t tk : TA} {g : List Value → List Value → List Value} {gV : List V → List V → List V} {pl : Sem Bool}
    (he : PE X o ta) (c : Cls X.K C) (hm : Meth X.K C m f) (F : FnOk X.prog X.w X.K X.mg X.base CX k f fd ps sp) (hr : Room k X.A) (hb : KBn X.K fd ps n ks g gV) (hx : Passes CX X E) (ha : PA X (e :: es) t) (hkw : PK X kws tk)
    (hall : (backToKw pos (keywordEach kws X.env)).all (·.1.isSome) = true := by rfl) (hks : (backToKw pos (keywordEach kws X.env)).filterMap (·.1) = ks := by rfl)
    (hst : starEach (e :: es) X.env = (false, eval e X.env) :: starEach es X.env := by rfl)
    (hpl : ((backTo pos (starEach (e :: es) X.env)).any (·.1) || (backToKw pos (keywordEach kws X.env)).any (·.1.isNone)) = false := by rfl)
    (ht : eval (.Call (.Attribute o m apos) (e :: es) kws pos) X.env = (do
      let ov ← eval o X.env
      standAt apos.atName
      let (f, first) ← holding [ov] (getMethod ov m pl)
      callWith pos f first (backTo pos (starEach (e :: es) X.env)) (backToKw pos (keywordEach kws X.env))) := by rfl) :
    PE X (.Call (.Attribute o m apos) (e :: es) kws pos) (tMethK C m n ks.length sp gV E ta t tk) := by
  refine ⟨fun pins s σ H Q I h => ?_⟩
  refine PySem.W.methodCall_KW (pl := pl) (thn (he.run pins s σ H _ I h) fun u s1 ⟨x, H1, I1, rx, a, dx, fs, ex, ea, l, q⟩ => ?_) ht
  subst ex
  obtain rfl : u = Value.ref a := rx
  refine getmeth_ok I1 ea c hm l ?_
  refine PySem.W.callWith_KW (first := [.ref a]) (h₀ := X.base) I.ok.mod.kin hm.kp hall (thn (ha.run pos pins s1 σ H1 _ I1 q) fun us s2 ⟨vs, H2, I2, r, q2⟩ => ?_) hpl hst
  refine thn (hkw.run pos pins s2 σ H2 _ I2 q2) fun ws s3 ⟨zs, H3, I3, rz, l1, l2, q3⟩ => ⟨I3.kIn, ?_⟩
  rw [hks]
  exact run_fnN (us := .ref a :: us) (vs := .ref a :: vs) F hr hb hx I3 (.cons rfl r) rz l1 l2 q3
theorem r_methK {C : Addr} {m : Str} {n l : Nat} {sp : Sp} {gV : List V → List V → List V} {E : XK} {ta : TE} {t tk : TA} {σ : L2.St} {H : Hp} {Q : VK} (h : ta σ H fun x H1 => ∃ a dx fs, x = .ref a ∧ H1 a = some (.ins C dx fs) ∧ fs.lookup m = none ∧
  t σ H1 fun vs H2 => tk σ H2 fun zs H3 => vs.length + 1 = n ∧ zs.length = l ∧ sp (gV (x :: vs) zs) H3 Q E) : tMethK C m n l sp gV E ta t tk σ H Q := h
/-- a method with a default, all given, the last by its name -/
structure MK1 (P : Program) (w : World) (K : PySem.W.Frag) (mg : Str → Option Value) (base : Heap) (CX : CXT) (k : Nat) (C : Addr) (x : Str) (ps : List Str) (n : Nat) (ks : List Str) (sp : Sp) : Prop where
  ex : ∃ (f : Addr) (fd : FuncData), FnOk P w K mg base CX k f fd ps sp ∧ Meth K C x f ∧ Cls K C ∧ KBn K fd ps n ks (fun us ws => us ++ ws) (fun vs zs => vs ++ zs)
local macro_rules | `(tactic| walk_at "go1") => `(tactic| first
  | (with_reducible refine K18.r_dc ?_) | (with_reducible refine K18.r_fld ?_) | (with_reducible refine K18.r_gfld ?_) | (with_reducible refine K18.r_sfld ?_) | (with_reducible refine K18.r_meth ?_) | (with_reducible refine K18.r_methK ?_))
section
variable {P : Program} {w : World} {K : PySem.W.Frag} {mg : Str → Option Value} {base : Heap}
theorem sc_Walk_standing : FnScope ["self", "paper", "start"] ["self", "paper", "start"] (defScope s_Walk_standing) := ⟨rfl, rfl, rfl, by decide +kernel, rfl, by decide +kernel, by decide +kernel⟩
theorem ok_Walk_standing (T : Tx K mg) : MK1 P w K mg base CX0 5 (He.ga K "Walk") "standing" ["self", "paper", "start"] 2 ["start"] (spReach K) := by
  obtain ⟨fd, F⟩ := d_Walk_standing T
  refine ⟨_, fd, F.ok sc_Walk_standing (fun vs H Q E h => ?_) (fun cdv A outer s H vs Q E hr h => (fun (b : ∃ t, PSs (cxOf CX0 P w K mg base ["self", "paper", "start"] "Walk.standing" (defScope s_Walk_standing) (He.fAd K ("Walk", some "standing")) cdv A outer s H E).nox (defBody s_Walk_standing) t ∧ t { nx := fun _ H' => Q .non H', rt := Q } (L2.start ["self", "paper", "start"] vs) H) => let ⟨t, h1, h2⟩ := b; ⟨t, h1.nox, h2⟩) ?_), m_Walk_standing T, c_Walk T, ?_⟩
  · obtain ⟨p, sg, l, z, L, E', rfl, _⟩ := h
    rfl
  · obtain ⟨p, sg, l, z, L, E', rfl, W, Tb, hz, pl, h60, h12, asc, k⟩ := h
    refine ⟨_, (pss_cons (ps_expr (pe_c1 (ok_check_paper T) (hr.mono (by decide)) (by rfl) (pa_cons (pe_fldK K (by rfl) (pv 0)) (pa_cons (pv 1) pa_nil))))
      (pss_one (ps_ret (pe_m1 (ok_Walk_reached T) (hr.mono (by decide)) (pv 0) (pa_cons (pv 1) (pa_cons (pv 2) pa_nil)))))), ?_⟩
    walk_at "go"
    obtain ⟨dx, vl, ve, hp, RL, RE⟩ := id W
    refine ⟨p, _, dx, _, _, rfl, hp, c_Walk T, n_Walk_signs T, rfl, ?_⟩
    walk_at "go"
    refine ⟨sg, l, rfl, pl, h60, fun H1 s1 => ?_⟩
    walk_at "go"
    refine ⟨p, dx, _, rfl, s1 _ _ hp, rfl, ?_⟩
    walk_at "go"
    exact ⟨p, sg, l, z, L, E', rfl, W.same s1, Tb, hz, pl, h60, h12, asc, fun H2 s2 => k H2 (s1.trans s2)⟩
  · obtain ⟨oc, od, dV, kV, doc, pm, an, cdv, ct, osl, rfl, lk, hcd, hD, hK⟩ := F.ex
    rcases hD with ⟨e, _⟩ | ⟨_, T', o, its, m, rfl, lT, oT, rT⟩
    · cases e
    · refine ⟨fun s us ws X l1 l2 => ?_, fun r1 r2 => r1.append r2⟩
      match us, ws, l1, l2, its, rT.length, oT with
      | [a, b], [c], _, _, [d0], _, oT =>
        obtain ⟨k, e1, e2⟩ : ∃ k, bindArgs (PySem.W.fnOf "standing" "Walk.standing" (defArgs s_Walk_standing) (defBody s_Walk_standing) (defScope s_Walk_standing) (.ref T') kV doc pm an cdv ct) ⟨[a, b], [("start", c)]⟩ = seqItems? (.ref T') >>= k ∧ k (some [d0].toArray) = pure ((["self", "paper", "start"] : List Str).zip [a, b, c]) := by
          refine ⟨_, rfl, ?_⟩
          kernel_rfl
        refine BindsTo.of_looks fun M => ?_
        have e1' : bindArgs (PySem.W.fnOf "standing" "Walk.standing" (defArgs s_Walk_standing) (defBody s_Walk_standing) (defScope s_Walk_standing) (.ref T') kV doc pm an cdv ct) ⟨[a, b], (["start"] : List Str).zip [c]⟩ = seqItems? (.ref T') >>= k := e1
        rw [e1']
        exact looks_items X lT oT (.of_pure e2)
end

end K18
end
section
set_option maxRecDepth 100000
set_option maxHeartbeats 4000000
local macro_rules | `(tactic| walk_at "go1") => `(tactic| first
  | (with_reducible refine K18.r_seq ?_) | (with_reducible refine K18.r_ifs ?_) | (with_reducible refine K18.r_ret ?_) | (with_reducible refine K18.r_asg ?_) | (with_reducible refine K18.r_drop ?_) | (with_reducible refine K18.r_next ?_)
  | (with_reducible refine K18.r_name ?_) | (with_reducible refine K18.r_var rfl ?_) | (with_reducible refine K18.r_c ?_) | (with_reducible refine K18.r_op ?_) | (with_reducible refine K18.r_cons ?_) | (with_reducible refine K18.r_nil ?_)
  | (with_reducible refine K18.r_cb ?_) | (with_reducible refine K18.r_call ?_) | (with_reducible refine K18.r_make ?_) | (with_reducible refine K18.r_B ?_) | (with_reducible refine K18.r_test ?_) | (with_reducible refine K18.r_or ?_) | (with_reducible refine K18.r_and ?_) | (with_reducible refine K18.r_not ?_)
  | (with_reducible refine K18.r_andV ?_) | (with_reducible refine K18.r_orV ?_) | (with_reducible refine K18.r_notV ?_) | (with_reducible refine K18.r_if ?_) | (with_reducible refine K18.r_aug rfl ?_) | (with_reducible refine K18.r_ip ?_)
  | (with_reducible refine K18.r_I0 ?_) | (with_reducible refine K18.r_int1 ?_) | (with_reducible refine K18.r_mod (by first | decide | omega) ?_) | (with_reducible refine K18.r_fdivN (by first | decide | omega) (by first | decide | omega) ?_) | (with_reducible refine K18.r_mulR (by first | decide | omega) (by first | decide | omega) ?_) | (with_reducible refine K18.r_mulL (by first | decide | omega) (by first | decide | omega) ?_) | (with_reducible refine K18.r_inG ?_) | (with_reducible refine K18.r_notInG ?_) | (with_reducible refine K18.r_ltS ?_) | (with_reducible refine K18.r_ex ?_) | (with_reducible refine K18.r_eqI ?_) | (with_reducible refine K18.r_neI ?_) | (with_reducible refine K18.r_eqB ?_) | (with_reducible refine K18.r_neB ?_) | (with_reducible refine K18.r_isN ?_)
  | (with_reducible refine K18.r_tup ?_) | (with_reducible refine K18.r_lst ?_) | (with_reducible refine K18.r_yes ?_) | (with_reducible refine K18.r_gsub ?_) | (with_reducible refine K18.r_dget ?_) | (with_reducible refine K18.r_sl ?_) | (with_reducible refine K18.r_part ?_) | (with_reducible refine K18.r_nopart ?_)
  | (with_reducible refine K18.r_chain ?_) | (with_reducible refine K18.r_bm ?_) | (with_reducible refine K18.iteT ?_) | (with_reducible refine K18.iteF ?_) | (with_reducible refine K18.iteNT ?_) | (with_reducible refine K18.iteNF ?_)
  | (with_reducible refine K18.r_for ?_) | (with_reducible refine K18.r_while ?_) | (with_reducible refine K18.r_lc ?_) | (with_reducible refine K18.r_iR1 ?_) | (with_reducible refine K18.r_iR2 ?_) | (with_reducible refine K18.r_iL ?_) | (with_reducible refine K18.r_iT ?_) | (with_reducible refine K18.r_iS ?_)
  | dsimp only [L2.start, List.map, List.replicate, List.length, List.cons_append, List.nil_append, List.append_nil, Nat.reduceAdd, Nat.reduceSub, List.set])
local macro_rules | `(tactic| walk_at "go") => `(tactic| repeat walk_at "go1")
local macro_rules | `(tactic| walk_at "go1") => `(tactic| first
  | (with_reducible refine K18.r_dnotin ?_) | (with_reducible refine K18.r_din ?_) | (with_reducible refine K18.r_dput ?_) | (with_reducible refine K18.r_dnewK ?_) | (with_reducible refine K18.r_dnewT ?_)
  | (with_reducible refine K18.r_gtup ?_) | (with_reducible refine K18.r_gcons ?_) | (with_reducible refine K18.r_gnil ?_) | (with_reducible refine K18.r_iAny ?_) | (with_reducible refine K18.r_lenZ (by first | assumption | omega) ?_))
local macro_rules | `(tactic| walk_at "go1") => `(tactic| first
  | (with_reducible refine K18.r_notN ?_) | (with_reducible refine K18.r_truth ?_))
namespace K18
open PySem PySem.Spec PyProof.Rows L2
local macro_rules | `(tactic| walk_at "go1") => `(tactic| first
  | (with_reducible refine K18.r_dc ?_) | (with_reducible refine K18.r_fld ?_) | (with_reducible refine K18.r_gfld ?_) | (with_reducible refine K18.r_sfld ?_) | (with_reducible refine K18.r_meth ?_) | (with_reducible refine K18.r_methK ?_))
/-! ### a dict whose keys are tuples of numbers, walked; sign_classes -/
theorem r_dget2 {td ty tx : TE} {σ : L2.St} {H : Hp} {Q : VK} (h : td σ H fun x H1 => ∃ a, x = .ref a ∧ IsD H1 a ∧ ty σ H1 fun y H2 => tx σ H2 fun z H3 => ∃ o, DGet H3 a y o ∧ Q (o.getD z) H3) : tDGet2 td ty tx σ H Q := h
def kyL (c : List Nat) : List Key := c.map fun x => Sum.inl ((x : Nat) : Int)
theorem kyL_kV (c : List Nat) : (kyL c).map kV = rI c := by
  unfold kyL rI
  rw [List.map_map]
  rfl
theorem rI_inj : ∀ {c d : List Nat}, rI c = rI d → c = d
  | [], [], _ => rfl
  | [], _ :: _, e => by cases e
  | _ :: _, [], e => by cases e
  | x :: c, y :: d, e => by
    have h1 := V.int.inj (List.cons.inj e).1
    have h2 := rI_inj (List.cons.inj e).2
    rw [h2, show x = y by omega]
theorem kyL_inj : ∀ {c d : List Nat}, kyL c = kyL d → c = d
  | [], [], _ => rfl
  | [], _ :: _, e => by cases e
  | _ :: _, [], e => by cases e
  | x :: c, y :: d, e => by
    have h1 := Sum.inl.inj (List.cons.inj e).1
    have h2 := kyL_inj (List.cons.inj e).2
    rw [h2, show x = y by omega]
def colL (L : List (List Nat)) (v : Nat) : List Nat := L.map fun r => r.getD v 0
def clM (L : List (List Nat)) (i : Nat) (c : List Nat) : List Nat := (List.range i).filter fun v => decide (colL L v = c)
theorem clM_succ (L : List (List Nat)) (i : Nat) (c : List Nat) : clM L (i + 1) c = if colL L i = c then clM L i c ++ [i] else clM L i c := by
  unfold clM
  rw [List.range_succ, List.filter_append]
  by_cases h : colL L i = c
  · rw [if_pos h]
    congr 1
    simp [h]
  · rw [if_neg h]
    simp [h]
theorem clM_mem {L : List (List Nat)} {i : Nat} {c : List Nat} {v : Nat} : v ∈ clM L i c ↔ v < i ∧ colL L v = c := by
  unfold clM
  rw [List.mem_filter, List.mem_range, decide_eq_true_eq]
theorem clM_len (L : List (List Nat)) (i : Nat) (c : List Nat) : (clM L i c).length ≤ i := by
  have := List.length_filter_le (fun v => decide (colL L v = c)) (List.range i)
  rw [List.length_range] at this
  exact this
theorem valV_mem {κ : Type} [DecidableEq κ] {kvs : List (κ × V)} {k : κ} {v : V} (h : valV kvs k = some v) : ∃ p ∈ kvs, p.1 = k := by
  unfold valV at h
  cases e : kvs.find? (fun kv => decide (kv.1 = k)) with
  | none =>
    rw [e] at h
    cases h
  | some p => exact ⟨p, List.mem_of_find?_eq_some e, of_decide_eq_true (List.find?_some (p := fun kv : κ × V => decide (kv.1 = k)) e)⟩
theorem mem_valV {κ : Type} [DecidableEq κ] {kvs : List (κ × V)} {p : κ × V} (h : p ∈ kvs) : ∃ v, valV kvs p.1 = some v := by
  unfold valV
  cases e : kvs.find? (fun kv => decide (kv.1 = p.1)) with
  | none =>
    have := List.find?_eq_none.mp e p h
    simp at this
  | some q => exact ⟨q.2, rfl⟩
theorem putK_mem {κ : Type} [DecidableEq κ] {kvs : List (κ × V)} {k : κ} {v : V} {p : κ × V} (h : p ∈ putK kvs k v) : p.1 = k ∨ ∃ q ∈ kvs, q.1 = p.1 := by
  unfold putK at h
  split at h
  · obtain ⟨q, hq, e⟩ := List.mem_map.mp h
    right
    refine ⟨q, hq, ?_⟩
    rw [← e]
    split <;> rfl
  · rcases List.mem_append.mp h with h | h
    · exact .inr ⟨p, h, rfl⟩
    · rw [List.mem_singleton.mp h]
      exact .inl rfl
structure ClI (L : List (List Nat)) (H : Hp) (kvs : List (List Key × V)) (i : Nat) : Prop where
  key : ∀ p ∈ kvs, ∃ c, p.1 = kyL c
  no : ∀ c, valV kvs (kyL c) = none → clM L i c = []
  yes : ∀ c v, valV kvs (kyL c) = some v → clM L i c ≠ [] ∧ TupR H v (clM L i c)
  len : kvs.length ≤ i
theorem ClI.kt {L : List (List Nat)} {H H' : Hp} {kvs : List (List Key × V)} {i : Nat} (C : ClI L H kvs i) (e : Kt H H') : ClI L H' kvs i := ⟨C.key, C.no, fun c v h => ⟨(C.yes c v h).1, (C.yes c v h).2.kt e⟩, C.len⟩
theorem ClI.put {L : List (List Nat)} {H : Hp} {kvs : List (List Key × V)} {i : Nat} {v : V} (C : ClI L H kvs i) (h : TupR H v (clM L i (colL L i) ++ [i])) : ClI L H (putK kvs (kyL (colL L i)) v) (i + 1) where
  key := fun p hp => by
    rcases putK_mem hp with e | ⟨q, hq, e⟩
    · exact ⟨_, e⟩
    · obtain ⟨c, hc⟩ := C.key q hq
      exact ⟨c, e.symm.trans hc⟩
  no := fun c hc => by
    rw [valV_put] at hc
    rw [clM_succ]
    by_cases e : colL L i = c
    · subst e
      rw [if_pos rfl] at hc
      cases hc
    · rw [if_neg e]
      rw [if_neg (fun z => e (kyL_inj z).symm)] at hc
      exact C.no c hc
  yes := fun c u hc => by
    rw [valV_put] at hc
    rw [clM_succ]
    by_cases e : colL L i = c
    · subst e
      rw [if_pos rfl] at hc
      cases hc
      rw [if_pos rfl]
      exact ⟨by simp, h⟩
    · rw [if_neg e]
      rw [if_neg (fun z => e (kyL_inj z).symm)] at hc
      exact C.yes c u hc
  len := Nat.le_trans (length_putK _ _ _) (by have := C.len; omega)
theorem lcg_KT {σ : L2.St} {j : Nat} {te : TE} {H1 : Hp} {d : Addr} {od : Obj} {kvs : List (List Key × V)} (f : List Key → V) (hz : kvs.length ≤ 100000) {D : Addr} {Qd : Hp → Prop} (hD : H1 D = none) (hd0 : H1 d = some (.frz od (.dT kvs)))
    (he : ∀ (i : Nat) k v q H, kvs[i]? = some (k, v) → Same H1 H → H q = some (.tup (k.map kV)) → ∀ Q : VK, (∀ H', Same H H' → Q (f k) H') → te ((σ.set j none).set j (some (.ref q))) H Q)
    (hd : ∀ H, Same H1 H → H D = some (.lst (kvs.map fun p => f p.1)) → Qd H) : LcG (Itkt d od kvs) (gName j) tYes te [j] σ H1 D Qd := by
  refine L2.lc_it (σ := σ) walk_keysT (fun i H => Same H1 H ∧ H D = some (.lst ((kvs.take i).map fun p => f p.1))) ⟨same_new hD, by rw [upd_same]; rfl⟩ (fun i H _ h => h.1 _ _ hd0) ?_ (fun H ⟨s, h⟩ => hd H s (by rw [List.take_length] at h; exact h))
  rintro i x H H' hi ⟨s, h⟩ ⟨rfl, k, v, q, e1, e2, e3⟩
  subst e2
  refine ⟨wipe1 σ j _, ?_⟩
  refine r_yes ?_
  refine L2.iteT ?_
  refine he i k v q _ e1 s e3 _ fun H4 s4 => ⟨_, s4 _ _ h, sl100' (by rw [List.length_map, List.length_take]; omega), same_mut (s.trans s4) hD, ?_⟩
  rw [upd_same, List.take_add_one, e1]
  simp
section
variable {P : Program} {w : World} {K : PySem.W.Frag} {mg : Str → Option Value} {base : Heap}
def spCls (K : PySem.W.Frag) : Sp := fun vs H Q _ => ∃ (p : Addr) (sg : List Nat) (L : List (List Nat)) (E : List Nat), vs = [.ref p] ∧ WalkO K H p sg L E ∧ Tab sg.length L.length L ∧ L.length ≤ 40 ∧ sg.length ≤ 12 ∧
  ∀ v lots H', Same H H' → RowsT K H' v lots → lots.length ≤ 12 → (∀ l ∈ lots, l.length ≤ 12) → (∀ u x, u < sg.length → x < sg.length → ((∃ l ∈ lots, u ∈ l ∧ x ∈ l) ↔ colL L u = colL L x)) → Q v H'
theorem sc_sign_classes : FnScope ["walk", "lots", "v", "column", "row"] ["walk"] (defScope s_sign_classes) := ⟨rfl, rfl, rfl, by decide +kernel, rfl, by decide +kernel, by decide +kernel⟩
theorem ok_sign_classes (T : Tx K mg) : C1 P w K mg base CX0 1 "sign_classes" ["walk"] (spCls K) := by
  obtain ⟨fd, F⟩ := d_sign_classes T
  refine .mk1 F (g_sign_classes T) (fun _ _ _ _ _ _ us hl => match us, hl with | [_], _ => rfl) sc_sign_classes (fun vs H Q E h => ?_) (fun cdv A outer s H vs Q E hr h => ?_)
  · obtain ⟨p, sg, L, E', rfl, W, Tb, hL, h12, k⟩ := h
    rfl
  obtain ⟨p, sg, L, E', rfl, W, Tb, hL, h12, k⟩ := h
  have hu := hu_of hr
  have hu64 := hu64_of hr
  have hu6 := hu64' hr
  refine ⟨_, (pss_cons (ps_set (i := 1) sc_sign_classes.nd rfl (Or.inr rfl) pe_dnewT)
      (pss_cons (ps_for PassesOwn.never rfl (pi_range1 (by rfl) (f_range T) (pa_cons (pe_callB call_lenZ (by rfl) (f_len T) PySem.boot_len (pa_cons (pe_fldK K (by rfl) (pv 0)) pa_nil)) pa_nil)) (pg_name (i := 2) sc_sign_classes.nd rfl (Or.inr rfl)) (pss_cons (ps_set (i := 3) sc_sign_classes.nd rfl (Or.inl rfl) (pe_callTy (call_tupleK K (by rfl)) (by rfl) (f_tuple T) (by decide +kernel) (pa_cons (pe_lc (own := [("row", 4)]) (g := gName 4) (by rfl) sc_sign_classes.nd (pi_tupK K (by rfl) (pe_fldK K (by rfl) (pv 0))) (blkOk_by (own := [("row", 4)]) (by kernel_rfl)) (fun _ _ _ _ _ => pg_name (i := 4) sc_sign_classes.nd rfl (Or.inl rfl)) (fun _ _ _ _ _ => pts_nil) (fun _ _ _ _ _ => (pe_ix (ix_tupK K (by rfl)) (pv 4) (pv 2) (fun _ _ => rfl)))) pa_nil)))
      (pss_one (ps_dput hu (pv 1) (pv 3) (pe_op (op_catAK K (by rfl)) (pe_dget2 hu (pv 1) (pv 3) (pe_tup pa_nil) ⟨by rfl, by rfl, by rfl, by rfl⟩) (pe_tup (pa_cons (pv 2) pa_nil))) rfl))))
      (pss_one (ps_ret (pe_callTy (call_tupleK K (by rfl)) (by rfl) (f_tuple T) (by decide +kernel) (pa_cons (pe_lock (pe_lc (own := [("column", 3)]) (g := gName 3) (by rfl) sc_sign_classes.nd (pi_keys (pv 1)) (blkOk_by (own := [("column", 3)]) (by kernel_rfl)) (fun _ _ _ _ _ => pg_name (i := 3) sc_sign_classes.nd rfl (Or.inl rfl)) (fun _ _ _ _ _ => pts_nil) (fun _ _ _ _ _ => (pe_dget hu (pv 1) (pv 3) (fun _ _ => rfl))))) pa_nil)))))), ?_⟩
  walk_at "go"
  obtain ⟨dx, vl, ve, hp, RL, RE⟩ := id W
  intro d hd
  have sd := same_new (o := .dT []) hd
  walk_at "go"
  refine ⟨p, _, dx, _, _, rfl, sd _ _ hp, c_Walk T, n_Walk_signs T, rfl, ?_⟩
  walk_at "go"
  refine ⟨_, rfl, by omega, by omega, ?_⟩
  refine fo_R (n := sg.length) (fun i σ H' => ∃ (kvs : List (List Key × V)) (u2 u3 u4 : Option V), σ = [some (.ref p), some (.ref d), u2, u3, u4] ∧ Same H H' ∧ H' d = some (.dT kvs) ∧ ClI L H' kvs i ∧ i ≤ sg.length)
    ⟨[], _, _, _, rfl, sd, upd_same, ⟨(fun p h => nomatch h), (fun c _ => rfl), (fun c v h => by cases h), Nat.le_refl _⟩, Nat.zero_le _⟩ ?_ ?_
  · rintro i σ1 H1 hi ⟨kvs, u2, u3, u4, rfl, s1, hd1, C1, _⟩
    walk_at "go"
    refine ⟨p, _, dx, _, _, rfl, s1 _ _ hp, c_Walk T, n_Walk_rows T, rfl, ?_⟩
    walk_at "go"
    obtain ⟨la, lvs, rfl, hla, plv⟩ := id (RL.kp (same_kp s1))
    refine ⟨la, rfl, ⟨_, hla⟩, fun D hD => ?_⟩
    refine lcg_prs (rs := L) (xs := lvs) (Paired.length plv) (by rw [← Paired.length plv]; omega) hD L2.walk_tup (fun H s => sqT_same s hla) (fun r y _ => y = .int ((r.getD i 0 : Nat) : Int)) (fun _ _ _ _ _ h => h) ?_ ?_ (fun _ _ _ _ h _ _ => h)
    · intro m r x H2 hr2 hx s2 _ Q1 k1
      obtain ⟨r', h1, h2⟩ := paired_get' plv hx
      rw [hr2] at h1
      cases h1
      walk_at "go"
      have hri := Tb.row m r hr2
      have hg : r[i]? = some (r.getD i 0) := by
        rw [List.getD_eq_getElem?_getD, List.getElem?_eq_getElem (by omega)]
        rfl
      refine (h2.kp (same_kp s2)).get hg ?_
      exact k1 _ _ (Same.refl _) rfl
    intro ys H2 s2 hL2 py
    have ey : ys = rI (colL L i) := by
      have := paired_map py
      rw [this]
      unfold rI colL
      rw [List.map_map]
      rfl
    subst ey
    walk_at "go"
    refine r_tupL (SqL.of hL2) fun q hq => ?_
    walk_at "go"
    have s12 := s2.trans (same_new (o := .tup (rI (colL L i))) hq)
    have s02 := s1.trans s12
    have hd2 := s12 _ _ hd1
    have C2 := C1.kt (same_kt s12)
    have hq2 : upd H2 q (.tup (rI (colL L i))) q = some (.tup ((kyL (colL L i)).map kV)) := by rw [upd_same, kyL_kV]
    generalize upd H2 q (.tup (rI (colL L i))) = H3 at s12 s02 hd2 C2 hq2 ⊢
    refine r_dget2 ?_
    walk_at "go"
    refine ⟨d, rfl, .inr ⟨kvs, .inl hd2⟩, ?_⟩
    walk_at "go"
    refine ⟨by decide, fun e he => ?_⟩
    have se := same_new (o := .tup []) he
    refine ⟨_, DGet.t (se _ _ hd2) (se _ _ hq2), ?_⟩
    walk_at "go"
    refine ⟨by decide, fun f hf => ?_⟩
    have sf := same_new (o := .tup [.int ((i : Nat) : Int)]) hf
    have sef := se.trans sf
    have hd5 := sef _ _ hd2
    have hq5 := sef _ _ hq2
    have C5 := C2.kt (same_kt sef)
    have s05 := s02.trans sef
    have fin : ∀ (v : V) (H6 : Hp), Same H H6 → H6 d = some (.dT kvs) → H6 q = some (.tup ((kyL (colL L i)).map kV)) → ClI L H6 kvs i → TupR H6 v (clM L i (colL L i) ++ [i]) →
        ∃ a H4, V.ref d = .ref a ∧ DPut H6 a (.ref q) v H4 ∧ ∃ (kvs : List (List Key × V)) (x2 x3 x4 : Option V), ([some (V.ref p), some (V.ref d), some (V.int ((i : Nat) : Int)), some (V.ref q), u4] : L2.St) = [some (.ref p), some (.ref d), x2, x3, x4] ∧ Same H H4 ∧ H4 d = some (.dT kvs) ∧ ClI L H4 kvs (i + 1) ∧ i + 1 ≤ sg.length := fun v H6 s6 h1 h2 h3 h4 => by
      have kk : Kt H6 (upd H6 d (.dT (putK kvs (kyL (colL L i)) v))) := kt_upd fun xs z => by rw [h1] at z; cases z
      exact ⟨d, _, rfl, DPut.t h1 h2 (sl100' (by have := h3.len; omega)), _, _, _, _, rfl, same_mut s6 hd, upd_same, (h3.put h4).kt kk, hi⟩
    have hfT : upd (upd H3 e (.tup [])) f (.tup [.int ((i : Nat) : Int)]) f = some (.tup (rI [i])) := upd_same
    cases hv : valV kvs (kyL (colL L i)) with
    | none =>
      have hn := C2.no _ hv
      refine ⟨e, f, [], rI [i], rfl, rfl, SqT.of (sf _ _ upd_same), SqT.of hfT, by rw [rI_len]; exact sl100 (by simp), fun _ => ?_, fun h => absurd rfl h, fun h => absurd rfl h⟩
      walk_at "go"
      refine fin _ _ s05 hd5 hq5 C5 ?_
      rw [hn]
      exact ⟨f, rfl, hfT⟩
    | some v =>
      obtain ⟨hn, q0, rfl, hq0⟩ := C5.yes _ _ hv
      refine ⟨q0, f, rI (clM L i (colL L i)), rI [i], rfl, rfl, SqT.of hq0, SqT.of hfT, ?_, fun h => absurd (List.length_eq_zero_iff.mp (by rw [← rI_len, h]; rfl)) hn, fun _ h => (by cases h), fun _ _ g hg => ?_⟩
      · rw [rI_len, rI_len]
        have := clM_len L i (colL L i)
        exact sl100 (by simp; omega)
      walk_at "go"
      have sg6 := same_new (o := .tup (rI (clM L i (colL L i)) ++ rI [i])) hg
      refine fin _ _ (s05.trans sg6) (sg6 _ _ hd5) (sg6 _ _ hq5) (C5.kt (same_kt sg6)) ⟨g, rfl, ?_⟩
      rw [upd_same]
      unfold rI
      rw [List.map_append]
  · rintro σ1 H1 ⟨kvs, u2, u3, u4, rfl, s1, hd1, C1, _⟩
    walk_at "go"
    refine ⟨d, _, hd1, trivial, fun od => ?_⟩
    refine ⟨.ref d, rfl, ?_⟩
    refine ⟨d, od, rfl, .inr ⟨kvs, upd_same, fun D hD => ?_⟩⟩
    have hl := C1.len
    have dD : d ≠ D := fun z => by rw [← z, upd_same] at hD; cases hD
    have kt0 : Kt H1 (upd H1 d (.frz od (.dT kvs))) := kt_upd fun xs z => by rw [hd1] at z; cases z
    refine lcg_KT (kvs := kvs) (fun k => (valV kvs k).getD .non) (by omega) hD upd_same ?_ ?_
    · intro m ky v q H2 hm s2 hq Q1 k1
      walk_at "go"
      obtain ⟨v', hv'⟩ := mem_valV (List.mem_of_getElem? hm)
      refine ⟨d, v', rfl, ?_, ?_⟩
      · rw [← hv']
        exact .inr ⟨kvs, ky, q, .inr ⟨od, s2 _ _ upd_same⟩, rfl, hq, rfl⟩
      · have := k1 _ (Same.refl _)
        rw [hv'] at this
        exact this
    · intro H2 s2 hL2
      refine ⟨s2 _ _ upd_same, ?_⟩
      walk_at "go"
      have s3 : Same H (upd H2 d (.dT kvs)) := fun b o hb => by
        have hbd : b ≠ d := fun z => by rw [z, hd] at hb; cases hb
        rw [upd_ne hbd]
        refine s2 _ _ ?_
        rw [upd_ne hbd]
        exact s1 _ _ hb
      have hL3 : upd H2 d (.dT kvs) D = some (.lst (kvs.map fun p => (valV kvs p.1).getD .non)) := by rw [upd_ne dD.symm]; exact hL2
      have C3 : ClI L (upd H2 d (.dT kvs)) kvs sg.length := C1.kt fun b xs hb => by
        have hbd : b ≠ d := fun z => by rw [z, hd1] at hb; cases hb
        rw [upd_ne hbd]
        exact s2 _ _ (kt0 _ _ hb)
      generalize upd H2 d (.dT kvs) = H3 at s3 hL3 C3 ⊢
      refine r_tupL (SqL.of hL3) fun q hq => ?_
      have s4 := same_new (o := .tup (kvs.map fun p => (valV kvs p.1).getD .non)) hq
      have C4 := C3.kt (same_kt s4)
      have hq4 : upd H3 q (.tup (kvs.map fun p => (valV kvs p.1).getD .non)) q = some (.tup (kvs.map fun p => (valV kvs p.1).getD .non)) := upd_same
      have s04 := s3.trans s4
      generalize upd H3 q (.tup (kvs.map fun p => (valV kvs p.1).getD .non)) = H5 at s04 C4 hq4 ⊢
      -- the lots
      have hex : ∀ y ∈ kvs.map (fun p => (valV kvs p.1).getD .non), ∃ r, TupR H5 y r ∧ (∃ c, r = clM L sg.length c) := fun y hy => by
        obtain ⟨pr, hpr, e⟩ := List.mem_map.mp hy
        obtain ⟨c, hc⟩ := C4.key pr hpr
        obtain ⟨v', hv'⟩ := mem_valV hpr
        rw [hc] at hv'
        obtain ⟨_, q0, e0, hq0⟩ := C4.yes c v' hv'
        refine ⟨clM L sg.length c, ⟨q0, ?_, hq0⟩, c, rfl⟩
        rw [← e, hc, hv', e0]
        rfl
      obtain ⟨lots, pl⟩ := exists_paired (F := fun r y => TupR H5 y r ∧ (∃ c, r = clM L sg.length c)) hex
      have ll : lots.length = kvs.length := by rw [Paired.length pl, List.length_map]
      have lc : ∀ l ∈ lots, ∃ c, l = clM L sg.length c := fun l hl => by
        obtain ⟨i, hi, e⟩ := List.mem_iff_getElem.mp hl
        obtain ⟨y, _, _, h⟩ := paired_get pl (List.getElem?_eq_some_iff.mpr ⟨hi, e⟩)
        exact h
      refine k (.ref q) lots H5 s04 ⟨q, _, rfl, SqT.of hq4, Paired.mapP pl fun _ _ z => (let ⟨q, h1, h2⟩ := z.1; ⟨q, h1, SqT.of h2⟩)⟩ (by omega) (fun l hl => by
        obtain ⟨c, e⟩ := lc l hl
        rw [e]
        have := clM_len L sg.length c
        omega) fun u x hu hx => ⟨?_, fun e => ?_⟩
      · rintro ⟨l, hl, h1, h2⟩
        obtain ⟨c, e⟩ := lc l hl
        rw [e] at h1 h2
        exact (clM_mem.mp h1).2.trans (clM_mem.mp h2).2.symm
      · have hu2 : u ∈ clM L sg.length (colL L u) := clM_mem.mpr ⟨hu, rfl⟩
        have hx2 : x ∈ clM L sg.length (colL L u) := clM_mem.mpr ⟨hx, e.symm⟩
        cases hv : valV kvs (kyL (colL L u)) with
        | none =>
          rw [C4.no _ hv] at hu2
          cases hu2
        | some v' =>
          obtain ⟨_, q0, e0, hq0⟩ := C4.yes _ v' hv
          obtain ⟨pr, hpr, ep⟩ := valV_mem hv
          obtain ⟨i, hi, ei⟩ := List.mem_iff_getElem.mp hpr
          have hy : (kvs.map fun p => (valV kvs p.1).getD .non)[i]? = some v' := by
            rw [List.getElem?_map, List.getElem?_eq_getElem hi, ei]
            show some ((valV kvs pr.1).getD .non) = _
            rw [ep, hv]
            rfl
          obtain ⟨l, hl, ⟨q1, e1, hq1⟩, c, hc⟩ := paired_get' pl hy
          refine ⟨l, List.mem_of_getElem? hl, ?_⟩
          have : l = clM L sg.length (colL L u) := by
            rw [e0] at e1
            cases e1
            rw [hq0] at hq1
            exact (rI_inj (HO.tup.inj (Option.some.inj hq1))).symm
          rw [this]
          exact ⟨hu2, hx2⟩
end

end K18
end
section
set_option maxRecDepth 100000
set_option maxHeartbeats 4000000
local macro_rules | `(tactic| walk_at "go1") => `(tactic| first
  | (with_reducible refine K18.r_seq ?_) | (with_reducible refine K18.r_ifs ?_) | (with_reducible refine K18.r_ret ?_) | (with_reducible refine K18.r_asg ?_) | (with_reducible refine K18.r_drop ?_) | (with_reducible refine K18.r_next ?_)
  | (with_reducible refine K18.r_name ?_) | (with_reducible refine K18.r_var rfl ?_) | (with_reducible refine K18.r_c ?_) | (with_reducible refine K18.r_op ?_) | (with_reducible refine K18.r_cons ?_) | (with_reducible refine K18.r_nil ?_)
  | (with_reducible refine K18.r_cb ?_) | (with_reducible refine K18.r_call ?_) | (with_reducible refine K18.r_make ?_) | (with_reducible refine K18.r_B ?_) | (with_reducible refine K18.r_test ?_) | (with_reducible refine K18.r_or ?_) | (with_reducible refine K18.r_and ?_) | (with_reducible refine K18.r_not ?_)
  | (with_reducible refine K18.r_andV ?_) | (with_reducible refine K18.r_orV ?_) | (with_reducible refine K18.r_notV ?_) | (with_reducible refine K18.r_if ?_) | (with_reducible refine K18.r_aug rfl ?_) | (with_reducible refine K18.r_ip ?_)
  | (with_reducible refine K18.r_I0 ?_) | (with_reducible refine K18.r_int1 ?_) | (with_reducible refine K18.r_mod (by first | decide | omega) ?_) | (with_reducible refine K18.r_fdivN (by first | decide | omega) (by first | decide | omega) ?_) | (with_reducible refine K18.r_mulR (by first | decide | omega) (by first | decide | omega) ?_) | (with_reducible refine K18.r_mulL (by first | decide | omega) (by first | decide | omega) ?_) | (with_reducible refine K18.r_inG ?_) | (with_reducible refine K18.r_notInG ?_) | (with_reducible refine K18.r_ltS ?_) | (with_reducible refine K18.r_ex ?_) | (with_reducible refine K18.r_eqI ?_) | (with_reducible refine K18.r_neI ?_) | (with_reducible refine K18.r_eqB ?_) | (with_reducible refine K18.r_neB ?_) | (with_reducible refine K18.r_isN ?_)
  | (with_reducible refine K18.r_tup ?_) | (with_reducible refine K18.r_lst ?_) | (with_reducible refine K18.r_yes ?_) | (with_reducible refine K18.r_gsub ?_) | (with_reducible refine K18.r_dget ?_) | (with_reducible refine K18.r_sl ?_) | (with_reducible refine K18.r_part ?_) | (with_reducible refine K18.r_nopart ?_)
  | (with_reducible refine K18.r_chain ?_) | (with_reducible refine K18.r_bm ?_) | (with_reducible refine K18.iteT ?_) | (with_reducible refine K18.iteF ?_) | (with_reducible refine K18.iteNT ?_) | (with_reducible refine K18.iteNF ?_)
  | (with_reducible refine K18.r_for ?_) | (with_reducible refine K18.r_while ?_) | (with_reducible refine K18.r_lc ?_) | (with_reducible refine K18.r_iR1 ?_) | (with_reducible refine K18.r_iR2 ?_) | (with_reducible refine K18.r_iL ?_) | (with_reducible refine K18.r_iT ?_) | (with_reducible refine K18.r_iS ?_)
  | dsimp only [L2.start, List.map, List.replicate, List.length, List.cons_append, List.nil_append, List.append_nil, Nat.reduceAdd, Nat.reduceSub, List.set])
local macro_rules | `(tactic| walk_at "go") => `(tactic| repeat walk_at "go1")
local macro_rules | `(tactic| walk_at "go1") => `(tactic| first
  | (with_reducible refine K18.r_dnotin ?_) | (with_reducible refine K18.r_din ?_) | (with_reducible refine K18.r_dput ?_) | (with_reducible refine K18.r_dnewK ?_) | (with_reducible refine K18.r_dnewT ?_)
  | (with_reducible refine K18.r_gtup ?_) | (with_reducible refine K18.r_gcons ?_) | (with_reducible refine K18.r_gnil ?_) | (with_reducible refine K18.r_iAny ?_) | (with_reducible refine K18.r_lenZ (by first | assumption | omega) ?_))
local macro_rules | `(tactic| walk_at "go1") => `(tactic| first
  | (with_reducible refine K18.r_notN ?_) | (with_reducible refine K18.r_truth ?_))
namespace K18
open PySem PySem.Spec PyProof.Rows L2
local macro_rules | `(tactic| walk_at "go1") => `(tactic| first
  | (with_reducible refine K18.r_dc ?_) | (with_reducible refine K18.r_fld ?_) | (with_reducible refine K18.r_gfld ?_) | (with_reducible refine K18.r_sfld ?_) | (with_reducible refine K18.r_meth ?_) | (with_reducible refine K18.r_methK ?_))
/-! ### what both sides compute is the same -/
theorem prC_run (rows : List (List Nat)) (w1 w2 : Wd) (c : Cw) : prC rows w1 w2 c = (run (stp rows) 0 (c.1 ++ w1 ++ c.2), run (stp rows) 0 (c.1 ++ w2 ++ c.2)) := by
  unfold prC
  rw [run_d2]
  simp only [run_app]
theorem wantC_eq {k : Nat} {rows L : List (List Nat)} {gs E : List Nat} {both : Bool} {w1 w2 : Wd} (h : ∀ w, Ltk k w → (run (stp rows) 0 w ∈ gs ↔ run (stp L) 0 w ∈ E)) (l1 : Ltk k w1) (l2 : Ltk k w2) (c : Cw) (hc : CL k c) : wantC rows gs both w1 w2 c = wantC L E both w1 w2 c := by
  have e1 : decide (run (stp rows) 0 (c.1 ++ w1 ++ c.2) ∈ gs) = decide (run (stp L) 0 (c.1 ++ w1 ++ c.2) ∈ E) := decide_eq_decide.mpr (h (c.1 ++ w1 ++ c.2) ((hc.1.append l1).append hc.2))
  have e2 : decide (run (stp rows) 0 (c.1 ++ w2 ++ c.2) ∈ gs) = decide (run (stp L) 0 (c.1 ++ w2 ++ c.2) ∈ E) := decide_eq_decide.mpr (h (c.1 ++ w2 ++ c.2) ((hc.1.append l2).append hc.2))
  unfold wantC want
  rw [prC_run, prC_run]
  simp only [e1, e2]
theorem wantC_swap {L : List (List Nat)} {E : List Nat} {both : Bool} {w1 w2 : Wd} (c : Cw) : wantC L E both w1 w2 c = wantC L E both w2 w1 c := by
  unfold wantC want
  rw [prC_run, prC_run]
  cases both with
  | true => exact Bool.and_comm _ _
  | false =>
    show (decide _ != decide _) = (decide _ != decide _)
    exact bne_comm
theorem asked_exit {k : Nat} {acc : Wd → Bool} {L : List (List Nat)} {E : List Nat} {w1 w2 : Wd} {o : Option Cw} (LE : Least k acc L E) (l1 : Ltk k w1) (l2 : Ltk k w2) (h : LeastC k (wantC L E false w1 w2) o) :
    (∀ z, z < L.length → run (stp L) z w1 = run (stp L) z w2) ↔ o = none := by
  constructor
  · intro hz
    cases o with
    | none => rfl
    | some c =>
      obtain ⟨hc, hp, _⟩ := h
      exfalso
      have e := hz (run (stp L) 0 c.1) (LE.tab.run_lt LE.tab.pos hc.1)
      unfold wantC want at hp
      rw [prC_run] at hp
      simp only [run_app, e] at hp
      simp at hp
  · intro e
    subst e
    intro z hz
    obtain ⟨a, ha, ea⟩ := LE.reach z hz
    refine LE.dist _ _ (LE.tab.run_lt hz l1) (LE.tab.run_lt hz l2) fun w hw => ?_
    have := h (a, w) ⟨ha, hw⟩
    unfold wantC want at this
    rw [prC_run] at this
    simp only [run_app, ea, Bool.false_eq_true, if_false] at this
    have e2 : decide (run (stp L) (run (stp L) z w1) w ∈ E) = decide (run (stp L) (run (stp L) z w2) w ∈ E) := by
      cases x : decide (run (stp L) (run (stp L) z w1) w ∈ E) <;> cases y : decide (run (stp L) (run (stp L) z w2) w ∈ E) <;> simp_all
    exact decide_eq_decide.mp e2
theorem colL_iff {L : List (List Nat)} {u v : Nat} : colL L u = colL L v ↔ ∀ z, z < L.length → stp L z u = stp L z v := by
  unfold colL stp
  constructor
  · intro e z hz
    have := congrArg (fun l => l[z]?) e
    simp only [List.getElem?_map, List.getElem?_eq_getElem hz, Option.map_some, Option.some.injEq] at this
    simp only [List.getD_eq_getElem?_getD, List.getElem?_eq_getElem hz, Option.getD_some] at this ⊢
    exact this
  · intro h
    refine List.map_congr_left fun r hr => ?_
    obtain ⟨z, hz, e⟩ := List.mem_iff_getElem.mp hr
    have := h z hz
    simp only [List.getD_eq_getElem?_getD, List.getElem?_eq_getElem hz, Option.getD_some, e] at this ⊢
    exact this
/-! ### an object with its context -/
def TO (K : PySem.W.Frag) (sg : List Nat) (H : Hp) (x : Addr) (cn : Str) (c : Option Cw) : Prop := ∃ dx v, H x = some (.ins (He.ga K cn) dx [("context", v)]) ∧ CtxO sg H v c
theorem TO.same {K : PySem.W.Frag} {sg : List Nat} {H H' : Hp} {x : Addr} {cn : Str} {c : Option Cw} (h : TO K sg H x cn c) (e : Same H H') : TO K sg H' x cn c := let ⟨dx, v, h1, h2⟩ := h; ⟨dx, v, e _ _ h1, h2.same e⟩
theorem Sgn.le {sg : List Nat} (G : Sgn sg) : ∀ c ∈ sg, c ≤ 127 := fun c hc => by
  have h : ∀ x ∈ EV, x ≤ 127 := by decide
  exact h c (G.ev c hc)
theorem cod_le {sg : List Nat} (h : ∀ c ∈ sg, c ≤ 127) (w : Wd) : ∀ c ∈ cod sg w, c ≤ 127 := fun c hc => by
  obtain ⟨u, _, e⟩ := List.mem_map.mp hc
  rw [← e, List.getD_eq_getElem?_getD]
  cases q : sg[u]? with
  | none => exact Nat.zero_le _
  | some x => exact h x (List.mem_of_getElem? q)
section
variable {P : Program} {w : World} {K : PySem.W.Frag} {mg : Str → Option Value} {base : Heap}
def spTold (K : PySem.W.Frag) : Sp := fun vs H Q _ => ∃ (x : Addr) (cn : Str) (d : V) (c : Option Cw) (sg : List Nat), vs = [.ref x, d] ∧ (cn = "Blind" ∨ cn = "Seeing") ∧ TO K sg H x cn c ∧ CtxO sg H d c ∧ (∀ c ∈ sg, c ≤ 127) ∧ ∀ H', Same H H' → Q (.bl true) H'
theorem sc__law_told_of : FnScope ["_law_told", "_law_due"] ["_law_told", "_law_due"] (defScope s__law_told_of) := ⟨rfl, rfl, rfl, by decide +kernel, rfl, by decide +kernel, by decide +kernel⟩
theorem ok__law_told_of (T : Tx K mg) : C1 P w K mg base CX0 5 "_law_told_of" ["_law_told", "_law_due"] (spTold K) := by
  obtain ⟨fd, F⟩ := d__law_told_of T
  refine .mk1 F (g__law_told_of T) (fun _ _ _ _ _ _ us hl => match us, hl with | [_, _], _ => rfl) sc__law_told_of (fun vs H Q E h => ?_) (fun cdv A outer s H vs Q E hr h => ?_)
  · obtain ⟨x, cn, d, c, sg, rfl, hcn, ⟨dx, v, ho, C1⟩, C2, h127, k⟩ := h
    rfl
  obtain ⟨x, cn, d, c, sg, rfl, hcn, ⟨dx, v, ho, C1⟩, C2, h127, k⟩ := h
  have hu := hu_of hr
  have hu64 := hu64_of hr
  have hu6 := hu64' hr
  refine ⟨_, (pss_cons (ps_if (pt_cmpR op_ne (pe_callTy (call_bool_own (hr.mono (by decide)) (ok_Blind___bool__ T) (ok_Seeing___bool__ T)) (by rfl) (f_bool T) (by decide +kernel) (pa_cons (pv 0) pa_nil)) (pe_cmpR op_isN (pv 1) pe_non (nomark _)) (nomark _)) (pss_one (ps_ret pe_bl)) pss_nil)
      (pss_one (ps_ret (pe_ifExp (pt_cmpR op_isN (pv 1) pe_non (nomark _)) (pe_cmpR op_isN (pe_fldK K (by rfl) (pv 0)) pe_non (nomark _)) (pe_c1 (ok__law_same_tuple T) (hr.mono (by decide)) (by rfl) (pa_cons (pe_fldK K (by rfl) (pv 0)) (pa_cons (pv 1) pa_nil))))))), ?_⟩
  walk_at "go"
  have hcl : Cls K (He.ga K cn) ∧ NoAttr K (He.ga K cn) "context" := by
    rcases hcn with rfl | rfl
    · exact ⟨c_Blind T, n_Blind_context T⟩
    · exact ⟨c_Seeing T, n_Seeing_context T⟩
  refine ⟨x, dx, cn, v, rfl, hcn, ho, ?_⟩
  walk_at "go"
  refine ⟨rfl, ?_⟩
  walk_at "go"
  cases c with
  | none =>
    have e1 : v = .non := C1
    have e2 : d = .non := C2
    subst e1 e2
    refine ite_no (by simp) ?_
    walk_at "go"
    refine ⟨rfl, ?_⟩
    walk_at "go"
    refine ite_yes (by simp) ?_
    walk_at "go"
    refine ⟨x, _, dx, _, _, rfl, ho, hcl.1, hcl.2, rfl, ?_⟩
    walk_at "go"
    have := k H (Same.refl _)
    simpa using this
  | some c =>
    obtain ⟨⟨p, rfl, hp⟩, n1, n2⟩ := C1
    obtain ⟨⟨q, rfl, hq⟩, _, _⟩ := C2
    refine ite_no (by simp) ?_
    walk_at "go"
    refine ⟨rfl, ?_⟩
    walk_at "go"
    refine ite_no (by simp) ?_
    walk_at "go"
    refine ⟨x, _, dx, _, _, rfl, ho, hcl.1, hcl.2, rfl, ?_⟩
    walk_at "go"
    exact ⟨_, _, cod sg c.1, cod sg c.2, rfl, ⟨p, rfl, hp⟩, ⟨q, rfl, hq⟩, cod_le h127 _, cod_le h127 _, k⟩
end

end K18
end
section
set_option maxRecDepth 100000
set_option maxHeartbeats 4000000
local macro_rules | `(tactic| walk_at "go1") => `(tactic| first
  | (with_reducible refine K18.r_seq ?_) | (with_reducible refine K18.r_ifs ?_) | (with_reducible refine K18.r_ret ?_) | (with_reducible refine K18.r_asg ?_) | (with_reducible refine K18.r_drop ?_) | (with_reducible refine K18.r_next ?_)
  | (with_reducible refine K18.r_name ?_) | (with_reducible refine K18.r_var rfl ?_) | (with_reducible refine K18.r_c ?_) | (with_reducible refine K18.r_op ?_) | (with_reducible refine K18.r_cons ?_) | (with_reducible refine K18.r_nil ?_)
  | (with_reducible refine K18.r_cb ?_) | (with_reducible refine K18.r_call ?_) | (with_reducible refine K18.r_make ?_) | (with_reducible refine K18.r_B ?_) | (with_reducible refine K18.r_test ?_) | (with_reducible refine K18.r_or ?_) | (with_reducible refine K18.r_and ?_) | (with_reducible refine K18.r_not ?_)
  | (with_reducible refine K18.r_andV ?_) | (with_reducible refine K18.r_orV ?_) | (with_reducible refine K18.r_notV ?_) | (with_reducible refine K18.r_if ?_) | (with_reducible refine K18.r_aug rfl ?_) | (with_reducible refine K18.r_ip ?_)
  | (with_reducible refine K18.r_I0 ?_) | (with_reducible refine K18.r_int1 ?_) | (with_reducible refine K18.r_mod (by first | decide | omega) ?_) | (with_reducible refine K18.r_fdivN (by first | decide | omega) (by first | decide | omega) ?_) | (with_reducible refine K18.r_mulR (by first | decide | omega) (by first | decide | omega) ?_) | (with_reducible refine K18.r_mulL (by first | decide | omega) (by first | decide | omega) ?_) | (with_reducible refine K18.r_inG ?_) | (with_reducible refine K18.r_notInG ?_) | (with_reducible refine K18.r_ltS ?_) | (with_reducible refine K18.r_ex ?_) | (with_reducible refine K18.r_eqI ?_) | (with_reducible refine K18.r_neI ?_) | (with_reducible refine K18.r_eqB ?_) | (with_reducible refine K18.r_neB ?_) | (with_reducible refine K18.r_isN ?_)
  | (with_reducible refine K18.r_tup ?_) | (with_reducible refine K18.r_lst ?_) | (with_reducible refine K18.r_yes ?_) | (with_reducible refine K18.r_gsub ?_) | (with_reducible refine K18.r_dget ?_) | (with_reducible refine K18.r_sl ?_) | (with_reducible refine K18.r_part ?_) | (with_reducible refine K18.r_nopart ?_)
  | (with_reducible refine K18.r_chain ?_) | (with_reducible refine K18.r_bm ?_) | (with_reducible refine K18.iteT ?_) | (with_reducible refine K18.iteF ?_) | (with_reducible refine K18.iteNT ?_) | (with_reducible refine K18.iteNF ?_)
  | (with_reducible refine K18.r_for ?_) | (with_reducible refine K18.r_while ?_) | (with_reducible refine K18.r_lc ?_) | (with_reducible refine K18.r_iR1 ?_) | (with_reducible refine K18.r_iR2 ?_) | (with_reducible refine K18.r_iL ?_) | (with_reducible refine K18.r_iT ?_) | (with_reducible refine K18.r_iS ?_)
  | dsimp only [L2.start, List.map, List.replicate, List.length, List.cons_append, List.nil_append, List.append_nil, Nat.reduceAdd, Nat.reduceSub, List.set])
local macro_rules | `(tactic| walk_at "go") => `(tactic| repeat walk_at "go1")
local macro_rules | `(tactic| walk_at "go1") => `(tactic| first
  | (with_reducible refine K18.r_dnotin ?_) | (with_reducible refine K18.r_din ?_) | (with_reducible refine K18.r_dput ?_) | (with_reducible refine K18.r_dnewK ?_) | (with_reducible refine K18.r_dnewT ?_)
  | (with_reducible refine K18.r_gtup ?_) | (with_reducible refine K18.r_gcons ?_) | (with_reducible refine K18.r_gnil ?_) | (with_reducible refine K18.r_iAny ?_) | (with_reducible refine K18.r_lenZ (by first | assumption | omega) ?_))
local macro_rules | `(tactic| walk_at "go1") => `(tactic| first
  | (with_reducible refine K18.r_notN ?_) | (with_reducible refine K18.r_truth ?_))
namespace K18
open PySem PySem.Spec PyProof.Rows L2
local macro_rules | `(tactic| walk_at "go1") => `(tactic| first
  | (with_reducible refine K18.r_dc ?_) | (with_reducible refine K18.r_fld ?_) | (with_reducible refine K18.r_gfld ?_) | (with_reducible refine K18.r_sfld ?_) | (with_reducible refine K18.r_meth ?_) | (with_reducible refine K18.r_methK ?_))
section
variable {P : Program} {w : World} {K : PySem.W.Frag} {mg : Str → Option Value} {base : Heap}
/-- all that a walk and a pair of papers have -/
structure WkD (K : PySem.W.Frag) (H : Hp) (q : Addr) (sg : List Nat) (acc : Wd → Bool) (L : List (List Nat)) (E : List Nat) : Prop where
  wo : WalkO K H q sg L E
  le : Least sg.length acc L E
  len : L.length ≤ 40
  sg : Sgn sg
theorem WkD.same {H H' : Hp} {q : Addr} {sg : List Nat} {acc : Wd → Bool} {L : List (List Nat)} {E : List Nat} (h : WkD K H q sg acc L E) (e : Same H H') : WkD K H' q sg acc L E := ⟨h.wo.same e, h.le, h.len, h.sg⟩
theorem TwoP.same {H H' : Hp} {p : Addr} {sg l1 l2 : List Nat} (h : TwoP H p sg l1 l2) (e : Same H H') : TwoP H' p sg l1 l2 := ⟨e _ _ h.1, h.2⟩
theorem RawD.same {H H' : Hp} {p : Addr} {k n : Nat} {rows : List (List Nat)} {gs : List Nat} (h : RawD K H p k n rows gs) (e : Same H H') : RawD K H' p k n rows gs := ⟨(let ⟨rv, gv, h1, h2, h3⟩ := h.at_; ⟨rv, gv, e _ _ h1, h2.kp (same_kp e), h3.kp (same_kp e)⟩), h.tab, h.goal⟩
/-- an object made -/
theorem mk_obj (cn : Str) (both : Bool) {H1 : Hp} {x dx q : Addr} {sg l1 l2 : List Nat} {acc : Wd → Bool} {L : List (List Nat)} {E : List Nat} {Q : VK} {XE : XK} (hx : H1 x = none) (hdx : H1 dx = none) (ne : dx ≠ x) (W : WkD K H1 q sg acc L E) (p1 : Pap sg l1) (p2 : Pap sg l2) (n1 : l1.length ≤ 60) (n2 : l2.length ≤ 60)
    (k : ∀ c H', Same H1 H' → TO K sg H' x cn c → LeastC sg.length (wantC L E both (wd sg l1) (wd sg l2)) c → Q .non H') :
    spObj K cn both [.ref x, .ref q, .str (S l1), .str (S l2)] (upd (upd H1 dx (.own x)) x (.ins (He.ga K cn) dx [])) Q XE := by
  have s1 : Same H1 (upd (upd H1 dx (.own x)) x (.ins (He.ga K cn) dx [])) := (same_new hdx).trans (same_new (by rw [upd_ne ne.symm]; exact hx))
  have lsg := W.sg.len
  refine ⟨x, dx, q, sg, l1, l2, acc, L, E, rfl, upd_same, W.wo.same s1, W.le, W.len, by omega, W.sg.asc, p1, p2, n1, n2, fun v c H' sb ho LC CO => ?_⟩
  refine k c H' (fun b o hb => ?_) ⟨dx, v, ho, CO⟩ LC
  exact sb b o (fun z => by rw [z, hx] at hb; cases hb) (s1 _ _ hb)
theorem pe_mK1 {X : Cx} {e o : Expr} {es : List Expr} {kws : List Keyword} {ta : TE} {t tk : TA} {k n : Nat} {m : Str} {ps ks : List Str} {sp : Sp} {C : Addr} {pos apos : Pos} {pl : Sem Bool} (F : MK1 X.prog X.w X.K X.mg X.base CX0 k C m ps n ks sp) (hr : Room k X.A) (ho : PE X o ta) (ha : PA X (e :: es) t) (hkw : PK X kws tk)
    (hall : (backToKw pos (keywordEach kws X.env)).all (·.1.isSome) = true := by rfl) (hks : (backToKw pos (keywordEach kws X.env)).filterMap (·.1) = ks := by rfl)
    (hst : starEach (e :: es) X.env = (false, eval e X.env) :: starEach es X.env := by rfl)
    (hpl : ((backTo pos (starEach (e :: es) X.env)).any (·.1) || (backToKw pos (keywordEach kws X.env)).any (·.1.isNone)) = false := by rfl)
    (ht : eval (.Call (.Attribute o m apos) (e :: es) kws pos) X.env = (do
      let ov ← eval o X.env
      standAt apos.atName
      let (f, first) ← holding [ov] (getMethod ov m pl)
      callWith pos f first (backTo pos (starEach (e :: es) X.env)) (backToKw pos (keywordEach kws X.env))) := by rfl) :
    PE X (.Call (.Attribute o m apos) (e :: es) kws pos) (tMethK C m n ks.length sp (fun vs zs => vs ++ zs) E0 ta t tk) := by
  obtain ⟨f, fd, F, hm, hc, hb⟩ := F.ex
  exact pe_methK ho hc hm F hr hb pass0 ha hkw hall hks hst hpl ht
def spAsked (K : PySem.W.Frag) : Sp := fun vs H Q _ => ∃ (p q pp : Addr) (sg : List Nat) (n : Nat) (rows : List (List Nat)) (gs : List Nat) (acc : Wd → Bool) (L : List (List Nat)) (E l1 l2 : List Nat), vs = [.str (S sg), .ref p, .ref q, .ref pp] ∧ RawD K H p sg.length n rows gs ∧ WkD K H q sg acc L E ∧
  (∀ w, Ltk sg.length w → (run (stp rows) 0 w ∈ gs ↔ run (stp L) 0 w ∈ E)) ∧ TwoP H pp sg l1 l2 ∧ n ≤ 16 ∧ ∀ H', Same H H' → Q (.bl true) H'
theorem sc__law_asked : FnScope ["_law_signs", "_law_raw", "_law_walk", "_law_papers", "_law_telling", "_law_hiding", "_law_blind", "_law_seeing", "_law_behind", "_law_one", "_law_z", "_law_pair"] ["_law_signs", "_law_raw", "_law_walk", "_law_papers"] (defScope s__law_asked) := ⟨rfl, rfl, rfl, by decide +kernel, rfl, by decide +kernel, by decide +kernel⟩
theorem ok__law_asked (T : Tx K mg) : C1 P w K mg base CX0 6 "_law_asked" ["_law_signs", "_law_raw", "_law_walk", "_law_papers"] (spAsked K) := by
  obtain ⟨fd, F⟩ := d__law_asked T
  refine .mk1 F (g__law_asked T) (fun _ _ _ _ _ _ us hl => match us, hl with | [_, _, _, _], _ => rfl) sc__law_asked (fun vs H Q E h => ?_) (fun cdv A outer s H vs Q E hr h => ?_)
  · obtain ⟨p, q, pp, sg, n, rows, gs, acc, L, E', l1, l2, rfl, RD, W, HE, TP, hn, k⟩ := h
    rfl
  obtain ⟨p, q, pp, sg, n, rows, gs, acc, L, E', l1, l2, rfl, RD, W, HE, TP, hn, k⟩ := h
  have hu := hu_of hr
  have hu64 := hu64_of hr
  have hu6 := hu64' hr
  refine ⟨_, (pss_cons (ps_set (i := 4) sc__law_asked.nd rfl (Or.inl rfl) (pe_c1 (ok__law_context T) (hr.mono (by decide)) (by rfl) (pa_cons (pv 0) (pa_cons (pv 1) (pa_cons (pv 3) (pa_cons pe_bl pa_nil))))))
      (pss_cons (ps_set (i := 5) sc__law_asked.nd rfl (Or.inl rfl) (pe_c1 (ok__law_context T) (hr.mono (by decide)) (by rfl) (pa_cons (pv 0) (pa_cons (pv 1) (pa_cons (pv 3) (pa_cons pe_bl pa_nil))))))
      (pss_cons (ps_set (i := 6) sc__law_asked.nd rfl (Or.inl rfl) (pe_mk1 (ok_Blind___init__ T) (hr.mono (by decide)) (by rfl) (pa_cons (pv 2) (pa_cons (pe_ix (ix_listK K (by rfl)) (pv 3) pe_int (fun _ _ => rfl)) (pa_cons (pe_ix (ix_listK K (by rfl)) (pv 3) pe_int (fun _ _ => rfl)) pa_nil)))))
      (pss_cons (ps_set (i := 7) sc__law_asked.nd rfl (Or.inl rfl) (pe_mk1 (ok_Seeing___init__ T) (hr.mono (by decide)) (by rfl) (pa_cons (pv 2) (pa_cons (pe_ix (ix_listK K (by rfl)) (pv 3) pe_int (fun _ _ => rfl)) (pa_cons (pe_ix (ix_listK K (by rfl)) (pv 3) pe_int (fun _ _ => rfl)) pa_nil)))))
      (pss_cons (ps_if (pw_or (pt_not (pt_val (pe_c1 (ok__law_told_of T) (hr.mono (by decide)) (by rfl) (pa_cons (pv 6) (pa_cons (pv 4) pa_nil))))) (pw_or1 (pt_not (pt_val (pe_c1 (ok__law_told_of T) (hr.mono (by decide)) (by rfl) (pa_cons (pv 7) (pa_cons (pv 5) pa_nil))))))).pt (pss_one (ps_ret pe_bl)) pss_nil)
      (pss_cons (ps_if (pw_or (pt_not (pt_val (pe_c1 (ok__law_told_of T) (hr.mono (by decide)) (by rfl) (pa_cons (pe_mk1 (ok_Seeing___init__ T) (hr.mono (by decide)) (by rfl) (pa_cons (pv 2) (pa_cons (pe_ix (ix_listK K (by rfl)) (pv 3) pe_int (fun _ _ => rfl)) (pa_cons (pe_ix (ix_listK K (by rfl)) (pv 3) pe_int (fun _ _ => rfl)) pa_nil)))) (pa_cons (pv 5) pa_nil))))) (pw_or1 (pt_not (pt_val (pe_c1 (ok__law_told_of T) (hr.mono (by decide)) (by rfl) (pa_cons (pe_mk1 (ok_Blind___init__ T) (hr.mono (by decide)) (by rfl) (pa_cons (pv 2) (pa_cons (pe_ix (ix_listK K (by rfl)) (pv 3) pe_int (fun _ _ => rfl)) (pa_cons (pe_ix (ix_listK K (by rfl)) (pv 3) pe_int (fun _ _ => rfl)) pa_nil)))) (pa_cons (pv 4) pa_nil))))))).pt (pss_one (ps_ret pe_bl)) pss_nil)
      (pss_cons (ps_setLc (i := 8) (own := [("_law_z", 10)]) (g := gName 10) (by rfl) sc__law_asked.nd rfl rfl (sw_true rfl rfl rfl (by decide +kernel)) (pi_range1 (by rfl) (f_range T) (pa_cons (pe_callB (call_len_own (hr.mono (by decide)) (ok_Walk___len__ T)) (by rfl) (f_len T) PySem.boot_len (pa_cons (pv 2) pa_nil)) pa_nil)) (blkOk_by (own := [("_law_z", 10)]) (by kernel_rfl)) (fun _ _ _ _ _ => pg_name (i := 10) sc__law_asked.nd rfl (Or.inr rfl)) (fun _ _ _ _ _ => pts_nil) (fun _ _ _ _ _ => (pe_lc (own := [("_law_one", 9)]) (g := gName 9) (by rfl) sc__law_asked.nd (pi_listK K (by rfl) (pv 3)) (blkOk_by (own := [("_law_one", 9)]) (by kernel_rfl)) (fun _ _ _ _ _ => pg_name (i := 9) sc__law_asked.nd rfl (Or.inl rfl)) (fun _ _ _ _ _ => pts_nil) (fun _ _ _ _ _ => (pe_mK1 (ok_Walk_standing T) (hr.mono (by decide)) (pv 2) (pa_cons (pv 9) pa_nil) (pk_cons (pv 10) pk_nil))))))
      (pss_cons (ps_if (pt_cmpR op_ne (pe_callB (cr_allK K (by rfl) rfl) (by rfl) (f_all T) (by decide +kernel) (pa_cons (pe_lc (own := [("_law_pair", 11)]) (g := gName 11) (by rfl) sc__law_asked.nd (pi_listK K (by rfl) (pv 8)) (blkOk_by (own := [("_law_pair", 11)]) (by kernel_rfl)) (fun _ _ _ _ _ => pg_name (i := 11) sc__law_asked.nd rfl (Or.inl rfl)) (fun _ _ _ _ _ => pts_nil) (fun _ _ _ _ _ => (pe_cmpR op_eq (pe_ix (ix_listK K (by rfl)) (pv 11) pe_int (fun _ _ => rfl)) (pe_ix (ix_listK K (by rfl)) (pv 11) pe_int (fun _ _ => rfl)) (nomark _)))) pa_nil)) (pe_cmpR op_isN (pv 4) pe_non (nomark _)) (nomark _)) (pss_one (ps_ret pe_bl)) pss_nil)
      (pss_one (ps_ret (pe_and (pe_c1 (ok__law_told_of T) (hr.mono (by decide)) (by rfl) (pa_cons (pv 6) (pa_cons (pv 4) pa_nil))) (pe_one (pe_c1 (ok__law_told_of T) (hr.mono (by decide)) (by rfl) (pa_cons (pv 7) (pa_cons (pv 5) pa_nil))))))))))))))), ?_⟩
  walk_at "go"
  have lsg := W.sg.len
  have h127 := W.sg.le
  obtain ⟨_, pl1, pl2, n1, n2⟩ := id TP
  have k1 := wd_ltk pl1
  have k2 := wd_ltk pl2
  refine ⟨sg, p, pp, false, n, rows, gs, l1, l2, rfl, RD, TP, hn, by omega, W.sg.asc, fun vt ot H1 s1 LC1 CO1 => ?_⟩
  walk_at "go"
  refine ⟨sg, p, pp, true, n, rows, gs, l1, l2, rfl, RD.same s1, TP.same s1, hn, by omega, W.sg.asc, fun vh oh H2 s2 LC2 CO2 => ?_⟩
  have s02 := s1.trans s2
  replace CO1 := CO1.same s2
  replace W := W.same s02
  replace TP := TP.same s02
  have e1 : ∀ (both : Bool) (c : Cw), CL sg.length c → wantC rows gs both (wd sg l1) (wd sg l2) c = wantC L E' both (wd sg l1) (wd sg l2) c := fun both c hc => wantC_eq HE k1 k2 c hc
  have e2 : ∀ (both : Bool) (c : Cw), CL sg.length c → wantC rows gs both (wd sg l1) (wd sg l2) c = wantC L E' both (wd sg l2) (wd sg l1) c := fun both c hc => (e1 both c hc).trans (wantC_swap c)
  walk_at "go"
  refine r_ixL (SqL.of TP.1) rfl ?_
  walk_at "go"
  refine r_ixL (SqL.of TP.1) rfl ?_
  walk_at "go"
  intro xb dxb hxb hdxb nexb
  refine mk_obj "Blind" false hxb hdxb nexb W pl1 pl2 n1 n2 fun cb H3 s3 TB LCb => ⟨rfl, ?_⟩
  obtain rfl := LeastC.uniq (e1 false) LC1 LCb
  replace CO1 := CO1.same s3
  replace CO2 := CO2.same s3
  replace W := W.same s3
  replace TP := TP.same s3
  walk_at "go"
  refine r_ixL (SqL.of TP.1) rfl ?_
  walk_at "go"
  refine r_ixL (SqL.of TP.1) rfl ?_
  walk_at "go"
  intro xs dxs hxs hdxs nexs
  refine mk_obj "Seeing" true hxs hdxs nexs W pl1 pl2 n1 n2 fun cs H4 s4 TS_ LCs => ⟨rfl, ?_⟩
  obtain rfl := LeastC.uniq (e1 true) LC2 LCs
  replace CO1 := CO1.same s4
  replace CO2 := CO2.same s4
  replace W := W.same s4
  replace TP := TP.same s4
  replace TB := TB.same s4
  have s04 := (s02.trans s3).trans s4
  walk_at "go"
  refine ⟨xb, "Blind", vt, ot, sg, rfl, .inl rfl, TB, CO1, h127, fun H5 s5 => ?_⟩
  walk_at "go"
  refine ⟨xs, "Seeing", vh, oh, sg, rfl, .inr rfl, TS_.same s5, CO2.same s5, h127, fun H6 s6 => ?_⟩
  walk_at "go"
  have s46 := s5.trans s6
  replace CO1 := CO1.same s46
  replace CO2 := CO2.same s46
  replace W := W.same s46
  replace TP := TP.same s46
  replace TB := TB.same s46
  replace TS_ := TS_.same s46
  have s06 := s04.trans s46
  clear s46 s5 s6 s04 s3 s4
  refine r_ixL (SqL.of TP.1) rfl ?_
  walk_at "go"
  refine r_ixL (SqL.of TP.1) rfl ?_
  walk_at "go"
  intro x2 dx2 hx2 hdx2 nex2
  refine mk_obj "Seeing" true hx2 hdx2 nex2 W pl2 pl1 n2 n1 fun c2 H7 s7 T2 LC7 => ⟨rfl, ?_⟩
  obtain rfl := LeastC.uniq (e2 true) LC2 LC7
  replace CO1 := CO1.same s7
  replace CO2 := CO2.same s7
  replace W := W.same s7
  replace TP := TP.same s7
  replace TB := TB.same s7
  replace TS_ := TS_.same s7
  have s07 := s06.trans s7
  walk_at "go"
  refine ⟨x2, "Seeing", vh, oh, sg, rfl, .inr rfl, T2, CO2, h127, fun H8 s8 => ?_⟩
  walk_at "go"
  replace CO1 := CO1.same s8
  replace CO2 := CO2.same s8
  replace W := W.same s8
  replace TP := TP.same s8
  replace TB := TB.same s8
  replace TS_ := TS_.same s8
  have s08 := s07.trans s8
  clear s7 s8 s06 s07
  refine r_ixL (SqL.of TP.1) rfl ?_
  walk_at "go"
  refine r_ixL (SqL.of TP.1) rfl ?_
  walk_at "go"
  intro x3 dx3 hx3 hdx3 nex3
  refine mk_obj "Blind" false hx3 hdx3 nex3 W pl2 pl1 n2 n1 fun c3 H9 s9 T3 LC9 => ⟨rfl, ?_⟩
  obtain rfl := LeastC.uniq (e2 false) LC1 LC9
  replace CO1 := CO1.same s9
  replace CO2 := CO2.same s9
  replace W := W.same s9
  replace TP := TP.same s9
  replace TB := TB.same s9
  replace TS_ := TS_.same s9
  walk_at "go"
  refine ⟨x3, "Blind", vt, ot, sg, rfl, .inl rfl, T3, CO1, h127, fun HA sA => ?_⟩
  walk_at "go"
  replace CO1 := CO1.same sA
  replace CO2 := CO2.same sA
  replace W := W.same sA
  replace TP := TP.same sA
  replace TB := TB.same sA
  replace TS_ := TS_.same sA
  have s0A := (s08.trans s9).trans sA
  clear s08 s9 sA
  have Tb := W.le.tab
  have hL := W.len
  refine ⟨q, sg, L, E', rfl, W.wo, by omega, ?_⟩
  refine ⟨_, rfl, by omega, by omega, fun D hD => ?_⟩
  rw [show ((L.length : Nat) : Int).toNat = L.length by omega]
  refine lcg_prs (rs := List.range L.length) (xs := (List.range L.length).map fun i => V.int ((0 : Int) + (i : Nat))) (by simp) (by simp; omega) hD walk_R (fun _ _ => trivial) (fun (z : Nat) y (HB : Hp) => (∃ b, y = .ref b ∧ HB b = some (.lst (rI [run (stp L) z (wd sg l1), run (stp L) z (wd sg l2)]))) ∧ y ≠ .ref D) ?_ ?_ ?_ ?_
  · rintro z y HB HC s ⟨⟨b, e, hb⟩, h0⟩
    exact ⟨⟨b, e, s _ _ hb⟩, h0⟩
  · intro m z x HB hz hx sB ⟨aB, haB⟩ QB kB
    have hzm : z = m ∧ m < L.length := by
      obtain ⟨h1, h2⟩ := List.getElem?_eq_some_iff.mp hz
      rw [List.getElem_range] at h2
      rw [List.length_range] at h1
      exact ⟨h2.symm, h1⟩
    obtain ⟨rfl, hzl⟩ := hzm
    have ex : x = V.int ((z : Nat) : Int) := by
      rw [List.getElem?_map, List.getElem?_range hzl] at hx
      have := Option.some.inj hx
      rw [← this]
      show V.int (0 + ((z : Nat) : Int)) = _
      rw [Int.zero_add]
    subst ex
    have TPB := TP.same sB
    have WB := W.same sB
    walk_at "go"
    refine ⟨pp, rfl, ⟨_, SqL.of TPB.1⟩, fun D2 hD2 => ?_⟩
    refine lcg_L (xs := [.str (S l1), .str (S l2)]) (fun v => match v with | .str s => .int ((run (stp L) z (wd sg s.cps.toList) : Nat) : Int) | v => v) (by simp) hD2 (SqL.of TPB.1) ?_ ?_
    · intro i x HC hx sC QC kC
      have : ∃ l, x = .str (S l) ∧ Pap sg l ∧ l.length ≤ 60 := by
        rcases i with _ | _ | i
        · exact ⟨l1, (Option.some.inj hx).symm, pl1, n1⟩
        · exact ⟨l2, (Option.some.inj hx).symm, pl2, n2⟩
        · simp at hx
      obtain ⟨l, rfl, pl, nl⟩ := this
      obtain ⟨dw, vl, ve, hq, _⟩ := id (WB.same sC).wo
      walk_at "go"
      refine ⟨q, dw, _, rfl, hq, rfl, ?_⟩
      walk_at "go"
      refine ⟨rfl, rfl, ⟨q, sg, l, z, L, E', rfl, (WB.same sC).wo, Tb, hzl, pl, nl, by omega, W.sg.asc, fun HD sD => ?_⟩⟩
      exact kC HD sD
    · intro HC sC hLC
      refine kB _ _ sC ⟨⟨D2, rfl, by rw [hLC]; rfl⟩, fun z => ?_⟩
      rw [V.ref.inj z, haB] at hD2
      cases hD2
  · intro ys HB sB hLB py
    walk_at "go"
    replace CO1 := CO1.same sB
    replace CO2 := CO2.same sB
    replace TB := TB.same sB
    replace TS_ := TS_.same sB
    have s0B := s0A.trans sB
    have ly : ys.length = L.length := by rw [← Paired.length py, List.length_range]
    refine ⟨D, rfl, ⟨_, SqL.of hLB⟩, fun D3 hD3 => ?_⟩
    refine lcg_prs (rs := List.range L.length) (xs := ys) (by rw [List.length_range, ly]) (by omega) hD3 L2.walk_list (fun H s => SqL.of (s _ _ hLB)) (fun (z : Nat) y _ => y = .bl (decide (run (stp L) z (wd sg l1) = run (stp L) z (wd sg l2)))) (fun _ _ _ _ _ h => h) ?_ ?_ (fun _ _ _ _ h _ _ => h)
    · intro m z y HC hz hy sC _ QC kC
      obtain ⟨z', hz', ⟨b, rfl, hb⟩, _⟩ := paired_get' py hy
      rw [hz] at hz'
      cases hz'
      walk_at "go"
      refine r_ixL (SqL.of (sC _ _ hb)) rfl ?_
      walk_at "go"
      refine r_ixL (SqL.of (sC _ _ hb)) rfl ?_
      walk_at "go"
      refine kC _ _ (Same.refl _) ?_
      congr 1
      have : ((run (stp L) z (wd sg l1) : Nat) : Int) = ((run (stp L) z (wd sg l2) : Nat) : Int) ↔ run (stp L) z (wd sg l1) = run (stp L) z (wd sg l2) := by omega
      simp [this]
    · intro zs HC sC hLC pz
      have ez : zs = ((List.range L.length).map fun z => decide (run (stp L) z (wd sg l1) = run (stp L) z (wd sg l2))).map V.bl := by
        have := paired_map pz
        rw [this, List.map_map]
        rfl
      subst ez
      walk_at "go"
      refine ⟨D3, _, rfl, SqL.of hLC, ?_⟩
      walk_at "go"
      refine ⟨rfl, ?_⟩
      walk_at "go"
      have LC1' : LeastC sg.length (wantC L E' false (wd sg l1) (wd sg l2)) ot := LCb
      have hx := asked_exit W.le k1 k2 LC1'
      have hall : ((List.range L.length).map fun z => decide (run (stp L) z (wd sg l1) = run (stp L) z (wd sg l2))).all id = decide (vt = V.non) := by
        rw [Bool.eq_iff_iff, List.all_eq_true, decide_eq_true_eq]
        have hv : vt = V.non ↔ ot = none := by
          cases ot with
          | none => exact ⟨fun _ => rfl, fun _ => CO1⟩
          | some c =>
            obtain ⟨⟨r, e, _⟩, _⟩ := CO1
            exact ⟨fun h => (by rw [e] at h; cases h), fun h => (by cases h)⟩
        rw [hv, ← hx]
        constructor
        · intro h z hz
          have := h _ (List.mem_map.mpr ⟨z, List.mem_range.mpr hz, rfl⟩)
          exact of_decide_eq_true this
        · intro h b hb
          obtain ⟨z, hz, e⟩ := List.mem_map.mp hb
          rw [← e]
          exact decide_eq_true (h z (List.mem_range.mp hz))
      rw [hall]
      refine ite_no (by simp) ?_
      walk_at "go"
      refine ⟨xb, "Blind", vt, ot, sg, rfl, .inl rfl, TB.same sC, CO1.same sC, h127, fun HD sD => ?_⟩
      walk_at "go"
      refine ⟨xs, "Seeing", vh, oh, sg, rfl, .inr rfl, (TS_.same sC).same sD, (CO2.same sC).same sD, h127, fun HE sE => ?_⟩
      exact k _ (((s0B.trans sC).trans sD).trans sE)
  · rintro z y HB o ⟨⟨b, e, hb⟩, h0⟩ hL2 o'
    exact ⟨⟨b, e, by rw [upd_ne (fun z => h0 (by rw [e, z]))]; exact hb⟩, h0⟩
end

end K18
end
section
set_option maxRecDepth 100000
set_option maxHeartbeats 4000000
/-! XG: promises under which no repr is under way; repr of data; the law's call by such a promise; a new instance whose making may raise. -/
namespace K18
open PySem PySem.Spec PyProof.Rows L2
/-- no built-in that looks for itself is under way -/
def NoG (A : Around) : Prop := A.guards = some []
structure FnG (P : Program) (w : World) (K : PySem.W.Frag) (mg : Str → Option Value) (base : Heap) (k : Nat) (f : Addr) (fd : FuncData) (ps : List Str) (sp : Sp) : Prop where
  len : ∀ vs H Q E, sp vs H Q E → vs.length = ps.length
  go : ∀ (A : Around) (outer : List Env) (s : Shared) (H : Hp) (us : List Value) (vs : List V) (Q : VK) (E : XK), NoG A → Room k A → Env0 P w K mg base A outer s H → BindsTo s fd ⟨us, []⟩ (ps.zip us) → Vals vs us → sp vs H Q E →
    codeAny (model P w) A (.call (.ref f) ⟨us, []⟩) (CR CX0 outer P w H s Q E) s
theorem fnG_of {P : Program} {w : World} {K : PySem.W.Frag} {mg : Str → Option Value} {base : Heap} {k : Nat} {f : Addr} {x qual : Str} {N ps : List Str} {sp : Sp} {pa : Arguments} {bd : List Stmt} {sc : Scope} {dvs : List V} {kws : List (Str × V)} {fd : FuncData} (F : FunD K x qual pa bd sc dvs kws f fd) (S : FnScope N ps sc) (len : ∀ vs H Q E, sp vs H Q E → vs.length = ps.length)
    (body : ∀ (cdv : Value) (A : Around) (outer : List Env) (s : Shared) (H : Hp) (vs : List V) (Q : VK) (E : XK), NoG A → Room k (A.deeper (envOfC qual sc s.heap.objs.size f cdv)) → sp vs H Q E →
      ∃ t, PSs (cxOf CX0 P w K mg base N qual sc f cdv A outer s H E) bd t ∧ t { nx := fun _ H' => Q .non H', rt := Q } (start N vs) H) : FnG P w K mg base (k + 1) f fd ps sp := by
  refine ⟨len, fun A outer s H us vs Q E hg hr e0 hb r hsp => ?_⟩
  obtain ⟨oc, od, dV, kV, doc, pm, an, cdv, ct, osl, rfl, lk, hcd, _, _⟩ := F.ex
  have kb : ∀ b o, base.get? b = some o → s.heap.get? b = some o := fun b o e => (e0.bs b o e).1
  have kin : K.In s.heap := e0.mod.kin.keeps kb
  have nlm := e0.mod.nolimit.keeps kb
  refine codeAny_call_function hr.depth (kin _ _ lk) rfl S.co S.gen rfl (PySem.W.codeRec_of kin hcd) (hb _ _ _ _ ?_)
  refine wpAny_newFunctionEnv_cells S.kind (fun y hy => ?_) fun env he s1 ic => ?_
  · have hm := S.par y.1 (List.of_mem_zip (show (y.1, y.2) ∈ ps.zip us from hy)).1
    exact hm.imp id fun c => ⟨c, PySem.W.cellsFrom_some _ _ _ (.inl c)⟩
  · obtain rfl := he
    obtain ⟨t, ht, ha⟩ := body cdv A outer s H vs Q E hg (hr.deeper _) hsp
    have I0 := inv_start (CX := CX0) (P := P) (w := w) (K := K) (mg := mg) (base := base) (E := E) S hr.hd e0 (len vs H Q E hsp) r ic
    refine ⟨nlm.keeps ic.toInCall.keep, codeAny_func (wpAny_mono (ht.run [] s1 _ H _ I0 ha) (fun fl s' hs => ?_) fun _ _ z => z)⟩
    cases fl with
    | ret u =>
      obtain ⟨v, _, H', J, rv, q⟩ := hs
      exact ⟨v, H', J.os, J.bare, J.base, J.hok, rv, q⟩
    | next =>
      obtain ⟨_, H', J, q⟩ := hs
      exact ⟨.non, H', J.os, J.bare, J.base, J.hok, rfl, q⟩
    | brk =>
      obtain ⟨_, _, _, q⟩ := hs
      exact q.elim
    | cont =>
      obtain ⟨_, _, _, q⟩ := hs
      exact q.elim
/-- a def by its name, under NoG -/
structure C1G (P : Program) (w : World) (K : PySem.W.Frag) (mg : Str → Option Value) (base : Heap) (k : Nat) (x : Str) (ps : List Str) (sp : Sp) : Prop where
  ex : ∃ (f : Addr) (fd : FuncData), FnG P w K mg base k f fd ps sp ∧ mg x = some (.ref f) ∧ PySem.W.keepIn K (.ref f) = true ∧ Binds K fd ps []
theorem run_fnG {X : Cx} {k : Nat} {f : Addr} {fd : FuncData} {ps : List Str} {sp : Sp} {pins : List (Addr × Obj)} {σ : L2.St} {H : Hp} {s : Shared} {Q : VK} {us : List Value} {vs : List V} (F : FnG X.prog X.w X.K X.mg X.base k f fd ps sp) (hg : NoG X.A) (hr : Room k X.A) (hb : Binds X.K fd ps []) (I : Inv X pins σ H s) (r : Vals vs us) (h : sp vs H Q E0) :
    wpAny (model X.prog X.w) X.A (call (.ref f) us) (EP X pins σ Q) X.xe s := by
  have hl : us.length = ps.length := r.length.symm.trans (F.len _ _ _ _ h)
  have b := hb s us I.kIn (by rw [List.append_nil]; exact hl)
  rw [List.append_nil] at b
  refine wpAny_call (codeAny_mono (F.go X.A X.stack s H us vs Q E0 hg hr I.env0 b r h) fun q s' hq => ?_)
  cases q with
  | error e => exact (pass0 : Passes CX0 X E0) pins σ H s e s' I hq
  | ok fl =>
    cases fl with
    | ret u => exact I.after hq
    | next => exact False.elim hq
    | brk => exact False.elim hq
    | cont => exact False.elim hq
theorem pe_cG {X : Cx} {k : Nat} {x : Str} {ps : List Str} {sp : Sp} {e : Expr} {es : List Expr} {t : TA} {p pos : Pos} (F : C1G X.prog X.w X.K X.mg X.base k x ps sp) (hG : NoG X.A) (hr : Room k X.A) (hg : Gl X x) (ha : PA X (e :: es) t) (hdb : (x == ("__debug__" : Str)) = false := by decide)
    (he : starEach (e :: es) X.env = (false, eval e X.env) :: starEach es X.env := by rfl) (hpl : (backTo pos (starEach es X.env)).any (·.1) = false := by rfl) : PE X (.Call (.Name x p) (e :: es) [] pos) (tCall sp [] E0 t) := by
  obtain ⟨f, fd, F, hm, hk, hb⟩ := F.ex
  refine ⟨fun pins s σ H Q I h => wpAny_Call_Name_kw (ld_glob I hg hm ?_ hdb)⟩
  refine PySem.W.callWith_K (h₀ := X.base) I.ok.mod.kin hk (thn (ha.run pos pins s σ H _ I h) fun us s1 ⟨vs, H1, I1, r, q⟩ => ⟨I1.kIn, ?_⟩) he hpl
  have q' : sp (vs ++ []) H1 Q E0 := q
  rw [List.append_nil] at q'
  exact run_fnG F hG hr hb I1 r q'
/-- the law called -/
theorem law_callG {P : Program} {w : World} {K : PySem.W.Frag} {mg mb : Str → Option Value} {k : Nat} {fa a : Addr} {fd : FuncData} {x : Str} {sp : Sp} {s₁ : Shared} {vs : List Value} {ns : List Int}
    (KX : K.In s₁.heap) (hns : s₁.heap.Ns mainGlobals mg) (hb : s₁.heap.Ns builtinsNs mb) (hbb : ∀ x : Str, x ≠ "__name__" → mb x = bootBuiltins x) (hlim : s₁.heap.NoLimit) (hg : s₁.gens = #[])
    (ha : s₁.heap.get? a = some { cls := .type "list", data := .seq vs.toArray }) (hi : IntsAre vs ns) (hl : ns.length ≤ sizeLine) (hr : Room k callerA)
    (F : ∀ base : Heap, K.In base → base.Ns mainGlobals mg → FnG P w K mg base k fa fd [x] sp) (hbind : ∀ (s : Shared) (u : Value), BindsTo s fd ⟨[u], []⟩ [(x, u)])
    (hsp : ∀ H : Hp, SqL K H a (ns.map V.int) → sp [.ref a] H (fun v _ => v = .bl true) fun _ _ _ => False) :
    codeAny (model P w) callerA (.call (.ref fa) ⟨[.ref a], []⟩) (fun r s' => r = .ok (.ret (.bool true)) ∧ OldK s₁.heap s'.heap ∧ s'.os = s₁.os ∧ AllBare s'.gens) s₁ := by
  have rv := vals_ints hi
  have lv := hi.length
  -- the script, if it is none of the module's objects, is locked
  generalize hO : ({ cls := .type "list", data := .seq vs.toArray } : Obj) = o0 at ha
  obtain ⟨H, only, free, sq⟩ : ∃ H : Hp, (∀ b u, H b = some u → b = a ∧ u = .frz o0 (.lst (ns.map V.int))) ∧ (H a ≠ none → K.lookup a = none) ∧ SqL K H a (ns.map V.int) := by
    cases hk : K.lookup a with
    | none =>
      refine ⟨fun b => if b = a then some (.frz o0 (.lst (ns.map V.int))) else none, fun b u e => ?_, fun _ => rfl, .inl (.inr ⟨o0, if_pos rfl⟩)⟩
      by_cases q : b = a
      · exact ⟨q, (Option.some.inj ((if_pos q).symm.trans e)).symm⟩
      · have e' := (if_neg q).symm.trans e
        cases e'
    | some o =>
      have e := KX a o hk
      rw [ha] at e
      cases e
      cases hO
      exact ⟨fun _ => none, fun b u e => (by cases e), fun e => absurd rfl e, .inr ⟨_, vs.toArray, _, hk, rfl, rfl, rfl, by rw [List.size_toArray, lv]; exact hl, by simpa using rv⟩⟩
  have hidden : ∀ {b : Addr} {o : Obj}, s₁.heap.get? b = some o → b ≠ a → (hidT s₁.heap H).get? b = some o := fun {b o} e ne => hidT_get e (by
    cases q : H b with
    | none => rfl
    | some u => exact absurd (only b u q).1 ne)
  have notDict : ∀ {es : Array DictEntry} {ep : Nat}, o0.data ≠ .dict es ep := fun {es ep} e => by
    rw [← hO] at e
    cases e
  have nsK : ∀ {b : Addr} {m : Str → Option Value}, s₁.heap.Ns b m → (hidT s₁.heap H).Ns b m := fun {b m} ⟨o, es, ep, e, d, r⟩ => ⟨o, es, ep, hidden e (fun z => by rw [z, ha] at e; cases e; exact notDict d), d, r⟩
  have hKb : K.In (hidT s₁.heap H) := fun b o e => by
    by_cases q : b = a
    · subst q
      refine hidT_get (KX _ _ e) (Classical.byContradiction fun z => ?_)
      rw [free z] at e
      cases e
    · exact hidden (KX b o e) q
  have hok : HOk P w H s₁.heap := fun b u e => by
    obtain ⟨e1, e2⟩ := only b u e
    subst e1 e2
    exact ⟨ha, by rw [List.length_map]; exact hl, vs, _, rv, by rw [ha, ← hO]⟩
  have e0 : Env0 P w K mg (hidT s₁.heap H) callerA [] s₁ H := ⟨rfl, ⟨hKb, nsK hns, ⟨mb, nsK hb, hbb⟩, let ⟨mc, h1, h2⟩ := hlim; ⟨mc, nsK h1, h2⟩⟩, fun b o e => of_hidT e, Nat.le_of_eq (hidT_size _ _), trivial, fun b hb => absurd (show b ∈ ([] : List Addr) from hb) (by simp), hok, .of_eq hg⟩
  refine codeAny_mono ((F _ hKb (nsK hns)).go callerA [] s₁ H [.ref a] [.ref a] _ _ rfl hr e0 (hbind s₁ (.ref a)) (.cons rfl .nil) (hsp H sq)) fun r s' h => ?_
  cases r with
  | error e => exact False.elim h
  | ok fl =>
    cases fl with
    | next => exact False.elim h
    | brk => exact False.elim h
    | cont => exact False.elim h
    | ret u =>
      obtain ⟨v, H', os, bare, un, hok', r', q⟩ := h
      have q' : v = .bl true := q
      subst q'
      obtain rfl : u = Value.bool true := r'
      refine ⟨rfl, OldK.of_keep fun b o e => ?_, os, bare⟩
      cases z : H b with
      | none => exact un.keep b o e z (fun y => absurd (show b ∈ ([] : List Addr) from y) (by simp)) (fun y => absurd (show b ∈ ([] : List Addr) from y) (by simp))
      | some u =>
        obtain ⟨e1, e2⟩ := only b u z
        subst e1 e2
        have z2 := un.frzs _ _ _ z
        obtain ⟨e3, _⟩ := hok' _ _ z2
        rw [ha] at e
        cases e
        exact e3
theorem walk_ofG {l : PySem.W.OpenLaw} {n k : Nat} {q : Program} {loose : List Str} {XP : (Str → Option Value) → Heap → Prop} {YP : World → Heap → Prop} {d : DefRec} {x : Str}
    (hn : l.most = some n) (hn2 : n ≤ sizeLine) (hdf : d.params.defaults = []) (hr : Room k callerA)
    (F : ∀ (w : World) (mg : Str → Option Value) (fa : Addr) (h : Heap), YP w h → h.Ns mainGlobals mg → mg d.name = some (.ref fa) →
      ∃ (K : PySem.W.Frag) (fd : FuncData) (sp : Sp), K.In h ∧ (∀ (s : Shared) (u : Value), BindsTo s fd ⟨[u], []⟩ [(x, u)]) ∧
        (∀ (H : Hp) (a : Addr) (ns : List Int), ns.length ≤ n → SqL K H a (ns.map V.int) → sp [.ref a] H (fun v _ => v = .bl true) fun _ _ _ => False) ∧
        ∀ base : Heap, K.In base → base.Ns mainGlobals mg → FnG l.prog w K mg base k fa fd [x] sp) :
    PySem.W.WalkO q loose XP YP l.row.toRowW d [] (fun f vs => PySem.call f vs) := by
  refine Att.attach_call hn hdf fun w s₀ s₁ mg mb fa o pm cd doc a vs ns G Y ho hd hcd hmg hobj hints hlen hgn => ?_
  obtain ⟨K, fd, sp, KX, hb, hsp, hF⟩ := F w mg fa _ Y G.T.g hmg
  exact law_callG KX G.T.g G.T.b G.T.builtins G.T.nolimit hgn hobj hints (Nat.le_trans hlen hn2) hr hF hb fun H hS => hsp H a ns hlen hS
/-! ### repr of data -/
def rRepr (K : PySem.W.Frag) : List V → Hp → VK → Prop := fun xs H Q => ∃ v d, xs = [v] ∧ Dp K H v d ∧ d.showable = true ∧ d.hasDict = false ∧ d.depth ≤ 8 ∧ d.shown.length ≤ sizeLine ∧ Q (.str d.shown) H
theorem call_reprD {X : Cx} (hg : NoG X.A) (hu : X.A.units + 64 < cLine) : CallR X (.builtin "repr") (rRepr X.K) := by
  intro pins s σ H xs us Q I r h
  obtain ⟨v, d, rfl, hd, hs, hnd, hdp, hz, q⟩ := h
  obtain ⟨u, rfl, rx⟩ := vals1 r
  obtain ⟨as, r1⟩ := Dp.reads I d v u hd rx
  have fin : ∀ (z : Str) (tk tk' : Tok), d.shown = z → EP X pins σ Q (.str z tk) { s with toks := tk' } := fun z tk tk' e => ⟨.str z, H, I.tok _, ⟨tk, rfl⟩, by rw [← e]; exact q⟩
  have finR : ∀ h' u tk, (∀ b o, s.heap.get? b = some o → h'.get? b = some o) → EP X pins σ Q (.str d.shown u) { s with heap := h', toks := tk } := fun h' u tk hk => ⟨.str d.shown, H, I.kept (t' := tk) hk, ⟨u, rfl⟩, q⟩
  cases r1 with
  | none => exact P.repr_of_none (fin _ _ _ rfl)
  | bool b => exact P.repr_of_bool (fin _ _ _ rfl)
  | int i t => exact P.repr_of_int (of_decide_eq_true (show decide (i.natAbs.log2 < 1920) = true from hs)) (fin _ _ _ rfl)
  | str x t => exact P.repr_of_str (fin _ _ _ rfl) hz
  | list h1 h2 h3 h4 => exact repr_of_reads' (.list h1 h2 h3 h4) hs (PyData.noDict_hsm hnd) hg (by omega) (fun _ _ e => e) finR hz
  | tuple h1 h2 h3 h4 => exact repr_of_reads' (.tuple h1 h2 h3 h4) hs (PyData.noDict_hsm hnd) hg (by omega) (fun _ _ e => e) finR hz
  | dict _ _ _ _ _ => cases hnd
end K18
end
section
set_option maxRecDepth 100000
set_option maxHeartbeats 4000000
local macro_rules | `(tactic| walk_at "go1") => `(tactic| first
  | (with_reducible refine K18.r_seq ?_) | (with_reducible refine K18.r_ifs ?_) | (with_reducible refine K18.r_ret ?_) | (with_reducible refine K18.r_asg ?_) | (with_reducible refine K18.r_drop ?_) | (with_reducible refine K18.r_next ?_)
  | (with_reducible refine K18.r_name ?_) | (with_reducible refine K18.r_var rfl ?_) | (with_reducible refine K18.r_c ?_) | (with_reducible refine K18.r_op ?_) | (with_reducible refine K18.r_cons ?_) | (with_reducible refine K18.r_nil ?_)
  | (with_reducible refine K18.r_cb ?_) | (with_reducible refine K18.r_call ?_) | (with_reducible refine K18.r_make ?_) | (with_reducible refine K18.r_B ?_) | (with_reducible refine K18.r_test ?_) | (with_reducible refine K18.r_or ?_) | (with_reducible refine K18.r_and ?_) | (with_reducible refine K18.r_not ?_)
  | (with_reducible refine K18.r_andV ?_) | (with_reducible refine K18.r_orV ?_) | (with_reducible refine K18.r_notV ?_) | (with_reducible refine K18.r_if ?_) | (with_reducible refine K18.r_aug rfl ?_) | (with_reducible refine K18.r_ip ?_)
  | (with_reducible refine K18.r_I0 ?_) | (with_reducible refine K18.r_int1 ?_) | (with_reducible refine K18.r_mod (by first | decide | omega) ?_) | (with_reducible refine K18.r_fdivN (by first | decide | omega) (by first | decide | omega) ?_) | (with_reducible refine K18.r_mulR (by first | decide | omega) (by first | decide | omega) ?_) | (with_reducible refine K18.r_mulL (by first | decide | omega) (by first | decide | omega) ?_) | (with_reducible refine K18.r_inG ?_) | (with_reducible refine K18.r_notInG ?_) | (with_reducible refine K18.r_ltS ?_) | (with_reducible refine K18.r_ex ?_) | (with_reducible refine K18.r_eqI ?_) | (with_reducible refine K18.r_neI ?_) | (with_reducible refine K18.r_eqB ?_) | (with_reducible refine K18.r_neB ?_) | (with_reducible refine K18.r_isN ?_)
  | (with_reducible refine K18.r_tup ?_) | (with_reducible refine K18.r_lst ?_) | (with_reducible refine K18.r_yes ?_) | (with_reducible refine K18.r_gsub ?_) | (with_reducible refine K18.r_dget ?_) | (with_reducible refine K18.r_sl ?_) | (with_reducible refine K18.r_part ?_) | (with_reducible refine K18.r_nopart ?_)
  | (with_reducible refine K18.r_chain ?_) | (with_reducible refine K18.r_bm ?_) | (with_reducible refine K18.iteT ?_) | (with_reducible refine K18.iteF ?_) | (with_reducible refine K18.iteNT ?_) | (with_reducible refine K18.iteNF ?_)
  | (with_reducible refine K18.r_for ?_) | (with_reducible refine K18.r_while ?_) | (with_reducible refine K18.r_lc ?_) | (with_reducible refine K18.r_iR1 ?_) | (with_reducible refine K18.r_iR2 ?_) | (with_reducible refine K18.r_iL ?_) | (with_reducible refine K18.r_iT ?_) | (with_reducible refine K18.r_iS ?_)
  | dsimp only [L2.start, List.map, List.replicate, List.length, List.cons_append, List.nil_append, List.append_nil, Nat.reduceAdd, Nat.reduceSub, List.set])
local macro_rules | `(tactic| walk_at "go") => `(tactic| repeat walk_at "go1")
local macro_rules | `(tactic| walk_at "go1") => `(tactic| first
  | (with_reducible refine K18.r_dnotin ?_) | (with_reducible refine K18.r_din ?_) | (with_reducible refine K18.r_dput ?_) | (with_reducible refine K18.r_dnewK ?_) | (with_reducible refine K18.r_dnewT ?_)
  | (with_reducible refine K18.r_gtup ?_) | (with_reducible refine K18.r_gcons ?_) | (with_reducible refine K18.r_gnil ?_) | (with_reducible refine K18.r_iAny ?_) | (with_reducible refine K18.r_lenZ (by first | assumption | omega) ?_))
local macro_rules | `(tactic| walk_at "go1") => `(tactic| first
  | (with_reducible refine K18.r_notN ?_) | (with_reducible refine K18.r_truth ?_))
namespace K18
open PySem PySem.Spec PyProof.Rows L2
local macro_rules | `(tactic| walk_at "go1") => `(tactic| first
  | (with_reducible refine K18.r_dc ?_) | (with_reducible refine K18.r_fld ?_) | (with_reducible refine K18.r_gfld ?_) | (with_reducible refine K18.r_sfld ?_) | (with_reducible refine K18.r_meth ?_) | (with_reducible refine K18.r_methK ?_))
/-! ### defs that raise -/
section
variable {P : Program} {w : World} {K : PySem.W.Frag} {mg : Str → Option Value} {base : Heap} {k : Nat} {x c qual : Str} {N ps : List Str} {sp : Sp} {pa : Arguments} {bd : List Stmt} {sc : Scope} {fd : FuncData}
theorem C1.mkX (F : FunD K x qual pa bd sc [] [] (He.fAd K (x, none)) fd) (hm : mg x = some (.ref (He.ga K x)))
    (hb : ∀ (kV doc pm : Value) (an : Option Addr) (cdv ct : Value) (us : List Value), us.length = ps.length → bindArgs (PySem.W.fnOf x qual pa bd sc .none kV doc pm an cdv ct) ⟨us, []⟩ = pure (ps.zip us))
    (S : FnScope N ps sc) (len : ∀ vs H Q E, sp vs H Q E → vs.length = ps.length)
    (body : ∀ (cdv : Value) (A : Around) (outer : List Env) (s : Shared) (H : Hp) (vs : List V) (Q : VK) (E : XK), Room k (A.deeper (envOfC qual sc s.heap.objs.size (He.fAd K (x, none)) cdv)) → sp vs H Q E →
      ∃ t, PSs (cxOf (L2.CX P w) P w K mg base N qual sc (He.fAd K (x, none)) cdv A outer s H E) bd t ∧ t { nx := fun _ H' => Q .non H', rt := Q } (start N vs) H) : C1 P w K mg base (L2.CX P w) (k + 1) x ps sp :=
  ⟨_, fd, F.ok S len body, hm, F.kp, F.bindsN hb⟩
theorem I1.mkX (F : FunD K "__init__" qual pa bd sc [] [] (He.fAd K (c, some "__init__")) fd) (hM : Mk K (He.ga K c) (He.ma K (He.ga K c) "__init__")) (hm : mg c = some (.ref (He.ga K c)))
    (hb : ∀ (kV doc pm : Value) (an : Option Addr) (cdv ct : Value) (us : List Value), us.length = ps.length → bindArgs (PySem.W.fnOf "__init__" qual pa bd sc .none kV doc pm an cdv ct) ⟨us, []⟩ = pure (ps.zip us))
    (S : FnScope N ps sc) (len : ∀ vs H Q E, sp vs H Q E → vs.length = ps.length)
    (body : ∀ (cdv : Value) (A : Around) (outer : List Env) (s : Shared) (H : Hp) (vs : List V) (Q : VK) (E : XK), Room k (A.deeper (envOfC qual sc s.heap.objs.size (He.fAd K (c, some "__init__")) cdv)) → sp vs H Q E →
      ∃ t, PSs (cxOf (L2.CX P w) P w K mg base N qual sc (He.fAd K (c, some "__init__")) cdv A outer s H E) bd t ∧ t { nx := fun _ H' => Q .non H', rt := Q } (start N vs) H) : I1 P w K mg base (L2.CX P w) (k + 1) c ps sp :=
  ⟨_, fd, F.ok S len body, hM, hm, F.bindsN hb⟩
end
section
variable {X : Cx} {k : Nat} {x : Str} {ps : List Str} {sp : Sp} {e : Expr} {es : List Expr} {t : TA} {p pos : Pos}
theorem pe_cX {E : XK} (F : C1 X.prog X.w X.K X.mg X.base (L2.CX X.prog X.w) k x ps sp) (hr : Room k X.A) (hg : Gl X x) (tk : Takes X fun cls d _ H => E cls d H) (ha : PA X (e :: es) t) (hdb : (x == ("__debug__" : Str)) = false := by decide)
    (he : starEach (e :: es) X.env = (false, eval e X.env) :: starEach es X.env := by rfl) (hpl : (backTo pos (starEach es X.env)).any (·.1) = false := by rfl) : PE X (.Call (.Name x p) (e :: es) [] pos) (tCall sp [] E t) := by
  obtain ⟨f, fd, F, hm, hk, hb⟩ := F.ex
  exact pe_call F hr hg hm hk hb .nil (passes_call tk fun _ _ _ _ h => h) ha hdb he hpl
/-- a new instance, what is raised wished for at the caller's slots -/
def tMakeS (C : Addr) (sp : Sp) (E : L2.St → XK) (t : TA) : TE := fun σ H Q => t σ H fun vs H1 => ∀ y dy, H1 y = none → H1 dy = none → dy ≠ y → sp (.ref y :: vs) (upd (upd H1 dy (.own y)) y (.ins C dy [])) (fun v H2 => v = .non ∧ Q (.ref y) H2) (E σ)
theorem run_mkS {C f : Addr} {fd : FuncData} {CX : CXT} {E : L2.St → XK} {pins : List (Addr × Obj)} {σ : L2.St} {H : Hp} {s : Shared} {Q : VK} {us : List Value} {vs : List V} (M : Mk X.K C f) (F : FnOk X.prog X.w X.K X.mg X.base CX k f fd ps sp) (hr : Room (k + 1) X.A) (hb : Binds X.K fd ps []) (hx : PassesAt CX X σ (E σ)) (I : Inv X pins σ H s) (r : Vals vs us)
    (h : ∀ y dy, H y = none → H dy = none → dy ≠ y → sp (.ref y :: vs) (upd (upd H dy (.own y)) y (.ins C dy [])) (fun v H2 => v = .non ∧ Q (.ref y) H2) (E σ)) : wpAny (model X.prog X.w) X.A (call (.ref C) us) (EP X pins σ Q) X.xe s := by
  have I2 := Inv.made (C := C) I
  have h1 := h _ _ (I.hok.fresh (Nat.le_succ _)) (I.hok.fresh (Nat.le_refl _)) (Nat.ne_of_lt (Nat.lt_succ_self _))
  have rs : Vals (V.ref (s.heap.objs.size + 1) :: vs) (Value.ref (s.heap.objs.size + 1) :: us) := .cons rfl r
  have b := hb _ (Value.ref (s.heap.objs.size + 1) :: us) I2.kIn (by rw [List.append_nil, ← rs.length]; exact F.len _ _ _ _ h1)
  rw [List.append_nil] at b
  have run := F.run _ X.stack _ _ ⟨_, []⟩ _ _ _ _ (hr.make C us []) (I2.env0.make C us []) b rs h1
  refine wpAny_call (make_map (f := f) I.kIn M.makes M.init (beq_iff_eq.mp M.fn) (codeAny_mono run fun q s' hq => ?_))
  cases q with
  | error e => exact hx pins _ _ e s' I2 hq
  | ok fl =>
    cases fl with
    | ret u =>
      obtain ⟨v, H', J, rv, ev, q3⟩ := I2.after hq
      subst ev
      exact ⟨rv, .ref (s.heap.objs.size + 1), H', J, rfl, q3⟩
    | next => exact False.elim hq
    | brk => exact False.elim hq
    | cont => exact False.elim hq
theorem pe_mkS {W : WX} (F : I1 X.prog X.w X.K X.mg X.base (L2.CX X.prog X.w) k x ps sp) (hr : Room (k + 1) X.A) (hg : Gl X x) (tk : Takes X W) (ha : PA X (e :: es) t) (hdb : (x == ("__debug__" : Str)) = false := by decide)
    (he : starEach (e :: es) X.env = (false, eval e X.env) :: starEach es X.env := by rfl) (hpl : (backTo pos (starEach es X.env)).any (·.1) = false := by rfl) : PE X (.Call (.Name x p) (e :: es) [] pos) (tMakeS (He.ga X.K x) sp (WE W) t) := by
  obtain ⟨f, fd, F, hM, hm, hb⟩ := F.ex
  refine ⟨fun pins s σ H Q I h => wpAny_Call_Name_kw (ld_glob I hg hm ?_ hdb)⟩
  refine PySem.W.callWith_K (h₀ := X.base) I.ok.mod.kin hM.kp (thn (ha.run pos pins s σ H _ I h) fun us s1 ⟨vs, H1, I1, r, q⟩ => ⟨I1.kIn, ?_⟩) he hpl
  exact run_mkS (E := WE W) hM F hr hb (passAt tk σ) I1 r q
end
section
variable {K : PySem.W.Frag} {σ : L2.St} {H : Hp} {Q : VK} {D : Ends} {ta : TA}
theorem r_raiseBp {C : Addr} {W : WX} (h : ta σ H fun vs H1 => ∃ v, vs = [v] ∧ ∀ d, H1 d = none → W (.ref C) (some d) σ (upd H1 d (.xd [(("paper" : Str), v)]))) : tRaiseBp C W ta D σ H := h
theorem r_makeS {C : Addr} {sp : Sp} {E : L2.St → XK} (h : ta σ H fun vs H1 => ∀ y dy, H1 y = none → H1 dy = none → dy ≠ y → sp (.ref y :: vs) (upd (upd H1 dy (.own y)) y (.ins C dy [])) (fun v H2 => v = .non ∧ Q (.ref y) H2) (E σ)) : tMakeS C sp E ta σ H Q := h
theorem r_xf {a : Addr} {cls : Value} {d : Option Addr} {C : Addr} {f : Str} {te : TE} (h : te σ H fun x H1 => x = .ref a ∧ cls = .ref C ∧ ∃ (dd : Addr) (fs : List (Str × V)) (v : V), d = some dd ∧ H1 dd = some (.xd fs) ∧ fs.lookup f = some v ∧ Q v H1) : tXf a cls d C f te σ H Q := h
end
/-! ### isinstance of a caught error with its own dict -/
def rIsD (K : PySem.W.Frag) (C a : Addr) (cls : Value) (d : Option Addr) : List V → Hp → VK → Prop := fun xs H Q => ∃ (c : V) (cv : Value) (b : Bool) (dd : Addr) (fs : List (Str × V)), xs = [.ref a, c] ∧ cls = .ref C ∧ d = some dd ∧ H dd = some (.xd fs) ∧ (∀ u, RelV c u → u = cv) ∧ PySem.W.kitOne K (.ref C) cv = some b ∧ Q (.bl b) H
theorem call_isD {X : Cx} {a C : Addr} {oe : Obj} {cls : Value} {d : Option Addr} {pn : List (Addr × Obj)} (T : ExcC X.K C) (hz : Zc cls d oe) (hf : ∃ vs, oe.data = .fields vs) : CallR (X.suite a ((a, oe) :: pn)) (.builtin "isinstance") (rIsD X.K C a cls d) := by
  intro pins s σ H xs us Q I r h
  obtain ⟨c, cv, b, dd, fs, rfl, ec, ed, ea, hcv, e, q⟩ := h
  subst ec ed
  cases r with
  | cons rx rr =>
    cases rr with
    | cons rt rr =>
      cases rr
      cases rx
      have ec := hcv _ rt
      subst ec
      obtain ⟨hget, _⟩ := I.pin (a, oe) (List.mem_append_left _ List.mem_cons_self)
      obtain ⟨vs, hv⟩ := hf
      obtain ⟨mA, hns, _⟩ := (show ObjOk X.prog X.w H s.heap dd (.xd fs) from I.hok dd _ ea)
      obtain ⟨od, ho, _⟩ := lookIn_ns hns
      have J : PySem.W.InstAt s.heap a oe C (some od) := ⟨hget, hz.1, by unfold PySem.W.notCls; rw [hv] <;> rfl, by rw [hz.2]; exact ho⟩
      have hcl : (PySem.W.clsIn X.K C).isSome = true := by
        have := T.hd
        unfold PySem.W.hasDictIn at this
        cases z : PySem.W.clsIn X.K C with
        | none =>
          rw [z] at this
          cases this
        | some cd => rfl
      exact PySem.W.kia_one (PySem.W.kitx_exc hcl T.hg T.hk T.hs T.ha T.hn T.ht T.hm) I.kIn J e (fun z => nomatch z) fun tk => ⟨.bl b, H, I.kept (t' := tk) fun _ _ z => z, rfl, q⟩
local macro_rules | `(tactic| walk_at "go1") => `(tactic| first
  | (with_reducible refine K18.r_raiseBp ?_) | (with_reducible refine K18.r_makeS ?_) | (with_reducible refine K18.r_xf ?_))
/-! ### things that are no papers -/
def BadP (K : PySem.W.Frag) (sg : List Nat) (H : Hp) (t : V) : Prop := (∃ l, t = .str (S l) ∧ l.length ≤ 1000 ∧ (decide (0 ≤ l.length) && decide (l.length ≤ 60) && l.all fun c => decide (c ∈ sg)) = false) ∨ ∀ H', Same H H' → ∃ n, TyX K H' t (.type n) ∧ kitB n "str" = some false
theorem BadP.same {K : PySem.W.Frag} {sg : List Nat} {H H' : Hp} {t : V} (h : BadP K sg H t) (e : Same H H') : BadP K sg H' t := by
  rcases h with h | h
  · exact .inl h
  · exact .inr fun H2 e2 => h H2 (e.trans e2)
section
variable {P : Program} {w : World} {K : PySem.W.Frag} {mg : Str → Option Value} {base : Heap}
def Raised (K : PySem.W.Frag) (H : Hp) (E : XK) (t : V) : Prop := ∀ d H', Same H H' → H' d = none → E (.ref (bpC K)) (some d) (upd H' d (.xd [(("paper" : Str), t)]))
theorem Raised.same {H H' : Hp} {E : XK} {t : V} (h : Raised K H E t) (e : Same H H') : Raised K H' E t := fun d H2 e2 hd => h d H2 (e.trans e2) hd
def spChkX (K : PySem.W.Frag) : Sp := fun vs H _ E => ∃ (sg : List Nat) (t : V), vs = [.str (S sg), t] ∧ BadP K sg H t ∧ Raised K H E t
theorem okX_check_paper (T : Tx K mg) (B : Bp P K) : C1 P w K mg base (L2.CX P w) 2 "check_paper" ["signs", "paper"] (spChkX K) := by
  obtain ⟨fd, F⟩ := d_check_paper T
  obtain ⟨t1, h_MOST_SIGNS⟩ := v_MOST_SIGNS T
  refine .mkX F (g_check_paper T) (fun _ _ _ _ _ _ us hl => match us, hl with | [_, _], _ => rfl) sc_check_paper (fun vs H Q E h => ?_) (fun cdv A outer s H vs Q E hr h => ?_)
  · obtain ⟨sg, t, rfl, _⟩ := h
    rfl
  · obtain ⟨sg, t, rfl, hbad, k⟩ := h
    refine ⟨_, (pss_one (ps_if (pt_not (pt_val (pe_c1 (ok_made_of T) (hr.mono (by decide)) (by rfl) (pa_cons (pv 1) (pa_cons (pv 0) (pa_cons pe_int (pa_cons (pe_glob (v := .int 60) (by rfl) h_MOST_SIGNS ⟨_, rfl⟩) pa_nil))))))) (pss_one (ps_raiseBp rfl B (g_BadPaper T) (f_super T) hr (takes_of rfl rfl rfl rfl) (pa_cons (pv 1) pa_nil))) pss_nil)), ?_⟩
    walk_at "go"
    rcases hbad with ⟨l, rfl, hz, hb⟩ | hb
    · refine ⟨_, sg, 0, 60, rfl, .inl ⟨l, rfl, hz, fun H1 s1 => ?_⟩⟩
      rw [hb]
      walk_at "go"
      exact ⟨_, rfl, fun d hd => k d H1 s1 hd⟩
    · obtain ⟨n, h1, h2⟩ := hb H (Same.refl _)
      refine ⟨_, sg, 0, 60, rfl, .inr ⟨n, h1, h2, ?_⟩⟩
      walk_at "go"
      exact ⟨_, rfl, fun d hd => k d H (Same.refl _) hd⟩
def spObjX (K : PySem.W.Frag) (cn : Str) : Sp := fun vs H _ E => ∃ (o dx p : Addr) (sg : List Nat) (L : List (List Nat)) (E' : List Nat) (t1 t2 : V), vs = [.ref o, .ref p, t1, t2] ∧ H o = some (.ins (He.ga K cn) dx []) ∧ WalkO K H p sg L E' ∧
  ((BadP K sg H t1 ∧ Raised K H E t1) ∨ ∃ l, t1 = .str (S l) ∧ Pap sg l ∧ l.length ≤ 60 ∧ BadP K sg H t2 ∧ Raised K H E t2)
theorem okX_Blind (T : Tx K mg) (B : Bp P K) : I1 P w K mg base (L2.CX P w) 4 "Blind" ["self", "walk", "first", "second"] (spObjX K "Blind") := by
  obtain ⟨fd, F⟩ := d_Blind___init__ T
  refine .mkX F (k_Blind T) (g_Blind T) (fun _ _ _ _ _ _ us hl => match us, hl with | [_, _, _, _], _ => rfl) sc_Blind___init__ (fun vs H Q E h => ?_) (fun cdv A outer s H vs Q E hr h => ?_)
  · obtain ⟨o, dx, p, sg, L, E', t1, t2, rfl, _⟩ := h
    rfl
  · obtain ⟨o, dx, p, sg, L, E', t1, t2, rfl, ho, W, hc⟩ := h
    obtain ⟨dw, vl, ve, hp, RL, RE⟩ := id W
    rcases hc with ⟨hb, kr⟩ | ⟨l, rfl, pl, nl, hb, kr⟩
    · refine ⟨_, (pss_cons (ps_expr (pe_cX (okX_check_paper T B) (hr.mono (by decide)) (by rfl) (takes_of rfl rfl rfl rfl) (pa_cons (pe_fldK K (by rfl) (pv 1)) (pa_cons (pv 2) pa_nil))))
        (pss_cons (ps_expr (pe_c1 (ok_check_paper T) (hr.mono (by decide)) (by rfl) (pa_cons (pe_fldK K (by rfl) (pv 1)) (pa_cons (pv 3) pa_nil))))
        (pss_one (ps_fldK K (by rfl) (pv 0) (pe_c1 (ok_least_context T) (hr.mono (by decide)) (by rfl) (pa_cons (pv 1) (pa_cons (pv 2) (pa_cons (pv 3) (pa_cons (pe_tup (pa_cons (pe_tup (pa_cons pe_bl (pa_cons pe_bl pa_nil))) (pa_cons (pe_tup (pa_cons pe_bl (pa_cons pe_bl pa_nil))) pa_nil))) pa_nil))))) rfl)))), ?_⟩
      walk_at "go"
      refine ⟨p, _, dw, _, _, rfl, hp, c_Walk T, n_Walk_signs T, rfl, ?_⟩
      walk_at "go"
      exact ⟨sg, t1, rfl, hb, kr⟩
    · refine ⟨_, (pss_cons (ps_expr (pe_c1 (ok_check_paper T) (hr.mono (by decide)) (by rfl) (pa_cons (pe_fldK K (by rfl) (pv 1)) (pa_cons (pv 2) pa_nil))))
        (pss_cons (ps_expr (pe_cX (okX_check_paper T B) (hr.mono (by decide)) (by rfl) (takes_of rfl rfl rfl rfl) (pa_cons (pe_fldK K (by rfl) (pv 1)) (pa_cons (pv 3) pa_nil))))
        (pss_one (ps_fldK K (by rfl) (pv 0) (pe_c1 (ok_least_context T) (hr.mono (by decide)) (by rfl) (pa_cons (pv 1) (pa_cons (pv 2) (pa_cons (pv 3) (pa_cons (pe_tup (pa_cons (pe_tup (pa_cons pe_bl (pa_cons pe_bl pa_nil))) (pa_cons (pe_tup (pa_cons pe_bl (pa_cons pe_bl pa_nil))) pa_nil))) pa_nil))))) rfl)))), ?_⟩
      walk_at "go"
      refine ⟨p, _, dw, _, _, rfl, hp, c_Walk T, n_Walk_signs T, rfl, ?_⟩
      walk_at "go"
      refine ⟨sg, l, rfl, pl, nl, fun H1 s1 => ?_⟩
      walk_at "go"
      refine ⟨p, _, dw, _, _, rfl, s1 _ _ hp, c_Walk T, n_Walk_signs T, rfl, ?_⟩
      walk_at "go"
      exact ⟨sg, t2, rfl, hb.same s1, kr.same s1⟩
theorem okX_Seeing (T : Tx K mg) (B : Bp P K) : I1 P w K mg base (L2.CX P w) 4 "Seeing" ["self", "walk", "first", "second"] (spObjX K "Seeing") := by
  obtain ⟨fd, F⟩ := d_Seeing___init__ T
  refine .mkX F (k_Seeing T) (g_Seeing T) (fun _ _ _ _ _ _ us hl => match us, hl with | [_, _, _, _], _ => rfl) sc_Seeing___init__ (fun vs H Q E h => ?_) (fun cdv A outer s H vs Q E hr h => ?_)
  · obtain ⟨o, dx, p, sg, L, E', t1, t2, rfl, _⟩ := h
    rfl
  · obtain ⟨o, dx, p, sg, L, E', t1, t2, rfl, ho, W, hc⟩ := h
    obtain ⟨dw, vl, ve, hp, RL, RE⟩ := id W
    rcases hc with ⟨hb, kr⟩ | ⟨l, rfl, pl, nl, hb, kr⟩
    · refine ⟨_, (pss_cons (ps_expr (pe_cX (okX_check_paper T B) (hr.mono (by decide)) (by rfl) (takes_of rfl rfl rfl rfl) (pa_cons (pe_fldK K (by rfl) (pv 1)) (pa_cons (pv 2) pa_nil))))
        (pss_cons (ps_expr (pe_c1 (ok_check_paper T) (hr.mono (by decide)) (by rfl) (pa_cons (pe_fldK K (by rfl) (pv 1)) (pa_cons (pv 3) pa_nil))))
        (pss_one (ps_fldK K (by rfl) (pv 0) (pe_c1 (ok_least_context T) (hr.mono (by decide)) (by rfl) (pa_cons (pv 1) (pa_cons (pv 2) (pa_cons (pv 3) (pa_cons (pe_tup (pa_cons (pe_tup (pa_cons pe_bl (pa_cons pe_bl pa_nil))) pa_nil)) pa_nil))))) rfl)))), ?_⟩
      walk_at "go"
      refine ⟨p, _, dw, _, _, rfl, hp, c_Walk T, n_Walk_signs T, rfl, ?_⟩
      walk_at "go"
      exact ⟨sg, t1, rfl, hb, kr⟩
    · refine ⟨_, (pss_cons (ps_expr (pe_c1 (ok_check_paper T) (hr.mono (by decide)) (by rfl) (pa_cons (pe_fldK K (by rfl) (pv 1)) (pa_cons (pv 2) pa_nil))))
        (pss_cons (ps_expr (pe_cX (okX_check_paper T B) (hr.mono (by decide)) (by rfl) (takes_of rfl rfl rfl rfl) (pa_cons (pe_fldK K (by rfl) (pv 1)) (pa_cons (pv 3) pa_nil))))
        (pss_one (ps_fldK K (by rfl) (pv 0) (pe_c1 (ok_least_context T) (hr.mono (by decide)) (by rfl) (pa_cons (pv 1) (pa_cons (pv 2) (pa_cons (pv 3) (pa_cons (pe_tup (pa_cons (pe_tup (pa_cons pe_bl (pa_cons pe_bl pa_nil))) pa_nil)) pa_nil))))) rfl)))), ?_⟩
      walk_at "go"
      refine ⟨p, _, dw, _, _, rfl, hp, c_Walk T, n_Walk_signs T, rfl, ?_⟩
      walk_at "go"
      refine ⟨sg, l, rfl, pl, nl, fun H1 s1 => ?_⟩
      walk_at "go"
      refine ⟨p, _, dw, _, _, rfl, s1 _ _ hp, c_Walk T, n_Walk_signs T, rfl, ?_⟩
      walk_at "go"
      exact ⟨sg, t2, rfl, hb.same s1, kr.same s1⟩
end

end K18
end
section
set_option maxRecDepth 100000
set_option maxHeartbeats 4000000
local macro_rules | `(tactic| walk_at "go1") => `(tactic| first
  | (with_reducible refine K18.r_seq ?_) | (with_reducible refine K18.r_ifs ?_) | (with_reducible refine K18.r_ret ?_) | (with_reducible refine K18.r_asg ?_) | (with_reducible refine K18.r_drop ?_) | (with_reducible refine K18.r_next ?_)
  | (with_reducible refine K18.r_name ?_) | (with_reducible refine K18.r_var rfl ?_) | (with_reducible refine K18.r_c ?_) | (with_reducible refine K18.r_op ?_) | (with_reducible refine K18.r_cons ?_) | (with_reducible refine K18.r_nil ?_)
  | (with_reducible refine K18.r_cb ?_) | (with_reducible refine K18.r_call ?_) | (with_reducible refine K18.r_make ?_) | (with_reducible refine K18.r_B ?_) | (with_reducible refine K18.r_test ?_) | (with_reducible refine K18.r_or ?_) | (with_reducible refine K18.r_and ?_) | (with_reducible refine K18.r_not ?_)
  | (with_reducible refine K18.r_andV ?_) | (with_reducible refine K18.r_orV ?_) | (with_reducible refine K18.r_notV ?_) | (with_reducible refine K18.r_if ?_) | (with_reducible refine K18.r_aug rfl ?_) | (with_reducible refine K18.r_ip ?_)
  | (with_reducible refine K18.r_I0 ?_) | (with_reducible refine K18.r_int1 ?_) | (with_reducible refine K18.r_mod (by first | decide | omega) ?_) | (with_reducible refine K18.r_fdivN (by first | decide | omega) (by first | decide | omega) ?_) | (with_reducible refine K18.r_mulR (by first | decide | omega) (by first | decide | omega) ?_) | (with_reducible refine K18.r_mulL (by first | decide | omega) (by first | decide | omega) ?_) | (with_reducible refine K18.r_inG ?_) | (with_reducible refine K18.r_notInG ?_) | (with_reducible refine K18.r_ltS ?_) | (with_reducible refine K18.r_ex ?_) | (with_reducible refine K18.r_eqI ?_) | (with_reducible refine K18.r_neI ?_) | (with_reducible refine K18.r_eqB ?_) | (with_reducible refine K18.r_neB ?_) | (with_reducible refine K18.r_isN ?_)
  | (with_reducible refine K18.r_tup ?_) | (with_reducible refine K18.r_lst ?_) | (with_reducible refine K18.r_yes ?_) | (with_reducible refine K18.r_gsub ?_) | (with_reducible refine K18.r_dget ?_) | (with_reducible refine K18.r_sl ?_) | (with_reducible refine K18.r_part ?_) | (with_reducible refine K18.r_nopart ?_)
  | (with_reducible refine K18.r_chain ?_) | (with_reducible refine K18.r_bm ?_) | (with_reducible refine K18.iteT ?_) | (with_reducible refine K18.iteF ?_) | (with_reducible refine K18.iteNT ?_) | (with_reducible refine K18.iteNF ?_)
  | (with_reducible refine K18.r_for ?_) | (with_reducible refine K18.r_while ?_) | (with_reducible refine K18.r_lc ?_) | (with_reducible refine K18.r_iR1 ?_) | (with_reducible refine K18.r_iR2 ?_) | (with_reducible refine K18.r_iL ?_) | (with_reducible refine K18.r_iT ?_) | (with_reducible refine K18.r_iS ?_)
  | dsimp only [L2.start, List.map, List.replicate, List.length, List.cons_append, List.nil_append, List.append_nil, Nat.reduceAdd, Nat.reduceSub, List.set])
local macro_rules | `(tactic| walk_at "go") => `(tactic| repeat walk_at "go1")
local macro_rules | `(tactic| walk_at "go1") => `(tactic| first
  | (with_reducible refine K18.r_dnotin ?_) | (with_reducible refine K18.r_din ?_) | (with_reducible refine K18.r_dput ?_) | (with_reducible refine K18.r_dnewK ?_) | (with_reducible refine K18.r_dnewT ?_)
  | (with_reducible refine K18.r_gtup ?_) | (with_reducible refine K18.r_gcons ?_) | (with_reducible refine K18.r_gnil ?_) | (with_reducible refine K18.r_iAny ?_) | (with_reducible refine K18.r_lenZ (by first | assumption | omega) ?_))
local macro_rules | `(tactic| walk_at "go1") => `(tactic| first
  | (with_reducible refine K18.r_notN ?_) | (with_reducible refine K18.r_truth ?_))
namespace K18
open PySem PySem.Spec PyProof.Rows L2
local macro_rules | `(tactic| walk_at "go1") => `(tactic| first
  | (with_reducible refine K18.r_dc ?_) | (with_reducible refine K18.r_fld ?_) | (with_reducible refine K18.r_gfld ?_) | (with_reducible refine K18.r_sfld ?_) | (with_reducible refine K18.r_meth ?_) | (with_reducible refine K18.r_methK ?_))
local macro_rules | `(tactic| walk_at "go1") => `(tactic| first
  | (with_reducible refine K18.r_raiseBp ?_) | (with_reducible refine K18.r_makeS ?_) | (with_reducible refine K18.r_xf ?_))
section
variable {X : Cx} (K : PySem.W.Frag) (hK : X.K = K)
include hK
theorem pe_mkSK {W : WX} {k : Nat} {x : Str} {ps : List Str} {sp : Sp} {e : Expr} {es : List Expr} {t : TA} {p pos : Pos} (F : I1 X.prog X.w K X.mg X.base (L2.CX X.prog X.w) k x ps sp) (hr : Room (k + 1) X.A) (hg : Gl X x) (tk : Takes X W) (ha : PA X (e :: es) t) (hdb : (x == ("__debug__" : Str)) = false := by decide)
    (he : starEach (e :: es) X.env = (false, eval e X.env) :: starEach es X.env := by rfl) (hpl : (backTo pos (starEach es X.env)).any (·.1) = false := by rfl) : PE X (.Call (.Name x p) (e :: es) [] pos) (tMakeS (He.ga K x) sp (WE W) t) := by
  subst hK
  exact pe_mkS F hr hg tk ha hdb he hpl
theorem call_reprDK (hg : NoG X.A) (hu : X.A.units + 64 < cLine) : CallR X (.builtin "repr") (rRepr K) := hK ▸ call_reprD hg hu
end
theorem call_isDK {X : Cx} (K : PySem.W.Frag) (hK : X.K = K) {a C : Addr} {oe : Obj} {cls : Value} {d : Option Addr} {pn : List (Addr × Obj)} (T : ExcC K C) (hz : Zc cls d oe) (hf : ∃ vs, oe.data = .fields vs) : CallR (X.suite a ((a, oe) :: pn)) (.builtin "isinstance") (rIsD K C a cls d) := by
  subst hK
  exact call_isD T hz hf
theorem pe_xfK {X : Cx} (K : PySem.W.Frag) (hK : X.K = K) {a C : Addr} {oe : Obj} {cls : Value} {d : Option Addr} {pn : List (Addr × Obj)} {e : Expr} {te : TE} {pos : Pos} {n : Str} (T : XfC K C) (hno : PySem.W.findIn K (.ref C) n = some none)
    (hz : Zc cls d oe) (hf : ∃ vs, oe.data = .fields vs) (he : PE (X.suite a ((a, oe) :: pn)) e te) (hb : attributeBase e n X.env (eval e X.env) = eval e X.env := by rfl) :
    PE (X.suite a ((a, oe) :: pn)) (.Attribute e n pos) (tXf a cls d C n te) := by
  subst hK
  exact pe_xf T hno hz hf he hb
/-- a thing that can be compared and shown -/
def ShowD (K : PySem.W.Frag) (H : Hp) (b : V) : Prop := ∃ d, (∀ H', Same H H' → Dp K H' b d) ∧ SeqAt.shaped d = true ∧ d.showable = true ∧ d.hasDict = false ∧ d.depth ≤ 8 ∧ d.shown.length ≤ sizeLine
theorem ShowD.same {K : PySem.W.Frag} {H H' : Hp} {b : V} (h : ShowD K H b) (e : Same H H') : ShowD K H' b := let ⟨d, h1, h2⟩ := h; ⟨d, fun H2 e2 => h1 H2 (e.trans e2), h2⟩
theorem Bp.xf {P : Program} {K : PySem.W.Frag} (B : Bp P K) : XfC K (bpC K) := ⟨B.ga, B.gg, B.exC, B.hdC⟩
section
variable {P : Program} {w : World} {K : PySem.W.Frag} {mg : Str → Option Value} {base : Heap}
def spRefused (K : PySem.W.Frag) : Sp := fun vs H Q _ => ∃ (q : Addr) (sg : List Nat) (L : List (List Nat)) (E' : List Nat) (t1 t2 b : V) (seen : Bool), vs = [.ref q, t1, t2, b, .bl seen] ∧ WalkO K H q sg L E' ∧
  ((BadP K sg H t1 ∧ t1 = b) ∨ ∃ l, t1 = .str (S l) ∧ Pap sg l ∧ l.length ≤ 60 ∧ BadP K sg H t2 ∧ t2 = b) ∧ ShowD K H b ∧ ∀ H', Same H H' → Q (.bl true) H'
theorem sc__law_refused : FnScope ["_law_walk", "_law_first", "_law_second", "_law_bad", "_law_seen", "e", "_law_good"] ["_law_walk", "_law_first", "_law_second", "_law_bad", "_law_seen"] (defScope s__law_refused) := ⟨rfl, rfl, rfl, by decide +kernel, rfl, by decide +kernel, by decide +kernel⟩
theorem okG_refused (T : Tx K mg) (B : Bp P K) : C1G P w K mg base 6 "_law_refused" ["_law_walk", "_law_first", "_law_second", "_law_bad", "_law_seen"] (spRefused K) := by
  obtain ⟨fd, F⟩ := d__law_refused T
  refine ⟨_, fd, fnG_of F sc__law_refused (fun vs H Q E h => ?_) (fun cdv A outer s H vs Q E hG hr h => ?_), g__law_refused T, F.kp, F.bindsN (fun _ _ _ _ _ _ us hl => match us, hl with | [_, _, _, _, _], _ => rfl)⟩
  · obtain ⟨q, sg, L, E', t1, t2, b, seen, rfl, _⟩ := h
    rfl
  · obtain ⟨q, sg, L, E', t1, t2, b, seen, rfl, W, hc, SD, k⟩ := h
    have hu6 := hu64' hr
    refine ⟨_, (pss_cons (ps_try_as (i := 5) rfl rfl sc__law_refused.nd rfl rfl ⟨rfl, by decide, .inl (g_CarryError T)⟩ takes0
        (fun W pn xe tk _ => pss_one (ps_if (pt_val (pv 4)) (pss_one (ps_expr (pe_mkSK K (by rfl) (okX_Seeing T B) (hr.mono (by decide)) (by rfl) tk (pa_cons (pv 0) (pa_cons (pv 1) (pa_cons (pv 2) pa_nil))))))
          (pss_one (ps_expr (pe_mkSK K (by rfl) (okX_Blind T B) (hr.mono (by decide)) (by rfl) tk (pa_cons (pv 0) (pa_cons (pv 1) (pa_cons (pv 2) pa_nil))))))))
        (fun a oe cls d pn hz hf => pss_cons (ps_set (i := 6) sc__law_refused.nd rfl (Or.inl rfl)
            (pe_and (pe_callB (call_isDK K (by rfl) B.is hz hf) (by rfl) (f_isinstance T) (by decide +kernel) (pa_cons (pv 5) (pa_cons (pe_glob (v := .ref (bpC K)) (by rfl) (g_BadPaper T) rfl) pa_nil)))
            (pe_and (pe_callB (call_isDK K (by rfl) B.is hz hf) (by rfl) (f_isinstance T) (by decide +kernel) (pa_cons (pv 5) (pa_cons (pe_glob (v := .ref (He.ga K "Malformed")) (by rfl) (g_Malformed T) rfl) pa_nil)))
            (pe_one (pe_callB (call_isDK K (by rfl) B.is hz hf) (by rfl) (f_isinstance T) (by decide +kernel) (pa_cons (pv 5) (pa_cons (pe_bltn (v := .ty "ValueError") (by rfl) (f_ValueError T) (by decide +kernel) rfl) pa_nil)))))))
          (pss_one (ps_ret (pe_and (pv 6) (pe_and (pe_cmpR (op_eqDK K (by rfl) hu6) (pe_xfK K (by rfl) B.xf B.noN hz hf (pv 5)) (pv 3) (nomark _))
            (pe_one (pe_cmpR op_eq (pe_callB (call_reprDK K (by rfl) hG hu6) (by rfl) (f_repr T) (by decide +kernel) (pa_cons (pe_xfK K (by rfl) B.xf B.noN hz hf (pv 5)) pa_nil)) (pe_callB (call_reprDK K (by rfl) hG hu6) (by rfl) (f_repr T) (by decide +kernel) (pa_cons (pv 3) pa_nil)) (nomark _)))))))))
      (pss_one (ps_ret pe_bl))), ?_⟩
    obtain ⟨dd, hdp, sh, hsw, hnd, hdep, hln⟩ := SD
    have mk : ∀ (cn : Str) (Q' : VK) (E : XK) (y dy : Addr), H y = none → H dy = none → dy ≠ y → (∀ d H1, Same H H1 → H1 d = none → E (.ref (bpC K)) (some d) (upd H1 d (.xd [(("paper" : Str), b)]))) →
        spObjX K cn [.ref y, .ref q, t1, t2] (upd (upd H dy (.own y)) y (.ins (He.ga K cn) dy [])) Q' E := fun cn Q' E y dy hy hdy ne kk => by
      have s1 : Same H (upd (upd H dy (.own y)) y (.ins (He.ga K cn) dy [])) := (same_new hdy).trans (same_new (by rw [upd_ne ne.symm]; exact hy))
      refine ⟨y, dy, q, sg, L, E', t1, t2, rfl, upd_same, W.same s1, ?_⟩
      rcases hc with ⟨hb, rfl⟩ | ⟨l, e1, pl, nl, hb, rfl⟩
      · exact .inl ⟨hb.same s1, fun d H2 s2 hd => kk d H2 (s1.trans s2) hd⟩
      · exact .inr ⟨l, e1, pl, nl, hb.same s1, fun d H2 s2 hd => kk d H2 (s1.trans s2) hd⟩
    walk_at "go"
    refine iteB (fun hb => ?_) (fun hb => ?_)
    · walk_at "go"
      intro y dy hy hdy ne
      refine mk "Seeing" _ _ y dy hy hdy ne fun d H1 s1 hd => ?_
      have s2 := s1.trans (same_new (o := .xd [(("paper" : Str), b)]) hd)
      have hx : upd H1 d (.xd [(("paper" : Str), b)]) d = some (.xd [(("paper" : Str), b)]) := upd_same
      generalize upd H1 d (.xd [(("paper" : Str), b)]) = H2 at s2 hx ⊢
      refine ⟨true, B.te, fun _ a ha => ?_, fun z => (by cases z)⟩
      walk_at "go"
      refine ⟨_, .ref (bpC K), true, d, _, rfl, rfl, rfl, hx, fun u r => r, B.k1, ?_⟩
      walk_at "go"
      refine ⟨_, .ref (He.ga K "Malformed"), true, d, _, rfl, rfl, rfl, hx, fun u r => r, B.k2, ?_⟩
      walk_at "go"
      refine ⟨_, .type "ValueError", true, d, _, rfl, rfl, rfl, hx, fun u r => r, B.k3, ?_⟩
      walk_at "go"
      refine ⟨rfl, rfl, d, _, b, rfl, hx, by simp [List.lookup], ?_⟩
      walk_at "go"
      refine ⟨dd, dd, hdp _ s2, hdp _ s2, sh, sh, ?_⟩
      rw [SeqAt.eqv_refl _ (SeqAt.canLay_of_shaped sh)]
      walk_at "go"
      refine ⟨rfl, rfl, d, _, b, rfl, hx, by simp [List.lookup], ?_⟩
      walk_at "go"
      refine ⟨b, dd, rfl, hdp _ s2, hsw, hnd, hdep, hln, ?_⟩
      walk_at "go"
      refine ⟨b, dd, rfl, hdp _ s2, hsw, hnd, hdep, hln, ?_⟩
      refine ⟨rfl, ?_⟩
      rw [decide_eq_true rfl]
      exact k _ s2
    · walk_at "go"
      intro y dy hy hdy ne
      refine mk "Blind" _ _ y dy hy hdy ne fun d H1 s1 hd => ?_
      have s2 := s1.trans (same_new (o := .xd [(("paper" : Str), b)]) hd)
      have hx : upd H1 d (.xd [(("paper" : Str), b)]) d = some (.xd [(("paper" : Str), b)]) := upd_same
      generalize upd H1 d (.xd [(("paper" : Str), b)]) = H2 at s2 hx ⊢
      refine ⟨true, B.te, fun _ a ha => ?_, fun z => (by cases z)⟩
      walk_at "go"
      refine ⟨_, .ref (bpC K), true, d, _, rfl, rfl, rfl, hx, fun u r => r, B.k1, ?_⟩
      walk_at "go"
      refine ⟨_, .ref (He.ga K "Malformed"), true, d, _, rfl, rfl, rfl, hx, fun u r => r, B.k2, ?_⟩
      walk_at "go"
      refine ⟨_, .type "ValueError", true, d, _, rfl, rfl, rfl, hx, fun u r => r, B.k3, ?_⟩
      walk_at "go"
      refine ⟨rfl, rfl, d, _, b, rfl, hx, by simp [List.lookup], ?_⟩
      walk_at "go"
      refine ⟨dd, dd, hdp _ s2, hdp _ s2, sh, sh, ?_⟩
      rw [SeqAt.eqv_refl _ (SeqAt.canLay_of_shaped sh)]
      walk_at "go"
      refine ⟨rfl, rfl, d, _, b, rfl, hx, by simp [List.lookup], ?_⟩
      walk_at "go"
      refine ⟨b, dd, rfl, hdp _ s2, hsw, hnd, hdep, hln, ?_⟩
      walk_at "go"
      refine ⟨b, dd, rfl, hdp _ s2, hsw, hnd, hdep, hln, ?_⟩
      refine ⟨rfl, ?_⟩
      rw [decide_eq_true rfl]
      exact k _ s2
end

end K18
end
section
set_option maxRecDepth 100000
set_option maxHeartbeats 4000000
local macro_rules | `(tactic| walk_at "go1") => `(tactic| first
  | (with_reducible refine K18.r_seq ?_) | (with_reducible refine K18.r_ifs ?_) | (with_reducible refine K18.r_ret ?_) | (with_reducible refine K18.r_asg ?_) | (with_reducible refine K18.r_drop ?_) | (with_reducible refine K18.r_next ?_)
  | (with_reducible refine K18.r_name ?_) | (with_reducible refine K18.r_var rfl ?_) | (with_reducible refine K18.r_c ?_) | (with_reducible refine K18.r_op ?_) | (with_reducible refine K18.r_cons ?_) | (with_reducible refine K18.r_nil ?_)
  | (with_reducible refine K18.r_cb ?_) | (with_reducible refine K18.r_call ?_) | (with_reducible refine K18.r_make ?_) | (with_reducible refine K18.r_B ?_) | (with_reducible refine K18.r_test ?_) | (with_reducible refine K18.r_or ?_) | (with_reducible refine K18.r_and ?_) | (with_reducible refine K18.r_not ?_)
  | (with_reducible refine K18.r_andV ?_) | (with_reducible refine K18.r_orV ?_) | (with_reducible refine K18.r_notV ?_) | (with_reducible refine K18.r_if ?_) | (with_reducible refine K18.r_aug rfl ?_) | (with_reducible refine K18.r_ip ?_)
  | (with_reducible refine K18.r_I0 ?_) | (with_reducible refine K18.r_int1 ?_) | (with_reducible refine K18.r_mod (by first | decide | omega) ?_) | (with_reducible refine K18.r_fdivN (by first | decide | omega) (by first | decide | omega) ?_) | (with_reducible refine K18.r_mulR (by first | decide | omega) (by first | decide | omega) ?_) | (with_reducible refine K18.r_mulL (by first | decide | omega) (by first | decide | omega) ?_) | (with_reducible refine K18.r_inG ?_) | (with_reducible refine K18.r_notInG ?_) | (with_reducible refine K18.r_ltS ?_) | (with_reducible refine K18.r_ex ?_) | (with_reducible refine K18.r_eqI ?_) | (with_reducible refine K18.r_neI ?_) | (with_reducible refine K18.r_eqB ?_) | (with_reducible refine K18.r_neB ?_) | (with_reducible refine K18.r_isN ?_)
  | (with_reducible refine K18.r_tup ?_) | (with_reducible refine K18.r_lst ?_) | (with_reducible refine K18.r_yes ?_) | (with_reducible refine K18.r_gsub ?_) | (with_reducible refine K18.r_dget ?_) | (with_reducible refine K18.r_sl ?_) | (with_reducible refine K18.r_part ?_) | (with_reducible refine K18.r_nopart ?_)
  | (with_reducible refine K18.r_chain ?_) | (with_reducible refine K18.r_bm ?_) | (with_reducible refine K18.iteT ?_) | (with_reducible refine K18.iteF ?_) | (with_reducible refine K18.iteNT ?_) | (with_reducible refine K18.iteNF ?_)
  | (with_reducible refine K18.r_for ?_) | (with_reducible refine K18.r_while ?_) | (with_reducible refine K18.r_lc ?_) | (with_reducible refine K18.r_iR1 ?_) | (with_reducible refine K18.r_iR2 ?_) | (with_reducible refine K18.r_iL ?_) | (with_reducible refine K18.r_iT ?_) | (with_reducible refine K18.r_iS ?_)
  | dsimp only [L2.start, List.map, List.replicate, List.length, List.cons_append, List.nil_append, List.append_nil, Nat.reduceAdd, Nat.reduceSub, List.set])
local macro_rules | `(tactic| walk_at "go") => `(tactic| repeat walk_at "go1")
local macro_rules | `(tactic| walk_at "go1") => `(tactic| first
  | (with_reducible refine K18.r_dnotin ?_) | (with_reducible refine K18.r_din ?_) | (with_reducible refine K18.r_dput ?_) | (with_reducible refine K18.r_dnewK ?_) | (with_reducible refine K18.r_dnewT ?_)
  | (with_reducible refine K18.r_gtup ?_) | (with_reducible refine K18.r_gcons ?_) | (with_reducible refine K18.r_gnil ?_) | (with_reducible refine K18.r_iAny ?_) | (with_reducible refine K18.r_lenZ (by first | assumption | omega) ?_))
local macro_rules | `(tactic| walk_at "go1") => `(tactic| first
  | (with_reducible refine K18.r_notN ?_) | (with_reducible refine K18.r_truth ?_))
namespace K18
open PySem PySem.Spec PyProof.Rows L2
/-! ### list(text), tuple(text), text * number, slices of texts -/
def chS (l : List Nat) : List V := l.map fun c => .str (S [c])
theorem chS_len (l : List Nat) : (chS l).length = l.length := List.length_map _
theorem vals_signs {l : List Nat} {acc : Array Value} (h : ItemsOf (SignAt (S l)) acc (S l).cps.size) : Vals (chS l) acc.toList := by
  obtain ⟨h1, h2⟩ := h
  have key : ∀ (l : List Nat) (us : List Value), us.length = l.length → (∀ (j : Nat) (u : Value), us[j]? = some u → ∃ (c : Nat) (t : Tok), l[j]? = some c ∧ u = Value.str ⟨#[c]⟩ t) → Vals (chS l) us := by
    intro l
    induction l with
    | nil =>
      intro us e _
      rw [List.length_eq_zero_iff.mp e]
      exact .nil
    | cons c l ih =>
      intro us e h
      cases us with
      | nil => cases e
      | cons u us =>
        obtain ⟨c', t, e1, e2⟩ := h 0 u rfl
        cases e1
        exact .cons ⟨t, e2⟩ (ih us (by simpa using e) fun j v hv => h (j + 1) v (by simpa using hv))
  refine key l acc.toList (by rw [Array.length_toList, h1, S_size]) fun j u hu => ?_
  obtain ⟨c, t, hc, e⟩ := h2 j u (by simpa using hu)
  refine ⟨c, t, ?_, e⟩
  have : l.toArray[j]? = some c := hc
  simpa using this
def rLstS : List V → Hp → VK → Prop := fun xs H Q => ∃ l : List Nat, xs = [.str (S l)] ∧ l.length ≤ 100000 ∧ ∀ p, H p = none → Q (.ref p) (upd H p (.lst (chS l)))
def rTupS : List V → Hp → VK → Prop := fun xs H Q => ∃ l : List Nat, xs = [.str (S l)] ∧ l.length ≤ 100000 ∧ ∀ p, H p = none → Q (.ref p) (upd H p (.tup (chS l)))
theorem call_lstS {X : Cx} (hh : X.A.handled = none) : CallR X (.type "list") rLstS := by
  intro pins s σ H xs us Q I r h
  obtain ⟨l, rfl, hz, q⟩ := h
  obtain ⟨u, rfl, rx⟩ := vals1 r
  obtain ⟨t, rfl⟩ := rx
  refine PySem.call_list_str hh (S l) t (fun h' tk acc c kp hS ha => ?_) (by rw [S_size]; exact sl100 hz)
  exact ⟨.ref s.heap.objs.size, _, I.laid (t' := tk) kp (Nat.le_refl _) (show ObjOk X.prog X.w _ h' _ (.lst (chS l)) from ⟨by rw [chS_len]; exact sl100 hz, acc.toList, c, vals_signs ha, hS⟩), rfl, q _ (I.hok.fresh (Nat.le_refl _))⟩
theorem call_tupS {X : Cx} (hh : X.A.handled = none) : CallR X (.type "tuple") rTupS := by
  intro pins s σ H xs us Q I r h
  obtain ⟨l, rfl, hz, q⟩ := h
  obtain ⟨u, rfl, rx⟩ := vals1 r
  obtain ⟨t, rfl⟩ := rx
  refine PySem.call_tuple_str hh (S l) t (fun h' tk acc kp ha => ?_) (by rw [S_size]; exact sl100 hz)
  have I1 : Inv X pins σ H { s with heap := h', toks := tk } := I.kept (t' := tk) kp
  exact ⟨.ref h'.objs.size, _, I1.laid (t' := tk) (fun b o e => Heap.get?_push_of_some _ e) (Nat.le_refl _) (show ObjOk X.prog X.w _ _ _ (.tup (chS l)) from ⟨by rw [chS_len]; exact sl100 hz, acc.toList, vals_signs ha, IsTup.new _ _⟩), rfl, q _ (I1.hok.fresh (Nat.le_refl _))⟩
def repL (n : Nat) (l : List Nat) : List Nat := (List.replicate n l).flatten
theorem repL_len (n : Nat) (l : List Nat) : (repL n l).length = n * l.length := by
  unfold repL
  rw [List.length_flatten, List.map_replicate, List.sum_replicate_nat]
theorem repL_mem {n : Nat} {l : List Nat} {c : Nat} (h : c ∈ repL n l) : c ∈ l := by
  unfold repL at h
  obtain ⟨x, hx, hc⟩ := List.mem_flatten.mp h
  rw [(List.mem_replicate.mp hx).2] at hc
  exact hc
theorem fold_rep (a : Array Nat) : ∀ (n : Nat) (acc : Array Nat), (List.replicate n a).foldl (· ++ ·) acc = (acc.toList ++ (List.replicate n a.toList).flatten).toArray
  | 0, acc => by simp
  | n + 1, acc => by
    rw [List.replicate_succ, List.foldl_cons, fold_rep a n (acc ++ a), List.replicate_succ, List.flatten_cons]
    simp
def rMulS : R2 := fun x y H Q => ∃ (l : List Nat) (n : Nat), x = .str (S l) ∧ y = .int ((n : Nat) : Int) ∧ 2 ≤ n ∧ n ≤ 100 ∧ 0 < l.length ∧ l.length ≤ 100 ∧ Q (.str (S (repL n l))) H
theorem op_mulS {X : Cx} : OpR X (binaryOp .Mult) rMulS := by
  intro pins s σ H x y v u Q I rx ry h
  obtain ⟨l, n, rfl, rfl, h2, h100, h0, hl, q⟩ := h
  obtain ⟨t, rfl⟩ := rx
  obtain ⟨t', rfl⟩ := ry
  have hsl : (S l).length = l.length := S_len l
  have hml : n * l.length ≤ 10000 := Nat.mul_le_mul h100 hl
  have e : Txt.mul (S l) ((n : Nat) : Int) = S (repL n l) := by
    unfold Txt.mul
    rw [if_neg (by omega), if_neg (by rw [hsl]; simp only [Bool.or_eq_true, beq_iff_eq]; omega), Int.toNat_natCast, fold_rep]
    rfl
  refine SB.mul ⟨by simp; omega, fun _ _ => ?_, fun _ _ => ?_⟩ fun tk k => ⟨.str (S (repL n l)), H, I.tok _, ⟨tk, by rw [e]⟩, q⟩
  · rw [hsl]
    have : (2 : Int) ^ 63 - 1 = 9223372036854775807 := by decide
    rw [this]
    have h1 : (100 : Int) ≤ 9223372036854775807 / ((n : Nat) : Int) := by
      rw [Int.le_ediv_iff_mul_le (by omega)]
      omega
    omega
  · rw [hsl, Int.toNat_natCast, Nat.mul_comm]
    exact decide_eq_false (by have := sl100 (n := n * l.length) (by omega); omega)
theorem cut_to (l : List Nat) (k : Nat) : cutS (S l) none (some ((k : Nat) : Int)) = S (l.take k) := by
  unfold cutS
  rw [HT.sIx_none, HT.sIx_nat, S_list, S_len, List.drop_zero, Nat.sub_zero]
  show S (l.take (min k l.length)) = S (l.take k)
  congr 1
  rcases Nat.le_total k l.length with h | h
  · rw [Nat.min_eq_left h]
  · rw [Nat.min_eq_right h, List.take_of_length_le (Nat.le_refl _), List.take_of_length_le h]
theorem cut_from (l : List Nat) (k : Nat) : cutS (S l) (some ((k : Nat) : Int)) none = S (l.drop k) := by
  unfold cutS
  rw [HT.sIx_none, HT.sIx_nat, S_list, S_len]
  show S ((l.drop (min k l.length)).take (l.length - min k l.length)) = S (l.drop k)
  congr 1
  rcases Nat.le_total k l.length with h | h
  · rw [Nat.min_eq_left h, List.take_of_length_le (by simp)]
  · rw [Nat.min_eq_right h, Nat.sub_self, List.take_zero, List.drop_of_length_le h]
theorem r_slTo {H : Hp} {Q : VK} {l : List Nat} {k : Nat} (hz : l.length ≤ 100000) (q : Q (.str (S (l.take k))) H) : rSlS (.str (S l)) none (some ((k : Nat) : Int)) H Q := ⟨S l, rfl, by rw [S_len]; exact sl100 hz, by rw [cut_to]; exact q⟩
theorem r_slFrom {H : Hp} {Q : VK} {l : List Nat} {k : Nat} (hz : l.length ≤ 100000) (q : Q (.str (S (l.drop k))) H) : rSlS (.str (S l)) (some ((k : Nat) : Int)) none H Q := ⟨S l, rfl, by rw [S_len]; exact sl100 hz, by rw [cut_from]; exact q⟩
theorem r_mulS {H : Hp} {Q : VK} {l : List Nat} {n : Nat} (h2 : 2 ≤ n) (h100 : n ≤ 100) (h0 : 0 < l.length) (hl : l.length ≤ 100) (q : Q (.str (S (repL n l))) H) : rMulS (.str (S l)) (.int ((n : Nat) : Int)) H Q := ⟨l, n, rfl, rfl, h2, h100, h0, hl, q⟩
/-- a comprehension with an if over a text -/
theorem lcf_S {l : List Nat} {σ : L2.St} {j : Nat} {tt : TT} {te : TE} {H1 : Hp} (p : Nat → Bool) (hz : l.length ≤ 10000) {D : Addr} {Qd : Hp → Prop} (hD : H1 D = none)
    (ht : ∀ c H, c ∈ l → Same H1 H → ∀ QB : Bool → Hp → Prop, QB (p c) H → tt ((σ.set j none).set j (some (.str (S [c])))) H QB)
    (he : ∀ c H, c ∈ l → Same H1 H → ∀ Q : VK, Q (.str (S [c])) H → te ((σ.set j none).set j (some (.str (S [c])))) H Q)
    (hd : ∀ H, Same H1 H → H D = some (.lst (chS (l.filter p))) → Qd H) : LcG (Its (S l)) (gName j) tt te [j] σ H1 D Qd := by
  refine L2.lc_it (σ := σ) walk_S (fun i H => Same H1 H ∧ H D = some (.lst (chS ((l.take i).filter p)))) ⟨same_new hD, by rw [upd_same]; rfl⟩ (fun _ _ _ _ => trivial) ?_ (fun H ⟨s, h⟩ => hd H s (by
    rw [List.length_map, List.take_length] at h
    exact h))
  rintro i x H H' hi ⟨s, h⟩ ⟨rfl, hx⟩
  rw [List.getElem?_map] at hx
  cases e : l[i]? with
  | none =>
    rw [e] at hx
    cases hx
  | some c =>
    rw [e] at hx
    cases hx
    have hc := List.mem_of_getElem? e
    refine ⟨wipe1 σ j _, ht c _ hc s _ ?_⟩
    have etk : (l.take (i + 1)).filter p = (l.take i).filter p ++ (if p c = true then [c] else []) := by
      rw [List.take_add_one, e, List.filter_append]
      congr 1
      cases hp : p c <;> simp [hp]
    have hlen : (chS ((l.take i).filter p)).length ≤ l.length := by
      rw [chS_len]
      exact Nat.le_trans (List.length_filter_le _ _) (by rw [List.length_take]; omega)
    cases hp : p c with
    | true =>
      refine L2.iteT (he c _ hc s _ ⟨_, h, Nat.lt_of_le_of_lt hlen (sl100' (by omega)), same_mut s hD, ?_⟩)
      rw [upd_same, etk, hp]
      simp [chS]
    | false =>
      refine L2.iteF ⟨s, ?_⟩
      rw [h, etk, hp]
      simp
/-! ### data that can be shown -/

end K18
end
section
set_option maxRecDepth 100000
set_option maxHeartbeats 4000000
local macro_rules | `(tactic| walk_at "go1") => `(tactic| first
  | (with_reducible refine K18.r_seq ?_) | (with_reducible refine K18.r_ifs ?_) | (with_reducible refine K18.r_ret ?_) | (with_reducible refine K18.r_asg ?_) | (with_reducible refine K18.r_drop ?_) | (with_reducible refine K18.r_next ?_)
  | (with_reducible refine K18.r_name ?_) | (with_reducible refine K18.r_var rfl ?_) | (with_reducible refine K18.r_c ?_) | (with_reducible refine K18.r_op ?_) | (with_reducible refine K18.r_cons ?_) | (with_reducible refine K18.r_nil ?_)
  | (with_reducible refine K18.r_cb ?_) | (with_reducible refine K18.r_call ?_) | (with_reducible refine K18.r_make ?_) | (with_reducible refine K18.r_B ?_) | (with_reducible refine K18.r_test ?_) | (with_reducible refine K18.r_or ?_) | (with_reducible refine K18.r_and ?_) | (with_reducible refine K18.r_not ?_)
  | (with_reducible refine K18.r_andV ?_) | (with_reducible refine K18.r_orV ?_) | (with_reducible refine K18.r_notV ?_) | (with_reducible refine K18.r_if ?_) | (with_reducible refine K18.r_aug rfl ?_) | (with_reducible refine K18.r_ip ?_)
  | (with_reducible refine K18.r_I0 ?_) | (with_reducible refine K18.r_int1 ?_) | (with_reducible refine K18.r_mod (by first | decide | omega) ?_) | (with_reducible refine K18.r_fdivN (by first | decide | omega) (by first | decide | omega) ?_) | (with_reducible refine K18.r_mulR (by first | decide | omega) (by first | decide | omega) ?_) | (with_reducible refine K18.r_mulL (by first | decide | omega) (by first | decide | omega) ?_) | (with_reducible refine K18.r_inG ?_) | (with_reducible refine K18.r_notInG ?_) | (with_reducible refine K18.r_ltS ?_) | (with_reducible refine K18.r_ex ?_) | (with_reducible refine K18.r_eqI ?_) | (with_reducible refine K18.r_neI ?_) | (with_reducible refine K18.r_eqB ?_) | (with_reducible refine K18.r_neB ?_) | (with_reducible refine K18.r_isN ?_)
  | (with_reducible refine K18.r_tup ?_) | (with_reducible refine K18.r_lst ?_) | (with_reducible refine K18.r_yes ?_) | (with_reducible refine K18.r_gsub ?_) | (with_reducible refine K18.r_dget ?_) | (with_reducible refine K18.r_sl ?_) | (with_reducible refine K18.r_part ?_) | (with_reducible refine K18.r_nopart ?_)
  | (with_reducible refine K18.r_chain ?_) | (with_reducible refine K18.r_bm ?_) | (with_reducible refine K18.iteT ?_) | (with_reducible refine K18.iteF ?_) | (with_reducible refine K18.iteNT ?_) | (with_reducible refine K18.iteNF ?_)
  | (with_reducible refine K18.r_for ?_) | (with_reducible refine K18.r_while ?_) | (with_reducible refine K18.r_lc ?_) | (with_reducible refine K18.r_iR1 ?_) | (with_reducible refine K18.r_iR2 ?_) | (with_reducible refine K18.r_iL ?_) | (with_reducible refine K18.r_iT ?_) | (with_reducible refine K18.r_iS ?_)
  | dsimp only [L2.start, List.map, List.replicate, List.length, List.cons_append, List.nil_append, List.append_nil, Nat.reduceAdd, Nat.reduceSub, List.set])
local macro_rules | `(tactic| walk_at "go") => `(tactic| repeat walk_at "go1")
local macro_rules | `(tactic| walk_at "go1") => `(tactic| first
  | (with_reducible refine K18.r_dnotin ?_) | (with_reducible refine K18.r_din ?_) | (with_reducible refine K18.r_dput ?_) | (with_reducible refine K18.r_dnewK ?_) | (with_reducible refine K18.r_dnewT ?_)
  | (with_reducible refine K18.r_gtup ?_) | (with_reducible refine K18.r_gcons ?_) | (with_reducible refine K18.r_gnil ?_) | (with_reducible refine K18.r_iAny ?_) | (with_reducible refine K18.r_lenZ (by first | assumption | omega) ?_))
local macro_rules | `(tactic| walk_at "go1") => `(tactic| first
  | (with_reducible refine K18.r_notN ?_) | (with_reducible refine K18.r_truth ?_))
namespace K18
open PySem PySem.Spec PyProof.Rows L2
local macro_rules | `(tactic| walk_at "go1") => `(tactic| first
  | (with_reducible refine K18.r_dc ?_) | (with_reducible refine K18.r_fld ?_) | (with_reducible refine K18.r_gfld ?_) | (with_reducible refine K18.r_sfld ?_) | (with_reducible refine K18.r_meth ?_) | (with_reducible refine K18.r_methK ?_))
/-! ### data that can be shown -/
def pyS (l : List Nat) : List PyData := l.map fun c => .str (S [c])
theorem strOk_S {l : List Nat} (h : ∀ c ∈ l, c ≤ 127) : PyData.strOk (S l) = true := by
  unfold PyData.strOk
  rw [Array.all_eq_true]
  intro i hi
  have hm : (S l).cps[i] ∈ (S l).cps.toList := Array.getElem_mem_toList hi
  rw [S_list] at hm
  have := h _ hm
  exact decide_eq_true (by omega)
theorem pyS_facts : ∀ {l : List Nat}, (∀ c ∈ l, c ≤ 127) → PyData.canLayAll0 (pyS l) = true ∧ PyData.depthAll (pyS l) = 0 ∧ PyData.showableAll (pyS l) = true ∧ PyData.hasDictAll (pyS l) = false ∧ ((PyData.shownAll (pyS l)).map (·.length)).sum ≤ 12 * l.length ∧ (PyData.shownAll (pyS l)).length = l.length
  | [], _ => by simp [pyS, PyData.canLayAll0, PyData.depthAll, PyData.showableAll, PyData.hasDictAll, PyData.shownAll]
  | c :: l, h => by
    obtain ⟨h1, h2, h3, h4, h5, h6⟩ := pyS_facts (l := l) fun x hx => h x (List.mem_cons_of_mem _ hx)
    have hc : PyData.strOk (S [c]) = true := strOk_S fun x hx => by
      rw [List.mem_singleton.mp hx]
      exact h c List.mem_cons_self
    have hr : (reprText (S [c])).length ≤ 12 := by
      have := StrLaws.reprText_len (S [c]) fun x hx => by
        have e : x = c := by simpa [S_list] using hx
        have := h c List.mem_cons_self
        rw [e]
        omega
      rw [S_len] at this
      simpa using this
    have e : pyS (c :: l) = .str (S [c]) :: pyS l := rfl
    rw [e]
    refine ⟨?_, ?_, ?_, ?_, ?_, ?_⟩
    · simp [PyData.canLayAll0, PyData.canLay0, hc, h1]
    · simp [PyData.depthAll, PyData.depth, h2]
    · simp [PyData.showableAll, PyData.showable, h3]
    · simp [PyData.hasDictAll, PyData.hasDict, h4]
    · simp only [PyData.shownAll, PyData.shown, List.map_cons, List.sum_cons, List.length_cons]
      omega
    · simp [PyData.shownAll, h6]
section
variable {K : PySem.W.Frag} {H : Hp} {l : List Nat} {q : Addr}
theorem dpAll_chS {H' : Hp} : ∀ l : List Nat, DpAll K H' (chS l) (pyS l)
  | [] => .nil
  | c :: l => .cons (.str _) (dpAll_chS l)
theorem showD_non : ShowD K H .non := ⟨.none, fun _ _ => .non, by decide, by decide, by decide, by decide, by decide +kernel⟩
theorem showD_7 : ShowD K H (.int 7) := ⟨.int 7, fun _ _ => .int 7, by decide, by decide, by decide, by decide, by decide +kernel⟩
theorem showD_true : ShowD K H (.bl true) := ⟨.bool true, fun _ _ => .bl true, by decide, by decide, by decide, by decide, by decide +kernel⟩
theorem showD_str (h : ∀ c ∈ l, c ≤ 127) (hz : l.length ≤ 1000) : ShowD K H (.str (S l)) := by
  refine ⟨.str (S l), fun _ _ => .str _, ?_, rfl, rfl, by simp [PyData.depth], ?_⟩
  · simp [SeqAt.shaped, PyData.canLay0, PyData.depth, strOk_S h]
  · show (reprText (S l)).length ≤ sizeLine
    have := StrLaws.reprText_len (S l) fun x hx => by
      have := h x hx
      omega
    rw [S_len] at this
    exact sl100 (by omega)
theorem showD_lst (hq : H q = some (.lst (chS l))) (h : ∀ c ∈ l, c ≤ 127) (hz : l.length ≤ 1000) : ShowD K H (.ref q) := by
  obtain ⟨h1, h2, h3, h4, h5, h6⟩ := pyS_facts h
  refine ⟨.list (pyS l), fun H' s => .lst (SqL.of (s _ _ hq)) (dpAll_chS l), ?_, h3, h4, by simp [PyData.depth, h2], ?_⟩
  · simp [SeqAt.shaped, PyData.canLay0, PyData.depth, h1, h2]
  · show (listText (PyData.shownAll (pyS l))).length ≤ sizeLine
    have := listText_len_le (PyData.shownAll (pyS l))
    exact sl100 (by omega)
theorem showD_tup (hq : H q = some (.tup (chS l))) (h : ∀ c ∈ l, c ≤ 127) (hz : l.length ≤ 1000) : ShowD K H (.ref q) := by
  obtain ⟨h1, h2, h3, h4, h5, h6⟩ := pyS_facts h
  refine ⟨.tuple (pyS l), fun H' s => .tup (SqT.of (s _ _ hq)) (dpAll_chS l), ?_, h3, h4, by simp [PyData.depth, h2], ?_⟩
  · simp [SeqAt.shaped, PyData.canLay0, PyData.depth, h1, h2]
  · show (tupleText (PyData.shownAll (pyS l))).length ≤ sizeLine
    have := tupleText_len_le (PyData.shownAll (pyS l))
    exact sl100 (by omega)
theorem badP_str {sg : List Nat} (hz : l.length ≤ 1000) (h : 60 < l.length ∨ ∃ c ∈ l, c ∉ sg) : BadP K sg H (.str (S l)) := by
  refine .inl ⟨l, rfl, hz, ?_⟩
  rcases h with h | ⟨c, hc, hn⟩
  · rw [decide_eq_false (show ¬ l.length ≤ 60 by omega), Bool.and_false, Bool.false_and]
  · have : (l.all fun c => decide (c ∈ sg)) = false := by
      refine Bool.eq_false_iff.mpr fun z => ?_
      exact hn (of_decide_eq_true (List.all_eq_true.mp z c hc))
    rw [this, Bool.and_false]
end
section
variable {P : Program} {w : World} {K : PySem.W.Frag} {mg : Str → Option Value} {base : Heap}
theorem WkD.kp {H H' : Hp} {q : Addr} {sg : List Nat} {acc : Wd → Bool} {L : List (List Nat)} {E : List Nat} (h : WkD K H q sg acc L E) (e : Kp H H') : WkD K H' q sg acc L E :=
  ⟨(let ⟨dx, vl, ve, h1, h2, h3⟩ := h.wo; ⟨dx, vl, ve, e _ _ (fun _ z => by cases z) h1, h2.kp e, h3.kp e⟩), h.le, h.len, h.sg⟩
theorem TwoP.sb {H H' : Hp} {a p : Addr} {sg l1 l2 : List Nat} (h : TwoP H p sg l1 l2) (e : SB a H H') (ne : p ≠ a) : TwoP H' p sg l1 l2 := ⟨e _ _ ne h.1, h.2⟩
theorem LeastC.same_none {k : Nat} {L : List (List Nat)} {E : List Nat} {w : Wd} {o : Option Cw} (h : LeastC k (wantC L E false w w) o) : o = none := by
  cases o with
  | none => rfl
  | some c =>
    obtain ⟨_, hp, _⟩ := h
    unfold wantC want at hp
    rw [prC_run] at hp
    simp at hp
theorem other_ne {sg : List Nat} (G : Sgn sg) : 0 < (EV.filter fun c => !decide (c ∈ sg)).length := by
  refine List.length_pos_iff.mpr fun e => ?_
  have hs : ∀ c ∈ EV, c ∈ sg := fun c hc => Classical.byContradiction fun hn => by
    have : c ∈ EV.filter fun c => !decide (c ∈ sg) := List.mem_filter.mpr ⟨hc, by simp [hn]⟩
    rw [e] at this
    cases this
  have nd : EV.Nodup := by decide
  have := nd.length_le_of_subset (l₂ := sg) hs
  have h36 : EV.length = 36 := by decide
  have := G.len
  omega
theorem fnG_nox {k : Nat} {f : Addr} {x qual : Str} {N ps : List Str} {sp : Sp} {pa : Arguments} {bd : List Stmt} {sc : Scope} {dvs : List V} {kws : List (Str × V)} {fd : FuncData} (F : FunD K x qual pa bd sc dvs kws f fd) (S : FnScope N ps sc) (len : ∀ vs H Q E, sp vs H Q E → vs.length = ps.length)
    (body : ∀ (cdv : Value) (A : Around) (outer : List Env) (s : Shared) (H : Hp) (vs : List V) (Q : VK) (E : XK), NoG A → Room k (A.deeper (envOfC qual sc s.heap.objs.size f cdv)) → sp vs H Q E →
      ∃ t, PSs (cxOf CX0 P w K mg base N qual sc f cdv A outer s H E).nox bd t ∧ t { nx := fun _ H' => Q .non H', rt := Q } (start N vs) H) : FnG P w K mg base (k + 1) f fd ps sp :=
  fnG_of F S len fun cdv A outer s H vs Q E hG hr h => let ⟨t, h1, h2⟩ := body cdv A outer s H vs Q E hG hr h; ⟨t, h1.nox, h2⟩
/-- the odd things -/
def OddI (K : PySem.W.Frag) (sg : List Nat) (H : Hp) (x : V) : Prop := BadP K sg H x ∧ ShowD K H x
def spRefusals (K : PySem.W.Frag) : Sp := fun vs H Q _ => ∃ (a q pp : Addr) (sg : List Nat) (acc : Wd → Bool) (L : List (List Nat)) (E l1 l2 : List Nat), vs = [.ref a, .str (S sg), .ref q, .ref pp] ∧ Bag H a ∧ WkD K H q sg acc L E ∧ TwoP H pp sg l1 l2 ∧ pp ≠ a ∧ ∀ H', Drew a H H' → Q (.bl true) H'
theorem sc__law_refusals : FnScope ["_law_bag", "_law_signs", "_law_walk", "_law_papers", "_law_at", "_law_odd", "_law_other", "_law_sign", "_law_bad", "_law_more", "_law_seen", "_law_longest"] ["_law_bag", "_law_signs", "_law_walk", "_law_papers"] (defScope s__law_refusals) := ⟨rfl, rfl, rfl, by decide +kernel, rfl, by decide +kernel, by decide +kernel⟩
theorem okG_refusals (T : Tx K mg) (B : Bp P K) : C1G P w K mg base 7 "_law_refusals" ["_law_bag", "_law_signs", "_law_walk", "_law_papers"] (spRefusals K) := by
  obtain ⟨fd, F⟩ := d__law_refusals T
  refine ⟨_, fd, fnG_nox F sc__law_refusals (fun vs H Q E h => ?_) (fun cdv A outer s H vs Q E hG hr h => ?_), g__law_refusals T, F.kp, F.bindsN (fun _ _ _ _ _ _ us hl => match us, hl with | [_, _, _, _], _ => rfl)⟩
  · obtain ⟨a, q, pp, sg, acc, L, E', l1, l2, rfl, _⟩ := h
    rfl
  obtain ⟨a, q, pp, sg, acc, L, E', l1, l2, rfl, BG, W, TP, pa, k⟩ := h
  have hu := hu_of hr
  have hu64 := hu64_of hr
  have hu6 := hu64' hr
  refine ⟨_, (pss_cons (ps_set (i := 4) sc__law_refusals.nd rfl (Or.inl rfl) (pe_c1 (ok__law_pick T) (hr.mono (by decide)) (by rfl) (pa_cons (pv 0) (pa_cons (pe_op op_add (pe_callB call_lenZ (by rfl) (f_len T) PySem.boot_len (pa_cons (pe_ix (ix_listK K (by rfl)) (pv 3) pe_int (fun _ _ => rfl)) pa_nil)) pe_int) pa_nil))))
      (pss_cons (ps_set (i := 5) sc__law_refusals.nd rfl (Or.inl rfl) (pe_lst (pa_cons pe_non (pa_cons pe_int (pa_cons pe_bl (pa_cons (pe_callTy (call_lstS hr.hd) (by rfl) (f_list T) (by decide +kernel) (pa_cons (pe_ix (ix_listK K (by rfl)) (pv 3) pe_int (fun _ _ => rfl)) pa_nil)) (pa_cons (pe_callTy (call_tupS hr.hd) (by rfl) (f_tuple T) (by decide +kernel) (pa_cons (pe_ix (ix_listK K (by rfl)) (pv 3) pe_int (fun _ _ => rfl)) pa_nil)) (pa_cons (pe_slice sl_str (pe_op op_catS (pe_ix (ix_listK K (by rfl)) (pv 3) pe_int (fun _ _ => rfl)) (pe_op op_mulS (pv 1) pe_int)) po_none (po_some pe_int)) (pa_cons (pe_op op_catS (pe_slice sl_str (pe_ix (ix_listK K (by rfl)) (pv 3) pe_int (fun _ _ => rfl)) po_none (po_some (pv 4))) pe_str) pa_nil)))))))))
      (pss_cons (ps_setLc (i := 6) (own := [("_law_sign", 7)]) (g := gName 7) (by rfl) sc__law_refusals.nd rfl rfl (sw_true rfl rfl rfl (by decide +kernel)) (pi_str pe_str) (blkOk_by (own := [("_law_sign", 7)]) (by kernel_rfl)) (fun _ _ _ _ _ => pg_name (i := 7) sc__law_refusals.nd rfl (Or.inl rfl)) (fun _ _ _ _ _ => (pts_one (pt_cmpR op_notInG (pv 7) (pv 1) (by rfl)))) (fun _ _ _ _ _ => (pv 7)))
      (pss_cons (ps_expr (pe_bmK K (by rfl) PySem.F.plainAttrs_list PySem.F.slot_list_append PySem.F.type_list_append mt_append (pv 5) (pa_cons (pe_op op_catS (pe_op op_catS (pe_slice sl_str (pe_ix (ix_listK K (by rfl)) (pv 3) pe_int (fun _ _ => rfl)) po_none (po_some (pv 4))) (pe_c1 (ok__law_one_of T) (hr.mono (by decide)) (by rfl) (pa_cons (pv 0) (pa_cons (pv 6) pa_nil)))) (pe_slice sl_str (pe_ix (ix_listK K (by rfl)) (pv 3) pe_int (fun _ _ => rfl)) (po_some (pv 4)) po_none)) pa_nil)))
      (pss_cons (ps_set (i := 8) sc__law_refusals.nd rfl (Or.inl rfl) (pe_c1 (ok__law_one_of T) (hr.mono (by decide)) (by rfl) (pa_cons (pv 0) (pa_cons (pv 5) pa_nil))))
      (pss_cons (ps_set (i := 9) sc__law_refusals.nd rfl (Or.inl rfl) (pe_c1 (ok__law_one_of T) (hr.mono (by decide)) (by rfl) (pa_cons (pv 0) (pa_cons (pv 5) pa_nil))))
      (pss_cons (ps_for PassesOwn.never rfl (pi_listK K (by rfl) (pe_lst (pa_cons pe_bl (pa_cons pe_bl pa_nil)))) (pg_name (i := 10) sc__law_refusals.nd rfl (Or.inl rfl)) (pss_cons (ps_if (pw_or (pt_not (pt_val (pe_cG (okG_refused T B) hG (hr.mono (by decide)) (by rfl) (pa_cons (pv 2) (pa_cons (pv 8) (pa_cons (pe_ix (ix_listK K (by rfl)) (pv 3) pe_int (fun _ _ => rfl)) (pa_cons (pv 8) (pa_cons (pv 10) pa_nil)))))))) (pw_or1 (pt_not (pt_val (pe_cG (okG_refused T B) hG (hr.mono (by decide)) (by rfl) (pa_cons (pv 2) (pa_cons (pe_ix (ix_listK K (by rfl)) (pv 3) pe_int (fun _ _ => rfl)) (pa_cons (pv 8) (pa_cons (pv 8) (pa_cons (pv 10) pa_nil)))))))))).pt (pss_one (ps_ret pe_bl)) pss_nil)
      (pss_one (ps_if (pt_not (pt_val (pe_cG (okG_refused T B) hG (hr.mono (by decide)) (by rfl) (pa_cons (pv 2) (pa_cons (pv 8) (pa_cons (pv 9) (pa_cons (pv 8) (pa_cons (pv 10) pa_nil)))))))) (pss_one (ps_ret pe_bl)) pss_nil))))
      (pss_cons (ps_set (i := 11) sc__law_refusals.nd rfl (Or.inl rfl) (pe_slice sl_str (pe_op op_catS (pe_ix (ix_listK K (by rfl)) (pv 3) pe_int (fun _ _ => rfl)) (pe_op op_mulS (pv 1) pe_int)) po_none (po_some pe_int)))
      (pss_one (ps_ret (pe_and (pe_callTy (call_bool_own (hr.mono (by decide)) (ok_Blind___bool__ T) (ok_Seeing___bool__ T)) (by rfl) (f_bool T) (by decide +kernel) (pa_cons (pe_mk1 (ok_Blind___init__ T) (hr.mono (by decide)) (by rfl) (pa_cons (pv 2) (pa_cons (pv 11) (pa_cons (pv 11) pa_nil)))) pa_nil)) (pe_one (pe_cmpR op_isN (pe_fldK K (by rfl) (pe_mk1 (ok_Blind___init__ T) (hr.mono (by decide)) (by rfl) (pa_cons (pv 2) (pa_cons (pv 11) (pa_cons (pv 11) pa_nil))))) pe_non (nomark _)))))))))))))), ?_⟩
  have G := W.sg
  have lsg := G.len
  obtain ⟨_, pl1, pl2, n1, n2⟩ := id TP
  have c127 : ∀ {l : List Nat}, Pap sg l → ∀ c ∈ l, c ≤ 127 := fun {l} h c hc => G.le c (h c hc)
  walk_at "go"
  refine r_ixL (SqL.of TP.1) rfl ?_
  walk_at "go"
  rw [show ((l1.length : Nat) : Int) + 1 = ((l1.length + 1 : Nat) : Int) by omega]
  refine ⟨a, l1.length + 1, rfl, BG, by omega, by omega, fun at_ H1 hat d1 => ?_⟩
  have TP1 := TP.sb d1.1 pa
  have W1 := W.kp (d1.kp BG)
  walk_at "go"
  refine r_ixL (SqL.of TP1.1) rfl ?_
  walk_at "go"
  refine ⟨l1, rfl, by omega, fun D hD => ?_⟩
  have sD := same_new (o := .lst (chS l1)) hD
  have Da := d1.2.ne hD
  walk_at "go"
  refine r_ixL (SqL.of (TP1.same sD).1) rfl ?_
  walk_at "go"
  refine ⟨l1, rfl, by omega, fun t ht => ?_⟩
  have st := same_new (o := .tup (chS l1)) ht
  have s2 := sD.trans st
  have TP2 := TP1.same s2
  have W2 := W1.same s2
  have d2 := d1.same s2
  have hD2 : upd (upd H1 D (.lst (chS l1))) t (.tup (chS l1)) D = some (.lst (chS l1)) := st _ _ upd_same
  have ht2 : upd (upd H1 D (.lst (chS l1))) t (.tup (chS l1)) t = some (.tup (chS l1)) := upd_same
  generalize upd (upd H1 D (.lst (chS l1))) t (.tup (chS l1)) = H2 at st s2 TP2 W2 d2 hD2 ht2 ⊢
  walk_at "go"
  refine r_ixL (SqL.of TP2.1) rfl ?_
  walk_at "go"
  refine r_mulS (n := 31) (by omega) (by omega) (by omega) (by omega) ?_
  have hr31 : (repL 31 sg).length = 31 * sg.length := repL_len 31 sg
  refine r_catS (a := l1) (b := repL 31 sg) (by omega) ?_
  walk_at "go"
  refine ⟨((61 : Nat) : Int), rfl, r_slTo (l := l1 ++ repL 31 sg) (k := 61) (by rw [List.length_append]; omega) ?_⟩
  walk_at "go"
  refine r_ixL (SqL.of TP2.1) rfl ?_
  walk_at "go"
  refine ⟨_, rfl, r_slTo (l := l1) (k := at_) (by omega) ?_⟩
  walk_at "go"
  rw [show (Str.ofString "a" : Str) = S [97] from by decide +kernel]
  refine r_catS (a := l1.take at_) (b := [97]) (by simp; omega) ?_
  walk_at "go"
  refine ⟨sl100 (by simp), fun o ho => ?_⟩
  have oa := d2.2.ne ho
  have hDo : D ≠ o := ne_of_none hD2 ho
  have ho0 := d2.1.free oa ho
  generalize hit : ([V.non, .int 7, .bl true, .ref D, .ref t, .str (S ((l1 ++ repL 31 sg).take 61)), .str (S (l1.take at_ ++ [97]))] : List V) = items
  have so := same_new (o := .lst items) ho
  have TP3 := TP2.same so
  have W3 := W2.same so
  have d3 := d2.same so
  have hD3 := so _ _ hD2
  have ht3 := so _ _ ht2
  have ho3 : upd H2 o (.lst items) o = some (.lst items) := upd_same
  generalize upd H2 o (.lst items) = H3 at so TP3 W3 d3 hD3 ht3 ho3 ⊢
  walk_at "go"
  rw [EV_str]
  refine ⟨S EV, rfl, fun D2 hD2 => ?_⟩
  refine lcf_S (l := EV) (fun c => !decide (c ∈ sg)) (by decide) hD2 ?_ ?_ ?_
  · intro c H4 hc s4 QB k4
    walk_at "go"
    exact k4
  · intro c H4 hc s4 Q4 k4
    walk_at "go"
    exact k4
  intro H4 s4 hL4
  have D2a := d3.2.ne hD2
  have TP4 := TP3.same s4
  have W4 := W3.same s4
  have d4 := d3.same s4
  have hD4 := s4 _ _ hD3
  have ht4 := s4 _ _ ht3
  have ho4 := s4 _ _ ho3
  walk_at "go"
  refine ⟨r_tyL ho4, ?_⟩
  walk_at "go"
  refine r_ixL (SqL.of TP4.1) rfl ?_
  walk_at "go"
  refine ⟨_, rfl, r_slTo (l := l1) (k := at_) (by omega) ?_⟩
  walk_at "go"
  refine ⟨a, .ref D2, rfl, d4.2, .inr ⟨D2, _, rfl, hL4, D2a, by rw [chS_len]; exact other_ne G, ?_, fun x H5 hx d5 => ?_⟩⟩
  · rw [chS_len]
    exact Nat.le_trans (List.length_filter_le _ _) (by decide)
  obtain ⟨c, hc, rfl⟩ := List.mem_map.mp hx
  obtain ⟨hcE, hcn⟩ := List.mem_filter.mp hc
  have hcn' : c ∉ sg := by simpa using hcn
  have hc127 : c ≤ 127 := (by decide : ∀ x ∈ EV, x ≤ 127) c hcE
  have TP5 := TP4.sb d5.1 pa
  have W5 := W4.kp (d5.kp d4.2)
  have d5' := d4.trans d5
  have hD5 := d5.1 _ _ Da hD4
  have ta : t ≠ a := fun z => by
    obtain ⟨_, _, _, hb⟩ := d4.2
    rw [← z, ht4] at hb
    cases hb
  have ht5 := d5.1 _ _ ta ht4
  have ho5 := d5.1 _ _ oa ho4
  refine r_catS (a := l1.take at_) (b := [c]) (by simp; omega) ?_
  walk_at "go"
  refine r_ixL (SqL.of TP5.1) rfl ?_
  walk_at "go"
  refine ⟨_, rfl, ?_⟩
  walk_at "go"
  refine r_slFrom (l := l1) (k := at_) (by omega) ?_
  refine r_catS (a := l1.take at_ ++ [c]) (b := l1.drop at_) (by simp; omega) ?_
  walk_at "go"
  refine r_app' ho5 (by rw [← hit]; simp) ?_
  have d6 : Drew a H (upd H5 o (.lst (items ++ [.str (S (l1.take at_ ++ [c] ++ l1.drop at_))]))) := d5'.mut oa ho0
  have odd : ∀ H', H' D = some (.lst (chS l1)) → H' t = some (.tup (chS l1)) → ∀ x ∈ items ++ [.str (S (l1.take at_ ++ [c] ++ l1.drop at_))], OddI K sg H' x := by
    intro H' h1 h2 x hx
    rw [← hit] at hx
    have k97 : 97 ∉ sg := fun z => (by decide : 97 ∉ EV) (G.ev 97 z)
    have mt : ∀ y ∈ l1.take at_, y ≤ 127 := fun y hy => c127 pl1 y (List.mem_of_mem_take hy)
    have md : ∀ y ∈ l1.drop at_, y ≤ 127 := fun y hy => c127 pl1 y (List.mem_of_mem_drop hy)
    simp only [List.cons_append, List.nil_append, List.mem_cons, List.mem_nil_iff, or_false] at hx
    rcases hx with rfl | rfl | rfl | rfl | rfl | rfl | rfl | rfl
    · exact ⟨.inr fun _ _ => ⟨_, tyx_n, by decide +kernel⟩, showD_non⟩
    · exact ⟨.inr fun _ _ => ⟨_, tyx_i _, by decide +kernel⟩, showD_7⟩
    · exact ⟨.inr fun _ _ => ⟨_, tyx_b _, by decide +kernel⟩, showD_true⟩
    · exact ⟨.inr fun _ s => ⟨_, tyx_L (SqL.of (s _ _ h1)), by decide +kernel⟩, showD_lst h1 (c127 pl1) (by omega)⟩
    · exact ⟨.inr fun _ s => ⟨_, tyx_T (SqT.of (s _ _ h2)), by decide +kernel⟩, showD_tup h2 (c127 pl1) (by omega)⟩
    · have hl : ((l1 ++ repL 31 sg).take 61).length = 61 := by
        rw [List.length_take, List.length_append]
        omega
      exact ⟨badP_str (by omega) (.inl (by omega)), showD_str (fun y hy => by
        rcases List.mem_append.mp (List.mem_of_mem_take hy) with z | z
        · exact c127 pl1 y z
        · exact G.le y (repL_mem z)) (by omega)⟩
    · exact ⟨badP_str (by simp; omega) (.inr ⟨97, by simp, k97⟩), showD_str (fun y hy => by
        rcases List.mem_append.mp hy with z | z
        · exact mt y z
        · rw [List.mem_singleton.mp z]; omega) (by simp; omega)⟩
    · exact ⟨badP_str (by simp; omega) (.inr ⟨c, by simp, hcn'⟩), showD_str (fun y hy => by
        rcases List.mem_append.mp hy with z | z
        · rcases List.mem_append.mp z with z | z
          · exact mt y z
          · rw [List.mem_singleton.mp z]; exact hc127
        · exact md y z) (by simp; omega)⟩
  have sbo : SB o H5 (upd H5 o (.lst (items ++ [.str (S (l1.take at_ ++ [c] ++ l1.drop at_))]))) := (SB.refl o H5).mut (.inl rfl)
  have kpo := sbo.kp ho5
  have ppo : pp ≠ o := (ne_of_none TP2.1 ho)
  have TP6 := TP5.sb sbo ppo
  have W6 := W5.kp kpo
  have hD6 := sbo _ _ hDo hD5
  have ht6 := kpo _ _ (fun _ z => by cases z) ht5
  have ho6 : upd H5 o (.lst (items ++ [.str (S (l1.take at_ ++ [c] ++ l1.drop at_))])) o = some (.lst (items ++ [.str (S (l1.take at_ ++ [c] ++ l1.drop at_))])) := upd_same
  have l8 : (items ++ [V.str (S (l1.take at_ ++ [c] ++ l1.drop at_))]).length = 8 := by rw [← hit]; rfl
  generalize items ++ [V.str (S (l1.take at_ ++ [c] ++ l1.drop at_))] = it8 at d6 odd sbo kpo TP6 W6 hD6 ht6 ho6 l8 ⊢
  generalize upd H5 o (.lst it8) = H6 at d6 sbo kpo TP6 W6 hD6 ht6 ho6 ⊢
  walk_at "go"
  refine ⟨a, .ref o, rfl, d6.2, .inr ⟨o, _, rfl, ho6, oa, by omega, by omega, fun bad H7 hbad d7 => ?_⟩⟩
  have TP7 := TP6.sb d7.1 pa
  have W7 := W6.kp (d7.kp d6.2)
  have d7' := d6.trans d7
  have hD7 := d7.1 _ _ Da hD6
  have ht7 := d7.1 _ _ ta ht6
  have ho7 := d7.1 _ _ oa ho6
  walk_at "go"
  refine ⟨a, .ref o, rfl, d7.2, .inr ⟨o, _, rfl, ho7, oa, by omega, by omega, fun more H8 hmore d8 => ?_⟩⟩
  have TP8 := TP7.sb d8.1 pa
  have W8 := W7.kp (d8.kp d7.2)
  have d8' := d7'.trans d8
  obtain ⟨BP, SD⟩ := odd H8 (d8.1 _ _ Da hD7) (d8.1 _ _ ta ht7) bad hbad
  walk_at "go"
  refine ⟨by decide, fun b hb => ?_⟩
  have sb := same_new (o := .lst [.bl true, .bl false]) hb
  refine ⟨b, rfl, ⟨_, SqL.of upd_same⟩, ?_⟩
  refine fo_L (xs := [.bl true, .bl false]) (fun i σ H' => ∃ (u : Option V), σ = [some (.ref a), some (.str (S sg)), some (.ref q), some (.ref pp), some (.int ((at_ : Nat) : Int)), some (.ref o), some (.ref D2), none, some bad, some more, u, none] ∧ Same (upd H8 b (.lst [.bl true, .bl false])) H')
    ⟨_, rfl, Same.refl _⟩ (fun i σ H' _ ⟨_, _, s⟩ => SqL.of (s _ _ upd_same)) ?_ ?_
  · rintro i x σ H9 hx ⟨u, rfl, s9⟩
    obtain ⟨seen, rfl⟩ : ∃ seen, x = .bl seen := by
      rcases i with _ | _ | i
      · exact ⟨_, (Option.some.inj hx).symm⟩
      · exact ⟨_, (Option.some.inj hx).symm⟩
      · simp at hx
    have s89 := sb.trans s9
    walk_at "go"
    refine r_ixL (SqL.of (TP8.same s89).1) rfl ?_
    walk_at "go"
    refine ⟨q, sg, L, E', bad, .str (S l2), bad, seen, rfl, (W8.same s89).wo, .inl ⟨BP.same s89, rfl⟩, SD.same s89, fun HA sA => ?_⟩
    walk_at "go"
    refine r_ixL (SqL.of ((TP8.same s89).same sA).1) rfl ?_
    walk_at "go"
    have s8A := s89.trans sA
    refine ⟨q, sg, L, E', .str (S l2), bad, bad, seen, rfl, (W8.same s8A).wo, .inr ⟨l2, rfl, pl2, n2, BP.same s8A, rfl⟩, SD.same s8A, fun HB sB => ?_⟩
    walk_at "go"
    have s8B := s8A.trans sB
    refine ⟨q, sg, L, E', bad, more, bad, seen, rfl, (W8.same s8B).wo, .inl ⟨BP.same s8B, rfl⟩, SD.same s8B, fun HC sC => ?_⟩
    walk_at "go"
    exact ⟨_, rfl, ((s9.trans sA).trans sB).trans sC⟩
  · rintro σ H9 ⟨u, rfl, s9⟩
    have s89 := sb.trans s9
    have TP9 := TP8.same s89
    have W9 := W8.same s89
    have d9 := d8'.same s89
    walk_at "go"
    refine r_ixL (SqL.of TP9.1) rfl ?_
    walk_at "go"
    refine r_mulS (n := 30) (by omega) (by omega) (by omega) (by omega) ?_
    have hr30 : (repL 30 sg).length = 30 * sg.length := repL_len 30 sg
    refine r_catS (a := l2) (b := repL 30 sg) (by omega) ?_
    walk_at "go"
    refine ⟨((60 : Nat) : Int), rfl, r_slTo (l := l2 ++ repL 30 sg) (k := 60) (by rw [List.length_append]; omega) ?_⟩
    have hlg : ((l2 ++ repL 30 sg).take 60).length ≤ 60 := by
      rw [List.length_take]
      omega
    have plg : Pap sg ((l2 ++ repL 30 sg).take 60) := fun y hy => by
      rcases List.mem_append.mp (List.mem_of_mem_take hy) with z | z
      · exact pl2 y z
      · exact repL_mem z
    generalize (l2 ++ repL 30 sg).take 60 = lg at hlg plg ⊢
    walk_at "go"
    intro y dy hy hdy ney
    refine mk_obj "Blind" false hy hdy ney W9 plg plg hlg hlg fun c HA sA TA LA => ⟨rfl, ?_⟩
    obtain rfl := LA.same_none
    obtain ⟨dx, v, hyo, hv⟩ := TA
    have hv' : v = .non := hv
    subst hv'
    refine ⟨y, dx, "Blind", .non, rfl, .inl rfl, hyo, ?_⟩
    walk_at "go"
    refine ite_yes (by simp) ?_
    walk_at "go"
    intro z dz hz hdz nez
    refine mk_obj "Blind" false hz hdz nez (W9.same sA) plg plg hlg hlg fun c HB sB TB LB => ⟨rfl, ?_⟩
    obtain rfl := LB.same_none
    obtain ⟨dx2, v, hzo, hv⟩ := TB
    have hv' : v = .non := hv
    subst hv'
    refine ⟨z, _, dx2, _, _, rfl, hzo, c_Blind T, n_Blind_context T, rfl, ?_⟩
    walk_at "go"
    have := k HB ((d9.same sA).same sB)
    simpa using this
end

end K18
end
section
set_option maxRecDepth 100000
set_option maxHeartbeats 4000000
local macro_rules | `(tactic| walk_at "go1") => `(tactic| first
  | (with_reducible refine K18.r_seq ?_) | (with_reducible refine K18.r_ifs ?_) | (with_reducible refine K18.r_ret ?_) | (with_reducible refine K18.r_asg ?_) | (with_reducible refine K18.r_drop ?_) | (with_reducible refine K18.r_next ?_)
  | (with_reducible refine K18.r_name ?_) | (with_reducible refine K18.r_var rfl ?_) | (with_reducible refine K18.r_c ?_) | (with_reducible refine K18.r_op ?_) | (with_reducible refine K18.r_cons ?_) | (with_reducible refine K18.r_nil ?_)
  | (with_reducible refine K18.r_cb ?_) | (with_reducible refine K18.r_call ?_) | (with_reducible refine K18.r_make ?_) | (with_reducible refine K18.r_B ?_) | (with_reducible refine K18.r_test ?_) | (with_reducible refine K18.r_or ?_) | (with_reducible refine K18.r_and ?_) | (with_reducible refine K18.r_not ?_)
  | (with_reducible refine K18.r_andV ?_) | (with_reducible refine K18.r_orV ?_) | (with_reducible refine K18.r_notV ?_) | (with_reducible refine K18.r_if ?_) | (with_reducible refine K18.r_aug rfl ?_) | (with_reducible refine K18.r_ip ?_)
  | (with_reducible refine K18.r_I0 ?_) | (with_reducible refine K18.r_int1 ?_) | (with_reducible refine K18.r_mod (by first | decide | omega) ?_) | (with_reducible refine K18.r_fdivN (by first | decide | omega) (by first | decide | omega) ?_) | (with_reducible refine K18.r_mulR (by first | decide | omega) (by first | decide | omega) ?_) | (with_reducible refine K18.r_mulL (by first | decide | omega) (by first | decide | omega) ?_) | (with_reducible refine K18.r_inG ?_) | (with_reducible refine K18.r_notInG ?_) | (with_reducible refine K18.r_ltS ?_) | (with_reducible refine K18.r_ex ?_) | (with_reducible refine K18.r_eqI ?_) | (with_reducible refine K18.r_neI ?_) | (with_reducible refine K18.r_eqB ?_) | (with_reducible refine K18.r_neB ?_) | (with_reducible refine K18.r_isN ?_)
  | (with_reducible refine K18.r_tup ?_) | (with_reducible refine K18.r_lst ?_) | (with_reducible refine K18.r_yes ?_) | (with_reducible refine K18.r_gsub ?_) | (with_reducible refine K18.r_dget ?_) | (with_reducible refine K18.r_sl ?_) | (with_reducible refine K18.r_part ?_) | (with_reducible refine K18.r_nopart ?_)
  | (with_reducible refine K18.r_chain ?_) | (with_reducible refine K18.r_bm ?_) | (with_reducible refine K18.iteT ?_) | (with_reducible refine K18.iteF ?_) | (with_reducible refine K18.iteNT ?_) | (with_reducible refine K18.iteNF ?_)
  | (with_reducible refine K18.r_for ?_) | (with_reducible refine K18.r_while ?_) | (with_reducible refine K18.r_lc ?_) | (with_reducible refine K18.r_iR1 ?_) | (with_reducible refine K18.r_iR2 ?_) | (with_reducible refine K18.r_iL ?_) | (with_reducible refine K18.r_iT ?_) | (with_reducible refine K18.r_iS ?_)
  | dsimp only [L2.start, List.map, List.replicate, List.length, List.cons_append, List.nil_append, List.append_nil, Nat.reduceAdd, Nat.reduceSub, List.set])
local macro_rules | `(tactic| walk_at "go") => `(tactic| repeat walk_at "go1")
local macro_rules | `(tactic| walk_at "go1") => `(tactic| first
  | (with_reducible refine K18.r_dnotin ?_) | (with_reducible refine K18.r_din ?_) | (with_reducible refine K18.r_dput ?_) | (with_reducible refine K18.r_dnewK ?_) | (with_reducible refine K18.r_dnewT ?_)
  | (with_reducible refine K18.r_gtup ?_) | (with_reducible refine K18.r_gcons ?_) | (with_reducible refine K18.r_gnil ?_) | (with_reducible refine K18.r_iAny ?_) | (with_reducible refine K18.r_lenZ (by first | assumption | omega) ?_))
local macro_rules | `(tactic| walk_at "go1") => `(tactic| first
  | (with_reducible refine K18.r_notN ?_) | (with_reducible refine K18.r_truth ?_))
namespace K18
open PySem PySem.Spec PyProof.Rows L2
local macro_rules | `(tactic| walk_at "go1") => `(tactic| first
  | (with_reducible refine K18.r_dc ?_) | (with_reducible refine K18.r_fld ?_) | (with_reducible refine K18.r_gfld ?_) | (with_reducible refine K18.r_sfld ?_) | (with_reducible refine K18.r_meth ?_) | (with_reducible refine K18.r_methK ?_))
section
variable {K : PySem.W.Frag}
theorem sql_sb {H0 H H' : Hp} {s a : Addr} {xs : List V} (h : SqL K H0 s xs) (s0 : Same H0 H) (ha : H0 a = none) (e : SB a H H') : SqL K H' s xs := by
  rcases h with (h | ⟨o, h⟩) | h
  · exact .inl (.inl (e _ _ (ne_of_none h ha) (s0 _ _ h)))
  · exact .inl (.inr ⟨o, e _ _ (ne_of_none h ha) (s0 _ _ h)⟩)
  · exact .inr h
theorem RawD.sb {H H' : Hp} {p a : Addr} {k n : Nat} {rows : List (List Nat)} {gs : List Nat} (h : RawD K H p k n rows gs) (e : SB a H H') (ne : p ≠ a) (kp : Kp H H') : RawD K H' p k n rows gs := ⟨(let ⟨rv, gv, h1, h2, h3⟩ := h.at_; ⟨rv, gv, e _ _ ne h1, h2.kp kp, h3.kp kp⟩), h.tab, h.goal⟩
theorem RawD.ne {H : Hp} {p a : Addr} {k n : Nat} {rows : List (List Nat)} {gs : List Nat} (h : RawD K H p k n rows gs) (ha : H a = none) : p ≠ a := let ⟨_, _, h1, _, _⟩ := h.at_; ne_of_none h1 ha
theorem r_cut {t : TE} {σ : L2.St} {H : Hp} {Q : VK} (R : V → Hp → Prop) (h : ∀ Q : VK, (∀ x H', R x H' → Q x H') → t σ H Q) (k : ∀ x H', R x H' → Q x H') : t σ H Q := h Q k
theorem acc_iff {k : Nat} {rows rows2 L : List (List Nat)} {gs gs2 E : List Nat} (LE : Least k (fun w => decide (run (stp rows2) 0 w ∈ gs2)) L E) (h : ∀ w, Ltk k w → (run (stp rows2) 0 w ∈ gs2 ↔ run (stp rows) 0 w ∈ gs)) : ∀ w, Ltk k w → (run (stp rows) 0 w ∈ gs ↔ run (stp L) 0 w ∈ E) := fun w hw =>
  (h w hw).symm.trans (decide_eq_decide.mp (LE.same w hw)).symm
/-- a walk made -/
theorem mk_walk {H1 : Hp} {x dx : Addr} {sg : List Nat} {rv gv : V} {n : Nat} {rows : List (List Nat)} {gs : List Nat} {Q : VK} {XE : XK} (hx : H1 x = none) (hdx : H1 dx = none) (ne : dx ≠ x) (G : Sgn sg) (R : RowsA K H1 rv rows) (Tb : Tab sg.length n rows) (hn : n ≤ 40) (Rg : RowT K H1 gv gs) (GD : GoalD n gs)
    (k : ∀ L E H', Same H1 H' → WkD K H' x sg (fun w => decide (run (stp rows) 0 w ∈ gs)) L E → Q .non H') :
    spWalk K [.ref x, .str (S sg), rv, gv] (upd (upd H1 dx (.own x)) x (.ins (He.ga K "Walk") dx [])) Q XE := by
  have s1 : Same H1 (upd (upd H1 dx (.own x)) x (.ins (He.ga K "Walk") dx [])) := (same_new hdx).trans (same_new (by rw [upd_ne ne.symm]; exact hx))
  refine ⟨x, dx, sg, rv, gv, n, rows, gs, rfl, upd_same, G, R.same s1, Tb, hn, Rg.kp (same_kp s1), GD, fun L E H' sb WO LE hL => ?_⟩
  refine k L E H' (fun b o hb => ?_) ⟨WO, LE, by omega, G⟩
  exact sb b o (fun z => by rw [z, hx] at hb; cases hb) (s1 _ _ hb)
/-- a comprehension with an if over a tuple of rows -/
theorem lcf_T {rs : List (List Nat)} {xs : List V} {a : Addr} {σ : L2.St} {j : Nat} {tt : TT} {te : TE} {H1 : Hp} (p : List Nat → Bool) (hz : rs.length ≤ 10000) (hs : SqT K H1 a xs) (pl : Paired (fun r v => RowT K H1 v r) rs xs) {D : Addr} {Qd : Hp → Prop} (hD : H1 D = none)
    (ht : ∀ r x H, r ∈ rs → RowT K H x r → ∀ QB : Bool → Hp → Prop, QB (p r) H → tt ((σ.set j none).set j (some x)) H QB)
    (he : ∀ x H, ∀ Q : VK, Q x H → te ((σ.set j none).set j (some x)) H Q)
    (hd : ∀ ys H, Same H1 H → H D = some (.lst ys) → Paired (fun r v => RowT K H v r) (rs.filter p) ys → Qd H) : LcG (Itt K a) (gName j) tt te [j] σ H1 D Qd := by
  have hl := Paired.length pl
  refine L2.lc_it (σ := σ) L2.walk_tup (fun i H => Same H1 H ∧ ∃ ys, H D = some (.lst ys) ∧ Paired (fun r v => RowT K H1 v r) ((rs.take i).filter p) ys) ⟨same_new hD, [], upd_same, by rw [List.take_zero]; exact .nil⟩ (fun _ _ _ q => sqT_same q.1 hs) ?_ (fun H ⟨s, ys, h, q⟩ => hd ys H s h (by
    rw [← hl, List.take_length] at q
    exact Paired.mapP q fun _ _ z => z.kp (same_kp s)))
  rintro i x H H' hi ⟨s, ys, h, q⟩ ⟨rfl, hx⟩
  obtain ⟨r, hr, hrx⟩ := paired_get' pl hx
  refine ⟨wipe1 σ j _, ht r x _ (List.mem_of_getElem? hr) (hrx.kp (same_kp s)) _ ?_⟩
  have etk : (rs.take (i + 1)).filter p = (rs.take i).filter p ++ (if p r = true then [r] else []) := by
    rw [List.take_add_one, hr, List.filter_append]
    congr 1
    cases hp : p r <;> simp [hp]
  have hlen : ys.length ≤ rs.length := by
    rw [← Paired.length q]
    exact Nat.le_trans (List.length_filter_le _ _) (by rw [List.length_take]; omega)
  cases hp : p r with
  | true =>
    refine L2.iteT (he x _ _ ⟨_, h, Nat.lt_of_le_of_lt hlen (sl100' (by omega)), same_mut s hD, _, upd_same, ?_⟩)
    rw [etk, hp]
    exact Paired.snoc q hrx
  | false =>
    refine L2.iteF ⟨s, ys, h, ?_⟩
    rw [etk, hp]
    simpa using q
def rowD (r : List Nat) : PyData := .tuple (r.map fun n => .int ((n : Nat) : Int))
theorem dpAll_ints {H : Hp} : ∀ r : List Nat, DpAll K H (rI r) (r.map fun n => .int ((n : Nat) : Int))
  | [] => .nil
  | c :: l => .cons (.int _) (dpAll_ints l)
theorem RowT.dp {H : Hp} {v : V} {r : List Nat} (h : RowT K H v r) : Dp K H v (rowD r) := by
  obtain ⟨a, rfl, h⟩ := h
  exact .tup h (dpAll_ints r)
theorem dpAll_rows {H : Hp} : ∀ {rs : List (List Nat)} {ys : List V}, Paired (fun r v => RowT K H v r) rs ys → DpAll K H ys (rs.map rowD)
  | _, _, .nil => .nil
  | _, _, .cons h t => .cons h.dp (dpAll_rows t)
theorem ints_lay : ∀ r : List Nat, PyData.canLayAll0 (r.map fun n => .int ((n : Nat) : Int)) = true ∧ PyData.depthAll (r.map fun n => .int ((n : Nat) : Int)) = 0
  | [] => by simp [PyData.canLayAll0, PyData.depthAll]
  | c :: l => by
    obtain ⟨h1, h2⟩ := ints_lay l
    simp only [List.map_cons, PyData.canLayAll0, PyData.canLay0, PyData.depthAll, PyData.depth, h1, h2]
    exact ⟨rfl, rfl⟩
theorem rows_lay : ∀ rs : List (List Nat), PyData.canLayAll0 (rs.map rowD) = true ∧ PyData.depthAll (rs.map rowD) ≤ 1
  | [] => by simp [PyData.canLayAll0, PyData.depthAll]
  | r :: l => by
    obtain ⟨h1, h2⟩ := rows_lay l
    obtain ⟨h3, h4⟩ := ints_lay r
    simp only [List.map_cons, rowD, PyData.canLayAll0, PyData.canLay0, PyData.depthAll, PyData.depth, h1, h3, h4]
    exact ⟨rfl, by omega⟩
theorem r_neRows {H : Hp} {Q : VK} {D q : Addr} {rs : List (List Nat)} {ys : List V} (hD : H D = some (.lst ys)) (p : Paired (fun r v => RowT K H v r) rs ys) (hq : H q = some (.lst [])) (h : Q (.bl (decide (rs ≠ []))) H) : rNeD K (.ref D) (.ref q) H Q := by
  obtain ⟨h1, h2⟩ := rows_lay rs
  refine ⟨.list (rs.map rowD), .list [], .lst (SqL.of hD) (dpAll_rows p), .lst (SqL.of hq) .nil, ?_, by decide, ?_⟩
  · simp only [SeqAt.shaped, PyData.canLay0, PyData.depth, h1, Bool.true_and]
    exact decide_eq_true (by omega)
  · cases rs with
    | nil => simpa [PyData.eqv, PyData.eqvAll] using h
    | cons r rs => simpa [PyData.eqv, PyData.eqvAll] using h
end
section
variable {P : Program} {w : World} {K : PySem.W.Frag} {mg : Str → Option Value} {base : Heap}
theorem two_iff {k : Nat} {acc : Wd → Bool} {L : List (List Nat)} {E : List Nat} {u v : Nat} {o : Option Cw} (LE : Least k acc L E) (hu : u < k) (hv : v < k) (h : LeastC k (wantC L E false [u] [v]) o) : colL L u = colL L v ↔ o = none := by
  have one : ∀ {x : Nat}, x < k → Ltk k [x] := fun {x} hx y hy => by
    rw [List.mem_singleton.mp hy]
    exact hx
  rw [← asked_exit LE (one hu) (one hv) h, colL_iff]
  exact Iff.rfl
theorem ctx_none {sg : List Nat} {H : Hp} {v : V} {o : Option Cw} (h : CtxO sg H v o) : v = .non ↔ o = none := by
  cases o with
  | none => exact ⟨fun _ => rfl, fun _ => h⟩
  | some c => 
    obtain ⟨⟨_, h⟩, _⟩ := h
    exact ⟨fun z => by simp_all, fun z => by cases z⟩
def spLaw (K : PySem.W.Frag) : Sp := fun vs H Q _ => ∃ (s : Addr) (ns : List Int), vs = [.ref s] ∧ SqL K H s (ns.map V.int) ∧ ns.length ≤ 63 ∧ ∀ H', Q (.bl true) H'
theorem sc_law : FnScope ["_law_script", "_law_bag", "_law_signs", "_law_drawn", "_law_raw", "_law_passed", "_law_walk", "_law_papers", "_law_other_raw", "_law_other", "_law_lots", "_law_v", "_law_together", "_law_lot"] ["_law_script"] (defScope s_law) := ⟨rfl, rfl, rfl, by decide +kernel, rfl, by decide +kernel, by decide +kernel⟩
theorem okG_law {f : Addr} {fd : FuncData} (T : Tx K mg) (B : Bp P K) (F : FunD K "law" "law" (defArgs s_law) (defBody s_law) (defScope s_law) [] [] f fd) : FnG P w K mg base 8 f fd ["_law_script"] (spLaw K) := by
  refine fnG_nox F sc_law (fun vs H Q E h => ?_) (fun cdv A outer s H vs Q E hG hr h => ?_)
  · obtain ⟨a, ns, rfl, _⟩ := h
    rfl
  obtain ⟨sA, ns, rfl, hS, hns, k⟩ := h
  have hu := hu_of hr
  have hu64 := hu64_of hr
  have hu6 := hu64' hr
  refine ⟨_, (pss_cons (ps_set (i := 1) sc_law.nd rfl (Or.inl rfl) (pe_c1 (ok__law_bag_of T) (hr.mono (by decide)) (by rfl) (pa_cons (pv 0) (pa_cons pe_int pa_nil))))
      (pss_cons (ps_set (i := 2) sc_law.nd rfl (Or.inl rfl) (pe_c1 (ok__law_signs_of T) (hr.mono (by decide)) (by rfl) (pa_cons (pv 1) (pa_cons pe_int pa_nil))))
      (pss_cons (ps_set (i := 3) sc_law.nd rfl (Or.inl rfl) (pe_c1 (ok__law_bag_of T) (hr.mono (by decide)) (by rfl) (pa_cons (pv 0) (pa_cons pe_int pa_nil))))
      (pss_cons (ps_set (i := 4) sc_law.nd rfl (Or.inl rfl) (pe_c1 (ok__law_drawn_walk T) (hr.mono (by decide)) (by rfl) (pa_cons (pv 3) (pa_cons (pv 2) pa_nil))))
      (pss_cons (ps_set (i := 5) sc_law.nd rfl (Or.inl rfl) (pe_ifExp (pt_cmpR op_eq (pe_c1 (ok__law_pick T) (hr.mono (by decide)) (by rfl) (pa_cons (pv 3) (pa_cons pe_int pa_nil))) pe_int (nomark _)) (pe_c1 (ok__law_dressed T) (hr.mono (by decide)) (by rfl) (pa_cons (pv 3) (pa_cons (pv 4) pa_nil))) (pv 4)))
      (pss_cons (ps_set (i := 6) sc_law.nd rfl (Or.inl rfl) (pe_mk1 (ok_Walk___init__ T) (hr.mono (by decide)) (by rfl) (pa_cons (pv 2) (pa_cons (pe_c1 (ok__law_listed T) (hr.mono (by decide)) (by rfl) (pa_cons (pe_ix (ix_listK K (by rfl)) (pv 5) pe_int (fun _ _ => rfl)) pa_nil)) (pa_cons (pe_ix (ix_listK K (by rfl)) (pv 5) pe_int (fun _ _ => rfl)) pa_nil)))))
      (pss_cons (ps_set (i := 7) sc_law.nd rfl (Or.inl rfl) (pe_c1 (ok__law_two_papers T) (hr.mono (by decide)) (by rfl) (pa_cons (pe_c1 (ok__law_bag_of T) (hr.mono (by decide)) (by rfl) (pa_cons (pv 0) (pa_cons pe_int pa_nil))) (pa_cons (pv 2) (pa_cons (pe_ix (ix_listK K (by rfl)) (pv 4) pe_int (fun _ _ => rfl)) pa_nil)))))
      (pss_cons (ps_set (i := 8) sc_law.nd rfl (Or.inl rfl) (pe_c1 (ok__law_drawn_walk T) (hr.mono (by decide)) (by rfl) (pa_cons (pe_c1 (ok__law_bag_of T) (hr.mono (by decide)) (by rfl) (pa_cons (pv 0) (pa_cons pe_int pa_nil))) (pa_cons (pv 2) pa_nil))))
      (pss_cons (ps_set (i := 9) sc_law.nd rfl (Or.inl rfl) (pe_mk1 (ok_Walk___init__ T) (hr.mono (by decide)) (by rfl) (pa_cons (pv 2) (pa_cons (pe_ix (ix_listK K (by rfl)) (pv 8) pe_int (fun _ _ => rfl)) (pa_cons (pe_ix (ix_listK K (by rfl)) (pv 8) pe_int (fun _ _ => rfl)) pa_nil)))))
      (pss_cons (ps_if (pw_or (pt_not (pt_val (pe_c1 (ok__law_asked T) (hr.mono (by decide)) (by rfl) (pa_cons (pv 2) (pa_cons (pv 4) (pa_cons (pv 6) (pa_cons (pv 7) pa_nil))))))) (pw_or1 (pt_not (pt_val (pe_c1 (ok__law_asked T) (hr.mono (by decide)) (by rfl) (pa_cons (pv 2) (pa_cons (pv 8) (pa_cons (pv 9) (pa_cons (pv 7) pa_nil))))))))).pt (pss_one (ps_ret pe_bl)) pss_nil)
      (pss_cons (ps_if (pt_not (pt_val (pe_c1 (ok__law_asked T) (hr.mono (by decide)) (by rfl) (pa_cons (pv 2) (pa_cons (pv 4) (pa_cons (pv 6) (pa_cons (pe_lst (pa_cons (pe_ix (ix_listK K (by rfl)) (pv 7) pe_int (fun _ _ => rfl)) (pa_cons (pe_ix (ix_listK K (by rfl)) (pv 7) pe_int (fun _ _ => rfl)) pa_nil))) pa_nil))))))) (pss_one (ps_ret pe_bl)) pss_nil)
      (pss_cons (ps_set (i := 10) sc_law.nd rfl (Or.inl rfl) (pe_c1 (ok_sign_classes T) (hr.mono (by decide)) (by rfl) (pa_cons (pv 6) pa_nil)))
      (pss_cons (ps_for PassesOwn.never rfl (pi_range2 (by rfl) (f_range T) (pa_cons pe_int (pa_cons (pe_callB call_lenZ (by rfl) (f_len T) PySem.boot_len (pa_cons (pv 2) pa_nil)) pa_nil))) (pg_name (i := 11) sc_law.nd rfl (Or.inr rfl)) (pss_cons (ps_set (i := 12) sc_law.nd rfl (Or.inl rfl) (pe_cmpR (op_neDK K (by rfl) hu6) (pe_lc (own := [("_law_lot", 13)]) (g := gName 13) (by rfl) sc_law.nd (pi_tupK K (by rfl) (pv 10)) (blkOk_by (own := [("_law_lot", 13)]) (by kernel_rfl)) (fun _ _ _ _ _ => pg_name (i := 13) sc_law.nd rfl (Or.inl rfl)) (fun _ _ _ _ _ => (pts_one (pw_and (pt_cmpR (op_in_seqK K (by rfl)) pe_int (pv 13) (by rfl)) (pw_and1 (pt_cmpR (op_in_seqK K (by rfl)) (pv 11) (pv 13) (by rfl)))).pt)) (fun _ _ _ _ _ => (pv 13))) (pe_lst pa_nil) (nomark _)))
      (pss_one (ps_if (pt_cmpR op_ne (pe_callTy (call_bool_own (hr.mono (by decide)) (ok_Blind___bool__ T) (ok_Seeing___bool__ T)) (by rfl) (f_bool T) (by decide +kernel) (pa_cons (pe_mk1 (ok_Blind___init__ T) (hr.mono (by decide)) (by rfl) (pa_cons (pv 6) (pa_cons (pe_ix ix_str (pv 2) pe_int (fun _ _ => rfl)) (pa_cons (pe_ix ix_str (pv 2) (pv 11) (fun _ _ => rfl)) pa_nil)))) pa_nil)) (pv 12) (nomark _)) (pss_one (ps_ret pe_bl)) pss_nil))))
      (pss_cons (ps_if (pt_not (pt_val (pe_cG (okG_refusals T B) hG (hr.mono (by decide)) (by rfl) (pa_cons (pe_c1 (ok__law_bag_of T) (hr.mono (by decide)) (by rfl) (pa_cons (pv 0) (pa_cons pe_int pa_nil))) (pa_cons (pv 2) (pa_cons (pv 6) (pa_cons (pv 7) pa_nil))))))) (pss_one (ps_ret pe_bl)) pss_nil)
      (pss_one (ps_ret (pe_c1 (ok__law_told_of T) (hr.mono (by decide)) (by rfl) (pa_cons (pe_mk1 (ok_Blind___init__ T) (hr.mono (by decide)) (by rfl) (pa_cons (pv 6) (pa_cons (pe_ix (ix_listK K (by rfl)) (pv 7) pe_int (fun _ _ => rfl)) (pa_cons (pe_ix (ix_listK K (by rfl)) (pv 7) pe_int (fun _ _ => rfl)) pa_nil)))) (pa_cons (pe_c1 (ok__law_context T) (hr.mono (by decide)) (by rfl) (pa_cons (pv 2) (pa_cons (pv 4) (pa_cons (pv 7) (pa_cons pe_bl pa_nil))))) pa_nil))))))))))))))))))), ?_⟩
  walk_at "go"
  refine ⟨sA, 0, ns, rfl, hS, by omega, by omega, fun b0 H1 s1 hb0 B0 => ?_⟩
  walk_at "go"
  refine ⟨b0, rfl, B0, fun sg H2 G d1 => ?_⟩
  have lsg := G.len
  have hS2 := sql_sb hS s1 hb0 d1.1
  walk_at "go"
  refine ⟨sA, 1, ns, rfl, hS2, by omega, by omega, fun b1 H3 s3 hb1 B1 => ?_⟩
  walk_at "go"
  refine ⟨b1, sg, rfl, B1, by omega, by omega, fun p n rows gs H4 d4 hp pb hn16 RD4 => ?_⟩
  refine r_name ?_
  refine r_seq ?_
  refine r_asg ?_
  refine r_cut (R := fun x H' => ∃ (p2 : Addr) (m : Nat) (rows2 : List (List Nat)) (gs2 : List Nat), x = .ref p2 ∧ Drew b1 H4 H' ∧ m ≤ 32 ∧ RawD K H' p2 sg.length m rows2 gs2 ∧ ∀ w, Ltk sg.length w → (run (stp rows2) 0 w ∈ gs2 ↔ run (stp rows) 0 w ∈ gs)) (fun QQ kk => ?_) ?_
  · walk_at "go"
    refine ⟨b1, 3, rfl, d4.2, by omega, by omega, fun r H5 hr5 d5 => ?_⟩
    have RD5 := RD4.sb d5.1 pb (d5.kp d4.2)
    have d45 := d4.trans d5
    walk_at "go"
    by_cases hr0 : r = 0
    · refine ite_yes (by simp [hr0]) ?_
      walk_at "go"
      refine ⟨b1, p, sg.length, n, rows, gs, rfl, d5.2, pb, RD5, hn16, by omega, fun p' rows' gs' H6 d6 hp' RD6 hacc => ?_⟩
      exact kk _ _ ⟨p', 2 * n, rows', gs', rfl, d5.trans d6, by omega, RD6, hacc⟩
    · refine ite_no (by simp; omega) ?_
      walk_at "go"
      exact kk _ _ ⟨p, n, rows, gs, rfl, d5, by omega, RD5, fun _ _ => Iff.rfl⟩
  rintro x H5 ⟨p2, m, rows2, gs2, rfl, d5, hm, RD2, hacc⟩
  have d45 := d4.trans d5
  have hS5 := sql_sb hS2 s3 hb1 d45.1
  have RD5 := RD4.sb d5.1 pb (d5.kp d4.2)
  obtain ⟨rv2, gv2, hp2, RT2, GT2⟩ := RD2.at_
  walk_at "go"
  refine r_ixL (SqL.of hp2) rfl ?_
  walk_at "go"
  refine ⟨rv2, rows2, rfl, RT2, by rw [RD2.tab.len]; omega, fun r hr => ?_, fun q H6 s6 hq RA => ?_⟩
  · obtain ⟨i, hi, e⟩ := List.mem_iff_getElem.mp hr
    have := (RD2.tab.row i r (List.getElem?_eq_some_iff.mpr ⟨hi, e⟩)).1
    omega
  walk_at "go"
  refine r_ixL (SqL.of (s6 _ _ hp2)) rfl ?_
  walk_at "go"
  intro wk dw hwk hdw nw
  refine mk_walk hwk hdw nw G RA RD2.tab (by omega) (GT2.kp (same_kp s6)) RD2.goal fun L E' H7 s7 W7 => ⟨rfl, ?_⟩
  have HE := acc_iff W7.le hacc
  have s57 := s6.trans s7
  have hS7 := s57.seq hS5
  have RD7 := RD5.same s57
  clear RD5 hS5 RD4 hS2 hS
  walk_at "go"
  refine ⟨sA, 2, ns, rfl, hS7, by omega, by omega, fun b2 H8 s8 hb2 B2 => ?_⟩
  obtain ⟨rv, gv, hp8, RT8, GT8⟩ := (RD7.same s8).at_
  walk_at "go"
  refine r_ixL (SqL.of hp8) rfl ?_
  walk_at "go"
  refine ⟨b2, sg, rv, n, rows, rfl, B2, by omega, by omega, RT8, RD7.tab, hn16, fun pp l1 l2 H9 d9 hpp TP9 => ?_⟩
  have hS9 := sql_sb hS7 s8 hb2 d9.1
  have RD9 := (RD7.same s8).sb d9.1 (RD7.ne hb2) (d9.kp B2)
  have W9 := (W7.same s8).kp (d9.kp B2)
  walk_at "go"
  refine ⟨sA, 3, ns, rfl, hS9, by omega, by omega, fun b3 H10 s10 hb3 B3 => ?_⟩
  walk_at "go"
  refine ⟨b3, sg, rfl, B3, by omega, by omega, fun p3 n3 rows3 gs3 H11 d11 hp3 pb3 hn3 RD3 => ?_⟩
  have RD11 := (RD9.same s10).sb d11.1 (RD9.ne hb3) (d11.kp B3)
  have W11 := (W9.same s10).kp (d11.kp B3)
  have TP11 := (TP9.same s10).sb d11.1 (ne_of_none TP9.1 hb3)
  have hS11 := sql_sb hS9 s10 hb3 d11.1
  obtain ⟨rv3, gv3, hp11, RT11, GT11⟩ := RD3.at_
  walk_at "go"
  refine r_ixL (SqL.of hp11) rfl ?_
  walk_at "go"
  refine r_ixL (SqL.of hp11) rfl ?_
  walk_at "go"
  intro wo do_ hwo hdo no
  refine mk_walk hwo hdo no G RT11.a RD3.tab (by omega) GT11 RD3.goal fun L3 E3 H12 s12 W12 => ⟨rfl, ?_⟩
  have HE3 := acc_iff W12.le fun _ _ => Iff.rfl
  have RD12 := RD11.same s12
  have RD312 := RD3.same s12
  have W1 := W11.same s12
  have TP12 := TP11.same s12
  have hS12 := s12.seq hS11
  clear RD11 RD3 W11 TP11 hS11 RD9 W9 TP9 hS9 RD7 W7 hS7
  walk_at "go"
  refine ⟨p, wk, pp, sg, n, rows, gs, _, L, E', l1, l2, rfl, RD12, W1, HE, TP12, hn16, fun H13 s13 => ?_⟩
  walk_at "go"
  refine ⟨p3, wo, pp, sg, n3, rows3, gs3, _, L3, E3, l1, l2, rfl, RD312.same s13, W12.same s13, HE3, TP12.same s13, hn3, fun H14 s14 => ?_⟩
  have s24 := s13.trans s14
  have RD14 := RD12.same s24
  have W14 := W1.same s24
  have TP14 := TP12.same s24
  have hS14 := s24.seq hS12
  clear RD12 RD312 W1 W12 TP12 hS12
  walk_at "go"
  refine r_ixL (SqL.of TP14.1) rfl ?_
  walk_at "go"
  refine r_ixL (SqL.of TP14.1) rfl ?_
  walk_at "go"
  refine ⟨by decide, fun qq hqq => ?_⟩
  have sq := same_new (o := .lst [.str (S l1), .str (S l1)]) hqq
  refine ⟨p, wk, qq, sg, n, rows, gs, _, L, E', l1, l1, rfl, RD14.same sq, W14.same sq, HE, ⟨upd_same, TP14.2.1, TP14.2.1, TP14.2.2.2.1, TP14.2.2.2.1⟩, hn16, fun H15 s15 => ?_⟩
  have s45 := sq.trans s15
  have RD15 := RD14.same s45
  have W15 := W14.same s45
  have TP15 := TP14.same s45
  have hS15 := s45.seq hS14
  clear RD14 W14 TP14 hS14
  walk_at "go"
  refine ⟨wk, sg, L, E', rfl, W15.wo, W15.le.tab, W15.len, by omega, fun lv lots H16 s16 RL hll hlr hlots => ?_⟩
  have RD16 := RD15.same s16
  have W16 := W15.same s16
  have TP16 := TP15.same s16
  have hS16 := s16.seq hS15
  clear RD15 W15 TP15 hS15
  walk_at "go"
  obtain ⟨la, lvs, rfl, hla, plv⟩ := id RL
  refine ⟨((1 : Nat) : Int), _, rfl, ⟨by omega, by omega, by omega, by omega⟩, ?_⟩
  refine fo_R2 (lo := 1) (n := sg.length) (fun i σ H' => ∃ (u11 u12 u13 : Option V), σ = [some (.ref sA), some (.ref b0), some (.str (S sg)), some (.ref b1), some (.ref p), some (.ref p2), some (.ref wk), some (.ref pp), some (.ref p3), some (.ref wo), some (.ref la), u11, u12, u13] ∧ Same H16 H') ⟨_, _, _, rfl, Same.refl _⟩ (by omega) ?_ ?_
  · rintro v σ H17 hv1 hv ⟨u11, u12, u13, rfl, s17⟩
    walk_at "go"
    refine ⟨la, rfl, ⟨_, sqT_same s17 hla⟩, fun D hD => ?_⟩
    refine lcf_T (rs := lots) (xs := lvs) (fun r => decide (0 ∈ r) && decide (v ∈ r)) (by omega) (sqT_same s17 hla) (Paired.mapP plv fun _ _ z => z.kp (same_kp s17)) hD ?_ ?_ ?_
    · intro r x H18 hr hx QB kB
      walk_at "go"
      refine r_inRow (x := 0) hx ⟨_, rfl, ?_⟩
      by_cases h0 : 0 ∈ r
      · have e0 : (decide (0 ∈ r)) = true := decide_eq_true h0
        refine ite_yes e0 ?_
        walk_at "go"
        refine r_inRow (x := v) hx ?_
        walk_at "go"
        rw [e0, Bool.true_and] at kB
        exact kB
      · have e0 : (decide (0 ∈ r)) = false := decide_eq_false h0
        refine ite_no e0 ?_
        rw [e0, Bool.false_and] at kB
        exact kB
    · intro x H18 QV kV
      walk_at "go"
      exact kV
    intro ys H18 s18 hL18 pys
    walk_at "go"
    refine ⟨by decide, fun qe hqe => ?_⟩
    have se := same_new (o := .lst []) hqe
    walk_at "go"
    refine r_neRows (se _ _ hL18) (Paired.mapP pys fun _ _ z => z.kp (same_kp se)) upd_same ?_
    have s1e := s18.trans se
    have s6e := s17.trans s1e
    generalize upd H18 qe (.lst []) = H19 at s1e s6e se ⊢
    walk_at "go"
    have W19 := W16.same s6e
    refine r_ixS (r := 0) (by omega) (by omega) ?_
    walk_at "go"
    refine r_ixS (r := v) hv (by omega) ?_
    walk_at "go"
    intro xb dxb hxb hdxb nexb
    have p1 : Pap sg [sg[0]] := fun c hc => by
      rw [List.mem_singleton.mp hc]
      exact List.getElem_mem _
    have p2 : Pap sg [sg[v]] := fun c hc => by
      rw [List.mem_singleton.mp hc]
      exact List.getElem_mem _
    refine mk_obj "Blind" false hxb hdxb nexb W19 p1 p2 (by decide : (1 : Nat) ≤ 60) (by decide : (1 : Nat) ≤ 60) fun cb H20 s20 TB LCb => ⟨rfl, ?_⟩
    obtain ⟨dxo, vo, hxo, CO⟩ := TB
    walk_at "go"
    refine ⟨xb, dxo, "Blind", vo, rfl, .inl rfl, hxo, ?_⟩
    walk_at "go"
    have w0 : wd sg [sg[0]] = [0] := congrArg (fun x => [x]) (ix_nd G.asc (by omega))
    have w1 : wd sg [sg[v]] = [v] := congrArg (fun x => [x]) (ix_nd G.asc hv)
    rw [w0, w1] at LCb
    have e1 := two_iff W19.le (by omega) hv LCb
    have e2 := hlots 0 v (by omega) hv
    have e3 : decide (vo = .non) = decide (lots.filter (fun r => decide (0 ∈ r) && decide (v ∈ r)) ≠ []) := by
      refine decide_eq_decide.mpr ((ctx_none CO).trans (e1.symm.trans (e2.symm.trans ⟨?_, ?_⟩)))
      · rintro ⟨l, hl, h0, h1⟩
        exact List.ne_nil_of_mem (List.mem_filter.mpr ⟨hl, by simp [h0, h1]⟩)
      · intro hne
        obtain ⟨l, hl⟩ := List.exists_mem_of_ne_nil _ hne
        obtain ⟨hl, hp⟩ := List.mem_filter.mp hl
        exact ⟨l, hl, by simpa using hp⟩
    rw [e3]
    refine ite_no (by simp) ?_
    walk_at "go"
    exact ⟨_, _, _, rfl, s6e.trans s20⟩
  · rintro σ H17 ⟨u11, u12, u13, rfl, s17⟩
    have RD17 := RD16.same s17
    have W17 := W16.same s17
    have TP17 := TP16.same s17
    have hS17 := s17.seq hS16
    walk_at "go"
    refine ⟨sA, 4, ns, rfl, hS17, by omega, by omega, fun b4 H18 s18 hb4 B4 => ?_⟩
    have pb4 := RD17.ne (a := b4)
    walk_at "go"
    refine ⟨b4, wk, pp, sg, _, L, E', l1, l2, rfl, B4, W17.same s18, TP17.same s18, ?_, fun H19 d19 => ?_⟩
    · exact ne_of_none TP17.1 hb4
    have RD19 := (RD17.same s18).sb d19.1 (RD17.ne hb4) (d19.kp B4)
    have W19 := (W17.same s18).kp (d19.kp B4)
    have TP19 := (TP17.same s18).sb d19.1 (ne_of_none TP17.1 hb4)
    walk_at "go"
    refine r_ixL (SqL.of TP19.1) rfl ?_
    walk_at "go"
    refine r_ixL (SqL.of TP19.1) rfl ?_
    walk_at "go"
    intro xb dxb hxb hdxb nexb
    refine mk_obj "Blind" false hxb hdxb nexb W19 TP19.2.1 TP19.2.2.1 TP19.2.2.2.1 TP19.2.2.2.2 fun cb H20 s20 TB LCb => ⟨rfl, ?_⟩
    walk_at "go"
    refine ⟨sg, p, pp, false, n, rows, gs, l1, l2, rfl, RD19.same s20, TP19.same s20, hn16, by omega, G.asc, fun vc oc H21 s21 LC CO => ?_⟩
    walk_at "go"
    have eo : oc = cb := LeastC.uniq (fun c hc => wantC_eq HE (wd_ltk TP19.2.1) (wd_ltk TP19.2.2.1) c hc) LC LCb
    subst eo
    refine ⟨xb, "Blind", vc, oc, sg, rfl, .inl rfl, TB.same s21, CO, G.le, fun H22 _ => ?_⟩
    exact k H22
end

end K18
end
set_option maxRecDepth 100000
set_option maxHeartbeats 0
namespace K18
open PySem PySem.Spec PyProof.Rows L2
theorem facts {w : World} {K : PySem.W.Frag} {h : Heap} {mg : Str → Option Value} {f : Addr} (X : K.In h) (G : h.Ns mainGlobals mg) (hfa : mg ("law" : Str) = some (.ref f)) (c : SaysB K) :
    ∃ fd : FuncData, (∀ (s : Shared) (v : Value), BindsTo s fd ⟨[v], []⟩ [("_law_script", v)]) ∧ ∀ base : Heap, K.In base → base.Ns mainGlobals mg → FnG PW w K mg base 8 f fd ["_law_script"] (spLaw K) := by
  have T : Tx K mg := ⟨c.1, h, X, G⟩
  have B : Bp PW K := bp_of c
  obtain ⟨fd, F⟩ := d_law T
  have e := hfa.symm.trans (g_law T)
  cases e
  have b := FunD.bindsA (ps := ["_law_script"]) F fun _ _ _ _ _ _ us hl => match us, hl with | [_], _ => rfl
  exact ⟨fd, fun s v => b s [v] rfl, fun base _ _ => okG_law T B F⟩
end K18
open PySem PySem.W PySem.Calls PyProof.Rows
theorem PySem.Challenge.cw_handcarried_k18_whole_contexts_holds : PySem.Challenge.rw_handcarried_k18_whole_contexts.Holds := by
  refine K18.headB ?_
  refine K18.walk_ofG (l := PySem.Challenge.rw_handcarried_k18_whole_contexts) (n := 63) (k := 8) (x := "_law_script") rfl (by decide) (by kernel_rfl) ⟨rfl, by decide, by decide⟩ ?F
  intro w mg fa h Y G hmg0
  obtain ⟨K, KX, c⟩ := Y
  have hmg : mg ("law" : PySem.Str) = some (.ref fa) := by
    have e : (HandSHeadRun.topDef (OpenLaw.row PySem.Challenge.rw_handcarried_k18_whole_contexts).prog 69).name = ("law" : PySem.Str) := by kernel_rfl
    rw [← e]
    exact hmg0
  obtain ⟨fd, hb, hF⟩ := K18.facts (w := w) KX G hmg c
  exact ⟨K, fd, K18.spLaw K, KX, hb, fun H a ns hl hS => ⟨a, ns, rfl, hS, hl, fun _ => rfl⟩, hF⟩
