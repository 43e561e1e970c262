import PyProof.Rows.All
import Wide.All
import OpenK.AllK
import Wide.FinOn
import HandS.ForMost
import PySem.Challenge.RW_rowreaders_k80_whole_loops_behind_starts
import KE.KStateDown
import Lean
import HandS.Base
import HandS.Call
import HandS.Ends
import HandS.More
import HandS.Words
import HandS.WordsExc
import HandS.Defaults
import HandS.Property
import HandS.Head0
import HandS.Head1
import HandS.Head2
import HandS.HeadEnd
import HandS.HeadHook1
import HandS.HeadHook2
import HandS.HeadNt
import HandS.TupMul
import HandS.TupSets
import HandS.Walk
import HandS.DictComp
import HandS.Conv
import HandS.IsInst
import HandS.Star
import HandS.Style
import HandS.Replace
import HandS.NoneIn
import HandS.OwnEq
import HandS.RaiseMore
import PyProof.ListStr
import PyProof.StrBlock2
import KE.KDictKeyed
import KE.KDictList
import KE.GoesMore
import KE.GoesEnum
import OpenK.KOps
import KE.KDictDisplayH
import HandS.Codes
import HandS.Evl
set_option Elab.async false
set_option linter.all false
set_option maxRecDepth 100000
set_option maxHeartbeats 0
/-! M1: arrows, runs, languages; the least reader of a language by its derivatives. Plain Lean. -/
namespace RR
abbrev Arr := List (List (Option Nat))
def goalAt (A : Arr) (s p : Nat) : Option Nat := (A.getD s []).getD p none
def step (A : Arr) (s : Option Nat) (p : Nat) : Option Nat := s.bind fun q => goalAt A q p
def run (A : Arr) (s : Option Nat) (w : List Nat) : Option Nat := w.foldl (step A) s
def isEnd (E : List Nat) : Option Nat → Bool
  | none => false
  | some q => decide (q ∈ E)
abbrev Lg := List Nat → Bool
def lang (A : Arr) (E : List Nat) (s : Option Nat) : Lg := fun w => isEnd E (run A s w)
def deriv (L : Lg) (p : Nat) : Lg := fun w => L (p :: w)
def emp : Lg := fun _ => false
structure ArrOk (k : Nat) (A : Arr) : Prop where
  pos : 0 < A.length
  wid : ∀ r ∈ A, r.length = k
  rng : ∀ r ∈ A, ∀ q, some q ∈ r → q < A.length

@[simp] theorem run_nil (A : Arr) (s : Option Nat) : run A s [] = s := rfl
@[simp] theorem run_cons (A : Arr) (s : Option Nat) (p : Nat) (w : List Nat) : run A s (p :: w) = run A (step A s p) w := rfl
theorem run_append (A : Arr) (s : Option Nat) (u v : List Nat) : run A s (u ++ v) = run A (run A s u) v := by
  unfold run
  rw [List.foldl_append]
@[simp] theorem step_none (A : Arr) (p : Nat) : step A none p = none := rfl
@[simp] theorem step_some (A : Arr) (q p : Nat) : step A (some q) p = goalAt A q p := rfl
@[simp] theorem run_none (A : Arr) : ∀ w, run A none w = none
  | [] => rfl
  | _ :: w => by rw [run_cons, step_none, run_none A w]
theorem lang_none (A : Arr) (E : List Nat) : lang A E none = emp := by
  funext w
  simp [lang, isEnd, emp]
theorem deriv_lang (A : Arr) (E : List Nat) (s : Option Nat) (p : Nat) : deriv (lang A E s) p = lang A E (step A s p) := rfl
theorem lang_nil (A : Arr) (E : List Nat) (s : Option Nat) : lang A E s [] = isEnd E s := rfl
theorem deriv_emp (p : Nat) : deriv emp p = emp := rfl
section
variable {k : Nat} {A : Arr} {E : List Nat}
theorem goalAt_lt (ok : ArrOk k A) {s p q : Nat} (h : goalAt A s p = some q) : q < A.length := by
  unfold goalAt at h
  by_cases hs : s < A.length
  · have e : A.getD s [] = A[s] := by simp [hs]
    rw [e] at h
    by_cases hp : p < A[s].length
    · have e2 : A[s].getD p none = A[s][p] := by simp [hp]
      rw [e2] at h
      exact ok.rng A[s] (List.getElem_mem hs) q (by rw [← h]; exact List.getElem_mem hp)
    · have e2 : A[s].getD p none = none := by simp at hp; simp [hp]
      rw [e2] at h; cases h
  · have e : A.getD s [] = [] := by simp at hs; simp [hs]
    rw [e] at h
    simp at h
theorem goalAt_sign (ok : ArrOk k A) {s p : Nat} (hp : k ≤ p) : goalAt A s p = none := by
  unfold goalAt
  by_cases hs : s < A.length
  · have e : A.getD s [] = A[s] := by simp [hs]
    have := ok.wid A[s] (List.getElem_mem hs)
    rw [e]
    simp
    rw [List.getElem?_eq_none (by omega)]
    rfl
  · have e : A.getD s [] = [] := by simp at hs; simp [hs]
    rw [e]; simp
theorem step_sign (ok : ArrOk k A) (s : Option Nat) {p : Nat} (hp : k ≤ p) : step A s p = none := by
  cases s with
  | none => rfl
  | some q => exact goalAt_sign ok hp
theorem run_sign (ok : ArrOk k A) : ∀ (w : List Nat) (s : Option Nat), (∃ p ∈ w, k ≤ p) → run A s w = none
  | [], _, h => by obtain ⟨p, hp, _⟩ := h; simp at hp
  | a :: w, s, h => by
    obtain ⟨p, hp, hk⟩ := h
    rw [run_cons]
    rcases List.mem_cons.mp hp with rfl | hp
    · rw [step_sign ok s hk, run_none]
    · exact run_sign ok w _ ⟨p, hp, hk⟩
theorem step_lt (ok : ArrOk k A) {s : Option Nat} {p q : Nat} (h : step A s p = some q) : q < A.length := by
  cases s with
  | none => cases h
  | some s => exact goalAt_lt ok h
theorem run_lt (ok : ArrOk k A) : ∀ (w : List Nat) (s : Option Nat), (∀ q, s = some q → q < A.length) → ∀ q, run A s w = some q → q < A.length
  | [], s, h, q, e => h q e
  | p :: w, s, h, q, e => run_lt ok w (step A s p) (fun q e => step_lt ok e) q e
end

/-! ### nodup lists -/
theorem nodup_len {α : Type} : ∀ {l m : List α}, l.Nodup → (∀ x ∈ l, x ∈ m) → l.length ≤ m.length
  | [], _, _, _ => Nat.zero_le _
  | a :: l, m, hn, hs => by
    obtain ⟨u, v, e⟩ := List.append_of_mem (hs a List.mem_cons_self)
    subst e
    have h1 : a ∉ l := (List.nodup_cons.mp hn).1
    have h2 : ∀ x ∈ l, x ∈ u ++ v := fun x hx => by
      have := hs x (List.mem_cons_of_mem _ hx)
      simp only [List.mem_append, List.mem_cons] at this ⊢
      rcases this with h | rfl | h
      · exact .inl h
      · exact absurd hx h1
      · exact .inr h
    have := nodup_len (List.nodup_cons.mp hn).2 h2
    simp only [List.length_cons, List.length_append] at this ⊢
    omega
/-- if long enough a part, it is all of it -/
theorem nodup_all {α : Type} {l m : List α} (hn : l.Nodup) (hs : ∀ x ∈ l, x ∈ m) (hl : m.length ≤ l.length) : ∀ x ∈ m, x ∈ l := by
  intro x hx
  apply Classical.byContradiction
  intro hc
  have : (x :: l).length ≤ m.length := nodup_len (List.nodup_cons.mpr ⟨hc, hn⟩) (fun y hy => by
    rcases List.mem_cons.mp hy with rfl | hy
    · exact hx
    · exact hs y hy)
  simp at this
  omega
/-- two places alike, where there are more places than things -/
theorem pigeon {α : Type} (f : Nat → α) (m : List α) (h : ∀ i, i ≤ m.length → f i ∈ m) : ∃ i j, i < j ∧ j ≤ m.length ∧ f i = f j := by
  apply Classical.byContradiction
  intro hc
  have nd : ((List.range (m.length + 1)).map f).Nodup := by
    rw [List.nodup_iff_pairwise_ne, List.pairwise_map]
    refine List.Pairwise.imp_of_mem ?_ (List.pairwise_lt_range (n := m.length + 1))
    intro a b ha hb hab e
    exact hc ⟨a, b, hab, by have := List.mem_range.mp hb; omega, e⟩
  have := nodup_len nd (m := m) (fun x hx => by
    obtain ⟨i, hi, rfl⟩ := List.mem_map.mp hx
    exact h i (by have := List.mem_range.mp hi; omega))
  simp at this
  omega

/-! ### the least reader of a language -/
open Classical in
noncomputable def rowStep (l : Lg) (x : List (Option Nat) × List Lg) (p : Nat) : List (Option Nat) × List Lg :=
  if deriv l p = emp then (x.1 ++ [none], x.2)
  else if deriv l p ∈ x.2 then (x.1 ++ [some (x.2.findIdx fun m => decide (m = deriv l p))], x.2)
  else (x.1 ++ [some x.2.length], x.2 ++ [deriv l p])
noncomputable def rowFrom (l : Lg) (x : List (Option Nat) × List Lg) (ps : List Nat) : List (Option Nat) × List Lg := ps.foldl (rowStep l) x
structure LS where
  line : List Lg
  rows : Arr
  shut : List Nat
noncomputable def lsStep (k : Nat) (s : LS) : LS := match s.line[s.rows.length]? with
  | none => s
  | some l => ⟨(rowFrom l ([], s.line) (List.range k)).2, s.rows ++ [(rowFrom l ([], s.line) (List.range k)).1], if l [] = true then s.shut ++ [s.rows.length] else s.shut⟩
noncomputable def lsIter (k : Nat) : Nat → LS → LS
  | 0, s => s
  | n + 1, s => lsIter k n (lsStep k s)
def big : Nat := 1000
theorem big_eq : big = 1000 := rfl
open Classical in
noncomputable def leastN (b k : Nat) (L : Lg) : Arr × List Nat :=
  if L = emp then ([List.replicate k none], []) else ((lsIter k b ⟨[L], [], []⟩).rows, (lsIter k b ⟨[L], [], []⟩).shut)
noncomputable def leastL (k : Nat) (L : Lg) : Arr × List Nat := leastN big k L

theorem lsIter_succ (k : Nat) : ∀ (n : Nat) (s : LS), lsIter k (n + 1) s = lsStep k (lsIter k n s)
  | 0, s => rfl
  | n + 1, s => by
    show lsIter k (n + 1) (lsStep k s) = _
    rw [lsIter_succ k n (lsStep k s)]
    rfl
theorem lsStep_done {k : Nat} {s : LS} (h : s.line.length ≤ s.rows.length) : lsStep k s = s := by
  unfold lsStep
  rw [List.getElem?_eq_none h]
theorem lsIter_done {k : Nat} {s : LS} (h : s.line.length ≤ s.rows.length) : ∀ n, lsIter k n s = s
  | 0 => rfl
  | n + 1 => by
    show lsIter k n (lsStep k s) = s
    rw [lsStep_done h, lsIter_done h n]

/-- what a row told so far says -/
structure RowOk (l : Lg) (line0 : List Lg) (n : Nat) (x : List (Option Nat) × List Lg) : Prop where
  len : x.1.length = n
  ext : ∃ more, x.2 = line0 ++ more
  nd : x.2.Nodup
  ne : ∀ m ∈ x.2, m ≠ emp
  src : ∀ m ∈ x.2, m ∈ line0 ∨ ∃ p, p < n ∧ m = deriv l p
  arr : ∀ p, p < n → ∀ g, x.1[p]? = some g → (deriv l p = emp ∧ g = none) ∨ (∃ j, g = some j ∧ x.2[j]? = some (deriv l p))
theorem rowStep_ok {l : Lg} {line0 : List Lg} {n : Nat} {x : List (Option Nat) × List Lg} (h : RowOk l line0 n x) : RowOk l line0 (n + 1) (rowStep l x n) := by
  obtain ⟨row, line⟩ := x
  obtain ⟨hlen, ⟨more, hext⟩, nd, ne, src, arr⟩ := h
  dsimp only at hlen hext nd ne src arr
  unfold rowStep
  dsimp only
  split
  · rename_i he
    refine ⟨by simp [hlen], ⟨more, hext⟩, nd, ne, fun m hm => (src m hm).imp id fun ⟨p, hp, e⟩ => ⟨p, by omega, e⟩, fun p hp g hg => ?_⟩
    dsimp only at hg ⊢
    by_cases hpn : p < n
    · rw [List.getElem?_append_left (by omega)] at hg
      exact arr p hpn g hg
    · have e : p = n := by omega
      subst e
      rw [List.getElem?_append_right (by omega), hlen] at hg
      simp at hg
      exact .inl ⟨he, hg.symm⟩
  · rename_i he
    split
    · rename_i hm
      refine ⟨by simp [hlen], ⟨more, hext⟩, nd, ne, fun m hm => (src m hm).imp id fun ⟨p, hp, e⟩ => ⟨p, by omega, e⟩, fun p hp g hg => ?_⟩
      dsimp only at hg ⊢
      by_cases hpn : p < n
      · rw [List.getElem?_append_left (by omega)] at hg
        exact arr p hpn g hg
      · have e : p = n := by omega
        subst e
        rw [List.getElem?_append_right (by omega), hlen] at hg
        simp at hg
        refine .inr ⟨_, hg.symm, ?_⟩
        classical
        have hi := List.findIdx_lt_length_of_exists (p := fun m => decide (m = deriv l p)) ⟨_, hm, by simp⟩
        have h2 := List.findIdx_getElem (w := hi)
        rw [List.getElem?_eq_getElem hi]
        simpa using h2
    · rename_i hm
      refine ⟨by simp [hlen], ⟨more ++ [deriv l n], by simp [hext]⟩, ?_, fun m hm' => ?_, fun m hm' => ?_, fun p hp g hg => ?_⟩
      · dsimp only
        rw [List.nodup_append]
        refine ⟨nd, List.nodup_cons.mpr ⟨List.not_mem_nil, List.nodup_nil⟩, fun a ha b hb => ?_⟩
        simp at hb
        subst hb
        intro e; subst e; exact hm ha
      · dsimp only at hm'
        rcases List.mem_append.mp hm' with h | h
        · exact ne m h
        · simp at h; subst h; exact he
      · dsimp only at hm'
        rcases List.mem_append.mp hm' with h | h
        · exact (src m h).imp id fun ⟨p, hp, e⟩ => ⟨p, by omega, e⟩
        · simp at h; exact .inr ⟨n, by omega, h⟩
      · dsimp only at hg ⊢
        by_cases hpn : p < n
        · rw [List.getElem?_append_left (by omega)] at hg
          rcases arr p hpn g hg with h | ⟨j, h1, h2⟩
          · exact .inl h
          · refine .inr ⟨j, h1, ?_⟩
            have hj : j < line.length := by
              have := (List.getElem?_eq_some_iff.mp h2).1
              exact this
            rw [List.getElem?_append_left hj]
            exact h2
        · have e : p = n := by omega
          subst e
          rw [List.getElem?_append_right (by omega), hlen] at hg
          simp at hg
          refine .inr ⟨_, hg.symm, ?_⟩
          simp
theorem rowFrom_ok {l : Lg} {line0 : List Lg} (nd : line0.Nodup) (ne : ∀ m ∈ line0, m ≠ emp) : ∀ n, RowOk l line0 n (rowFrom l ([], line0) (List.range n))
  | 0 => ⟨rfl, ⟨[], by simp [rowFrom]⟩, nd, ne, fun m hm => .inl hm, fun p hp => absurd hp (Nat.not_lt_zero _)⟩
  | n + 1 => by
    have ih := rowFrom_ok (l := l) nd ne n
    unfold rowFrom at ih ⊢
    rw [List.range_succ, List.foldl_append]
    exact rowStep_ok ih

/-- what the lines told so far say -/
structure LsOk (k : Nat) (L : Lg) (R : List Lg) (s : LS) : Prop where
  zero : s.line[0]? = some L
  nd : s.line.Nodup
  ne : ∀ m ∈ s.line, m ≠ emp
  sub : ∀ m ∈ s.line, m ∈ R
  le : s.rows.length ≤ s.line.length
  wid : ∀ r ∈ s.rows, r.length = k
  arr : ∀ (i p : Nat) (l : Lg) (r : List (Option Nat)), s.rows[i]? = some r → s.line[i]? = some l → p < k → ∀ g, r[p]? = some g →
    (deriv l p = emp ∧ g = none) ∨ (∃ j, g = some j ∧ s.line[j]? = some (deriv l p))
  shu : s.shut = (List.range s.rows.length).filter fun i => match s.line[i]? with | some l => l [] | none => false
theorem lsStep_ok {k : Nat} {L : Lg} {R : List Lg} (hR : ∀ l ∈ R, ∀ p, p < k → deriv l p ∈ R) {s : LS} (h : LsOk k L R s) : LsOk k L R (lsStep k s) := by
  unfold lsStep
  split
  · exact h
  · rename_i l hl
    have ro := rowFrom_ok (l := l) h.nd h.ne k
    generalize hx : rowFrom l ([], s.line) (List.range k) = x at ro ⊢
    obtain ⟨row, line⟩ := x
    obtain ⟨more, hext⟩ := ro.ext
    dsimp only at hext
    have hlen : row.length = k := ro.len
    have old : ∀ i m, s.line[i]? = some m → line[i]? = some m := fun i m e => by
      rw [hext, List.getElem?_append_left (List.getElem?_eq_some_iff.mp e).1]; exact e
    have hlt := (List.getElem?_eq_some_iff.mp hl).1
    have hlines : s.line.length ≤ line.length := by rw [hext]; simp
    dsimp only
    refine ⟨old _ _ h.zero, ro.nd, ro.ne, fun m hm => ?_, by simp; omega, fun r hr => ?_, fun i p m r e1 e2 hp g hg => ?_, ?_⟩
    · rcases ro.src m hm with q | ⟨p, hp, rfl⟩
      · exact h.sub m q
      · exact hR l (h.sub l (List.mem_of_getElem? hl)) p hp
    · rcases List.mem_append.mp hr with q | q
      · exact h.wid r q
      · simp at q; subst q; exact hlen
    · dsimp only at e1 e2 ⊢
      by_cases hi : i < s.rows.length
      · rw [List.getElem?_append_left hi] at e1
        have e3 : s.line[i]? = some m := by
          have h4 : i < s.line.length := Nat.lt_of_lt_of_le hi h.le
          have h5 := old i s.line[i] (List.getElem?_eq_getElem h4)
          rw [h5] at e2
          cases e2
          exact List.getElem?_eq_getElem h4
        rcases h.arr i p m r e1 e3 hp g hg with q | ⟨j, q1, q2⟩
        · exact .inl q
        · exact .inr ⟨j, q1, old _ _ q2⟩
      · by_cases hi2 : i = s.rows.length
        · subst hi2
          rw [List.getElem?_append_right (Nat.le_refl _)] at e1
          simp at e1
          subst e1
          rw [old _ _ hl] at e2
          cases e2
          exact ro.arr p hp g hg
        · rw [List.getElem?_eq_none (by simp; omega)] at e1
          cases e1
    · have e0 : ∀ i, i < s.rows.length → (match line[i]? with | some l => l [] | none => false) = (match s.line[i]? with | some l => l [] | none => false) := fun i hi => by
        have h4 : i < s.line.length := Nat.lt_of_lt_of_le hi h.le
        rw [old i s.line[i] (List.getElem?_eq_getElem h4), List.getElem?_eq_getElem h4]
      rw [List.length_append]
      show _ = (List.range (s.rows.length + 1)).filter _
      rw [List.range_succ, List.filter_append]
      have e1 : (List.range s.rows.length).filter (fun i => match line[i]? with | some l => l [] | none => false) = s.shut := by
        rw [h.shu]
        exact List.filter_congr fun i hi => e0 i (List.mem_range.mp hi)
      rw [e1]
      cases hq : l [] with
      | true => simp [old _ _ hl, hq]
      | false => simp [old _ _ hl, hq]
theorem lsIter_ok {k : Nat} {L : Lg} {R : List Lg} (hR : ∀ l ∈ R, ∀ p, p < k → deriv l p ∈ R) : ∀ (n : Nat) {s : LS}, LsOk k L R s → LsOk k L R (lsIter k n s)
  | 0, _, h => h
  | n + 1, _, h => lsIter_ok hR n (lsStep_ok hR h)
theorem lsIter_grow (k : Nat) : ∀ (n : Nat) (s : LS), (lsIter k n s).line.length ≤ (lsIter k n s).rows.length ∨ (lsIter k n s).rows.length = s.rows.length + n
  | 0, s => .inr rfl
  | n + 1, s => by
    rw [lsIter_succ]
    rcases lsIter_grow k n s with h | h
    · rw [lsStep_done h]; exact .inl h
    · generalize hz : lsIter k n s = z at h ⊢
      cases e : z.line[z.rows.length]? with
      | none =>
        have : z.line.length ≤ z.rows.length := List.getElem?_eq_none_iff.mp e
        rw [lsStep_done this]; exact .inl this
      | some l =>
        right
        unfold lsStep
        rw [e]
        simp
        omega
/-- the whole, when it is done -/
structure Done (k : Nat) (L : Lg) (R line : List Lg) (A : Arr) (E : List Nat) : Prop where
  zero : line[0]? = some L
  nd : line.Nodup
  ne : ∀ m ∈ line, m ≠ emp
  sub : ∀ m ∈ line, m ∈ R
  len : A.length = line.length
  wid : ∀ r ∈ A, r.length = k
  arr : ∀ (i p : Nat) (l : Lg), line[i]? = some l → p < k → (deriv l p = emp ∧ goalAt A i p = none) ∨ (∃ j, goalAt A i p = some j ∧ line[j]? = some (deriv l p))
  shu : E = (List.range A.length).filter fun i => match line[i]? with | some l => l [] | none => false
theorem leastN_done {b k : Nat} {L : Lg} {R : List Lg} (hL : L ∈ R) (hR : ∀ l ∈ R, ∀ p, p < k → deriv l p ∈ R) (hz : R.length < b) (hne : L ≠ emp) : ∃ line, Done k L R line (leastN b k L).1 (leastN b k L).2 := by
  unfold leastN
  rw [if_neg hne]
  have ok0 : LsOk k L R ⟨[L], [], []⟩ := ⟨rfl, by simp, by simpa using hne, by simpa using hL, by simp, by simp, by simp, by simp⟩
  have ok := lsIter_ok hR b ok0
  have gr := lsIter_grow k b ⟨[L], [], []⟩
  generalize hs : lsIter k b ⟨[L], [], []⟩ = s at ok gr ⊢
  have hlen := nodup_len ok.nd ok.sub
  have e : s.rows.length = s.line.length := by
    rcases gr with h | h
    · have := ok.le; omega
    · simp at h
      have := ok.le
      omega
  refine ⟨s.line, ok.zero, ok.nd, ok.ne, ok.sub, e, ok.wid, fun i p l hl hp => ?_, ok.shu⟩
  have hi : i < s.rows.length := by rw [e]; exact (List.getElem?_eq_some_iff.mp hl).1
  have hw := ok.wid s.rows[i] (List.getElem_mem hi)
  have hp' : p < s.rows[i].length := by omega
  have key := ok.arr i p l s.rows[i] (List.getElem?_eq_getElem hi) hl hp s.rows[i][p] (List.getElem?_eq_getElem hp')
  have eg : goalAt s.rows i p = s.rows[i][p] := by unfold goalAt; simp [hi, hp']
  rcases key with ⟨h1, h2⟩ | ⟨j, h1, h2⟩
  · exact .inl ⟨h1, by rw [eg]; exact h2⟩
  · exact .inr ⟨j, by rw [eg]; exact h1, h2⟩
theorem leastL_done {k : Nat} {L : Lg} {R : List Lg} (hL : L ∈ R) (hR : ∀ l ∈ R, ∀ p, p < k → deriv l p ∈ R) (hz : R.length ≤ 900) (hne : L ≠ emp) : ∃ line, Done k L R line (leastL k L).1 (leastL k L).2 :=
  leastN_done hL hR (by rw [big_eq]; omega) hne
section
variable {k : Nat} {L : Lg} {R line : List Lg} {A : Arr} {E : List Nat}
theorem Done.ok (d : Done k L R line A E) : ArrOk k A := by
  refine ⟨?_, d.wid, fun r hr q hq => ?_⟩
  · rw [d.len]; exact (List.getElem?_eq_some_iff.mp d.zero).1
  · obtain ⟨i, hi, rfl⟩ := List.getElem_of_mem hr
    obtain ⟨p, hp, e⟩ := List.getElem_of_mem hq
    have hl : i < line.length := by rw [← d.len]; exact hi
    have hw := d.wid A[i] (List.getElem_mem hi)
    have eg : goalAt A i p = some q := by unfold goalAt; simp [hi, hp, e]
    rcases d.arr i p line[i] (List.getElem?_eq_getElem hl) (by omega) with ⟨_, h⟩ | ⟨j, h, h2⟩
    · rw [eg] at h; cases h
    · rw [eg] at h; cases h
      rw [d.len]; exact (List.getElem?_eq_some_iff.mp h2).1
theorem Done.lang (d : Done k L R line A E) : ∀ (w : List Nat) (i : Nat) (l : Lg), line[i]? = some l → (∀ p ∈ w, p < k) → lang A E (some i) w = l w
  | [], i, l, hl, _ => by
    have hi : i < A.length := by rw [d.len]; exact (List.getElem?_eq_some_iff.mp hl).1
    show isEnd E (some i) = l []
    unfold isEnd
    rw [d.shu]
    cases hq : l [] with
    | true => simp [hi, hl, hq]
    | false => simp [hl, hq]
  | p :: w, i, l, hl, hw => by
    have hp : p < k := hw p List.mem_cons_self
    have hw' : ∀ p ∈ w, p < k := fun q hq => hw q (List.mem_cons_of_mem _ hq)
    show RR.lang A E (step A (some i) p) w = deriv l p w
    rcases d.arr i p l hl hp with ⟨h1, h2⟩ | ⟨j, h1, h2⟩
    · rw [step_some, h2, h1, lang_none]
    · rw [step_some, h1]
      exact Done.lang d w j _ h2 hw'
end
/-- words with signs beyond are not in it -/
def LgOk (k : Nat) (L : Lg) : Prop := ∀ w, (∃ p ∈ w, k ≤ p) → L w = false
theorem lang_lgok {k : Nat} {A : Arr} (ok : ArrOk k A) (E : List Nat) (s : Option Nat) : LgOk k (lang A E s) := fun w h => by
  show isEnd E (run A s w) = false
  rw [run_sign ok w s h]
  rfl
theorem emp_or (L : Lg) : L = emp ∨ ∃ w, L w = true := by
  by_cases h : ∃ w, L w = true
  · exact .inr h
  · refine .inl (funext fun w => ?_)
    cases e : L w with
    | false => rfl
    | true => exact absurd ⟨w, e⟩ h
structure Least (k n : Nat) (L : Lg) (A : Arr) (E : List Nat) : Prop where
  ok : ArrOk k A
  lg : lang A E (some 0) = L
  asc : E.Pairwise (· < ·)
  lt : ∀ e ∈ E, e < A.length
  few : A.length ≤ n
theorem leastL_least {k n : Nat} {L : Lg} {R : List Lg} (hk : LgOk k L) (hL : L ∈ R) (hR : ∀ l ∈ R, ∀ p, p < k → deriv l p ∈ R) (hz : R.length ≤ 900) (hn : R.length ≤ n) : Least k n L (leastL k L).1 (leastL k L).2 := by
  by_cases hne : L = emp
  · have e : leastL k L = ([List.replicate k none], []) := by unfold leastL leastN; rw [if_pos hne]
    rw [e]
    have pos : 0 < R.length := List.length_pos_of_mem hL
    refine ⟨⟨by simp, by simp, by simp⟩, ?_, by simp, by simp, by simp; omega⟩
    rw [hne]
    funext w
    show isEnd [] _ = false
    unfold isEnd
    split <;> simp
  · obtain ⟨line, d⟩ := leastL_done hL hR hz hne
    refine ⟨d.ok, ?_, ?_, ?_, ?_⟩
    · funext w
      by_cases hw : ∃ p ∈ w, k ≤ p
      · rw [lang_lgok d.ok _ _ w hw, hk w hw]
      · exact d.lang w 0 L d.zero fun p hp => by
          apply Classical.byContradiction
          intro h
          exact hw ⟨p, hp, by omega⟩
    · rw [d.shu]
      exact List.Pairwise.filter _ List.pairwise_lt_range
    · intro e he
      rw [d.shu] at he
      exact List.mem_range.mp ((List.mem_filter.mp he).1)
    · rw [d.len]
      exact Nat.le_trans (nodup_len d.nd d.sub) hn
end RR
/-! M2: loops that come again and again. Plain Lean. -/
namespace RR
/-! ### a step again and again -/
def itr (f : Option Nat → Option Nat) (s : Option Nat) : Nat → Option Nat
  | 0 => s
  | n + 1 => f (itr f s n)
def Inf (f : Option Nat → Option Nat) (m : Option Nat → Bool) (s : Option Nat) : Prop := ∀ N, ∃ i, N ≤ i ∧ m (itr f s i) = true
section
variable {f : Option Nat → Option Nat} {m : Option Nat → Bool} {s : Option Nat}
theorem itr_shift (f : Option Nat → Option Nat) (s : Option Nat) (a b : Nat) : itr f s (a + b) = itr f (itr f s a) b := by
  induction b with
  | zero => rfl
  | succ b ih => show f (itr f s (a + b)) = f (itr f (itr f s a) b); rw [ih]
theorem itr_first (f : Option Nat → Option Nat) (s : Option Nat) (n : Nat) : itr f s (n + 1) = itr f (f s) n := by
  rw [Nat.add_comm, itr_shift]
  rfl
theorem itr_none (hf : f none = none) {i j : Nat} (h : itr f s i = none) (hij : i ≤ j) : itr f s j = none := by
  obtain ⟨d, rfl⟩ := Nat.exists_eq_add_of_le hij
  rw [itr_shift, h]
  induction d with
  | zero => rfl
  | succ d ih => show f (itr f none d) = none; rw [ih (by omega), hf]
theorem itr_period {i j : Nat} (h : itr f s i = itr f s j) (hij : i < j) {t : Nat} (ht : i ≤ t) : itr f s (t + (j - i)) = itr f s t := by
  have e1 : t + (j - i) = j + (t - i) := by omega
  have e2 : itr f s t = itr f s (i + (t - i)) := by rw [Nat.add_sub_cancel' ht]
  rw [e1, e2, itr_shift, itr_shift, h]
theorem itr_periods {i j : Nat} (h : itr f s i = itr f s j) (hij : i < j) {t : Nat} (ht : i ≤ t) : ∀ c, itr f s (t + c * (j - i)) = itr f s t
  | 0 => by simp
  | c + 1 => by
    have e : t + (c + 1) * (j - i) = (t + c * (j - i)) + (j - i) := by rw [Nat.succ_mul]; omega
    rw [e, itr_period h hij (by omega), itr_periods h hij ht c]
/-- in a round, what comes without end comes in it -/
theorem inf_round {i j : Nat} (h : itr f s i = itr f s j) (hij : i < j) {a b : Nat} (ha : i ≤ a) (hb : a + (j - i) ≤ b) : Inf f m s ↔ ∃ t, a ≤ t ∧ t < b ∧ m (itr f s t) = true := by
  constructor
  · intro hi
    obtain ⟨t, h1, h2⟩ := hi a
    have key : ∀ d t, t = d → a ≤ t → m (itr f s t) = true → ∃ t, a ≤ t ∧ t < b ∧ m (itr f s t) = true := by
      intro d
      induction d using Nat.strongRecOn with
      | ind d ih =>
        intro t e h1 h2
        by_cases hlt : t < b
        · exact ⟨t, h1, hlt, h2⟩
        · have e2 : t - (j - i) + (j - i) = t := by omega
          have hp := itr_period h hij (t := t - (j - i)) (by omega)
          rw [e2] at hp
          exact ih (t - (j - i)) (by omega) _ rfl (by omega) (by rw [← hp]; exact h2)
    exact key t t rfl h1 h2
  · rintro ⟨t, h1, h2, h3⟩ N
    refine ⟨t + N * (j - i), ?_, by rw [itr_periods h hij (by omega)]; exact h3⟩
    have : N ≤ N * (j - i) := Nat.le_mul_of_pos_right N (by omega)
    omega
theorem inf_none (hf : f none = none) (hm : m none = false) {i : Nat} (h : itr f s i = none) : ¬ Inf f m s := by
  intro hi
  obtain ⟨t, h1, h2⟩ := hi i
  rw [itr_none hf h h1, hm] at h2
  cases h2
/-- so many steps further on, a window as long tells it -/
theorem inf_window {n : Nat} (hf : f none = none) (hm : m none = false) (hr : ∀ x q, f x = some q → q < n) (hs : ∀ q, s = some q → q < n) : Inf f m s ↔ ∃ t, n ≤ t ∧ t < 2 * n ∧ m (itr f s t) = true := by
  cases e : itr f s n with
  | none =>
    constructor
    · intro h; exact absurd h (inf_none hf hm e)
    · rintro ⟨t, h1, _, h3⟩
      rw [itr_none hf e h1, hm] at h3; cases h3
  | some q =>
    have all : ∀ i, i ≤ ((List.range n).map some).length → itr f s i ∈ (List.range n).map some := fun i hi => by
      have hi : i ≤ n := by simpa using hi
      cases e2 : itr f s i with
      | none => rw [itr_none hf e2 hi] at e; cases e
      | some r =>
        have : r < n := by
          cases i with
          | zero => exact hs r e2
          | succ i => exact hr _ r e2
        simpa using this
    obtain ⟨i, j, h1, h2, h3⟩ := pigeon (itr f s) ((List.range n).map some) all
    have h2 : j ≤ n := by simpa using h2
    exact inf_round h3 h1 (by omega) (by omega)
theorem window_some {n : Nat} (hf : f none = none) (hr : ∀ x q, f x = some q → q < n) (hs : ∀ q, s = some q → q < n) (h : itr f s n ≠ none) : ∀ i, itr f s i ≠ none := by
  have all : ∀ i, i ≤ ((List.range n).map some).length → itr f s i ∈ (List.range n).map some := fun i hi => by
    have hi : i ≤ n := by simpa using hi
    cases e2 : itr f s i with
    | none => exact absurd (itr_none hf e2 hi) h
    | some r =>
      have : r < n := by
        cases i with
        | zero => exact hs r e2
        | succ i => exact hr _ r e2
      simpa using this
  obtain ⟨i, j, h1, h2, h3⟩ := pigeon (itr f s) ((List.range n).map some) all
  have h2 : j ≤ n := by simpa using h2
  intro t ht
  have hh := itr_none hf ht (show t ≤ n + t * (j - i) by have : t ≤ t * (j - i) := Nat.le_mul_of_pos_right t (by omega); omega)
  rw [itr_periods h3 h1 (by omega)] at hh
  exact h hh
end

/-! ### marks met along a row -/
def met (A : Arr) (M : List Nat) : Option Nat → List Nat → Bool
  | _, [] => false
  | s, p :: w => isEnd M (step A s p) || met A M (step A s p) w
def goes (A : Arr) : Option Nat → List Nat → List (Option Nat)
  | _, [] => []
  | s, p :: w => step A s p :: goes A (step A s p) w
theorem met_none (A : Arr) (M : List Nat) : ∀ w, met A M none w = false
  | [] => rfl
  | p :: w => by show (isEnd M none || met A M none w) = false; rw [met_none A M w]; rfl
theorem met_append (A : Arr) (M : List Nat) : ∀ (u : List Nat) (s : Option Nat) (v : List Nat), met A M s (u ++ v) = (met A M s u || met A M (run A s u) v)
  | [], s, v => by simp [met]
  | p :: u, s, v => by
    show (isEnd M (step A s p) || met A M (step A s p) (u ++ v)) = ((isEnd M (step A s p) || met A M (step A s p) u) || met A M (run A (step A s p) u) v)
    rw [met_append A M u, Bool.or_assoc]
theorem goes_any (A : Arr) (M : List Nat) : ∀ (w : List Nat) (s : Option Nat), (goes A s w).any (isEnd M) = met A M s w
  | [], s => rfl
  | p :: w, s => by
    show (isEnd M (step A s p) || (goes A (step A s p) w).any (isEnd M)) = _
    rw [goes_any A M w]
    rfl
theorem goes_none (A : Arr) : ∀ (w : List Nat) (s : Option Nat), run A s w ≠ none → none ∉ goes A s w
  | [], s, h => List.not_mem_nil
  | p :: w, s, h => by
    intro hm
    have h' : run A (step A s p) w ≠ none := h
    rcases List.mem_cons.mp hm with e | hm
    · rw [← e, run_none] at h'; exact h' rfl
    · exact goes_none A w _ h' hm
theorem goes_last (A : Arr) : ∀ (w : List Nat) (s : Option Nat), (s :: goes A s w).getLast (by simp) = run A s w
  | [], s => rfl
  | p :: w, s => by
    show (s :: step A s p :: goes A (step A s p) w).getLast (by simp) = run A (step A s p) w
    rw [← goes_last A w (step A s p)]
    simp
theorem goes_length (A : Arr) : ∀ (w : List Nat) (s : Option Nat), (goes A s w).length = w.length
  | [], s => rfl
  | p :: w, s => by
    show (goes A (step A s p) w).length + 1 = w.length + 1
    rw [goes_length A w]
theorem goes_append (A : Arr) : ∀ (u v : List Nat) (s : Option Nat), goes A s (u ++ v) = goes A s u ++ goes A (run A s u) v
  | [], v, s => rfl
  | p :: u, v, s => by
    show step A s p :: goes A (step A s p) (u ++ v) = step A s p :: (goes A (step A s p) u ++ _)
    rw [goes_append A u v]
    rfl
theorem met_iff (A : Arr) (M : List Nat) : ∀ (w : List Nat) (s : Option Nat), met A M s w = true ↔ ∃ j, 0 < j ∧ j ≤ w.length ∧ isEnd M (run A s (w.take j)) = true
  | [], s => by
    constructor
    · intro h; cases h
    · rintro ⟨j, h1, h2, _⟩; simp at h2; omega
  | p :: w, s => by
    show (isEnd M (step A s p) || met A M (step A s p) w) = true ↔ _
    rw [Bool.or_eq_true, met_iff A M w]
    constructor
    · rintro (h | ⟨j, h1, h2, h3⟩)
      · exact ⟨1, by omega, by simp, by simpa using h⟩
      · exact ⟨j + 1, by omega, by simp; omega, by simpa using h3⟩
    · rintro ⟨j, h1, h2, h3⟩
      obtain ⟨j, rfl⟩ : ∃ i, j = i + 1 := ⟨j - 1, by omega⟩
      by_cases hj : j = 0
      · subst hj; exact .inl (by simpa using h3)
      · exact .inr ⟨j, by omega, by simp at h2; omega, by simpa using h3⟩

/-! ### a row again and again -/
def rpt : Nat → List Nat → List Nat
  | 0, _ => []
  | n + 1, v => rpt n v ++ v
theorem rpt_length (v : List Nat) : ∀ n, (rpt n v).length = n * v.length
  | 0 => by simp [rpt]
  | n + 1 => by simp [rpt, rpt_length v n, Nat.succ_mul]
theorem rpt_add (v : List Nat) (a : Nat) : ∀ b, rpt (a + b) v = rpt a v ++ rpt b v
  | 0 => by simp [rpt]
  | b + 1 => by show rpt (a + b) v ++ v = rpt a v ++ (rpt b v ++ v); rw [rpt_add v a b, List.append_assoc]
theorem run_rpt (A : Arr) (s : Option Nat) (v : List Nat) : ∀ n, run A s (rpt n v) = itr (fun x => run A x v) s n
  | 0 => rfl
  | n + 1 => by show run A s (rpt n v ++ v) = run A (itr (fun x => run A x v) s n) v; rw [run_append, run_rpt A s v n]
theorem rpt_two (v : List Nat) : ∀ n, rpt n (v ++ v) = rpt (2 * n) v
  | 0 => rfl
  | n + 1 => by
    show rpt n (v ++ v) ++ (v ++ v) = rpt (2 * n + 2) v
    rw [rpt_two v n, rpt_add]
    show _ = _ ++ (([] ++ v) ++ v)
    simp
theorem met_rpt (A : Arr) (M : List Nat) (v : List Nat) : ∀ (n : Nat) (s : Option Nat), met A M s (rpt n v) = true ↔ ∃ i, i < n ∧ met A M (itr (fun x => run A x v) s i) v = true
  | 0, s => by
    constructor
    · intro h; cases h
    · rintro ⟨i, h, _⟩; omega
  | n + 1, s => by
    show met A M s (rpt n v ++ v) = true ↔ _
    rw [met_append, Bool.or_eq_true, met_rpt A M v n s, run_rpt]
    constructor
    · rintro (⟨i, h1, h2⟩ | h)
      · exact ⟨i, by omega, h2⟩
      · exact ⟨n, by omega, h⟩
    · rintro ⟨i, h1, h2⟩
      by_cases hi : i < n
      · exact .inl ⟨i, hi, h2⟩
      · have : i = n := by omega
        subst this; exact .inr h2
/-- a watcher's yes: without end again and again -/
def Acc (A : Arr) (M : List Nat) (s : Option Nat) (v : List Nat) : Prop := Inf (fun x => run A x v) (fun x => met A M x v) s
theorem acc_none (A : Arr) (M : List Nat) (v : List Nat) : ¬ Acc A M none v := inf_none (f := fun x => run A x v) (m := fun x => met A M x v) (i := 0) (run_none A v) (met_none A M v) rfl
theorem acc_nil (A : Arr) (M : List Nat) (s : Option Nat) : ¬ Acc A M s [] := fun h => by
  obtain ⟨_, _, h⟩ := h 0
  cases h
section
variable {k : Nat} {A : Arr} {M : List Nat} {s : Option Nat} {v : List Nat}
theorem run_rng (ok : ArrOk k A) (hv : v ≠ []) : ∀ x q, run A x v = some q → q < A.length := by
  intro x q h
  cases v with
  | nil => exact absurd rfl hv
  | cons p w => exact run_lt ok w (step A x p) (fun q e => step_lt ok e) q h
/-- the law's own window -/
theorem acc_window (ok : ArrOk k A) (hv : v ≠ []) (hs : ∀ q, s = some q → q < A.length) : Acc A M s v ↔ met A M (run A s (rpt A.length v)) (rpt A.length v) = true := by
  unfold Acc
  rw [inf_window (n := A.length) (run_none A v) (met_none A M v) (run_rng ok hv) hs, met_rpt, run_rpt]
  constructor
  · rintro ⟨t, h1, h2, h3⟩
    refine ⟨t - A.length, by omega, ?_⟩
    rw [← itr_shift, show A.length + (t - A.length) = t by omega]
    exact h3
  · rintro ⟨i, h1, h2⟩
    rw [← itr_shift] at h2
    exact ⟨A.length + i, by omega, by omega, h2⟩
/-- the law's own walk of a watcher -/
def lawWatched (A : Arr) (M : List Nat) (s : Option Nat) (v : List Nat) : Bool :=
  (run A s (rpt A.length v)).isSome && (!decide (none ∈ goes A (run A s (rpt A.length v)) (rpt A.length v))) && (goes A (run A s (rpt A.length v)) (rpt A.length v)).any (isEnd M)
theorem lawWatched_acc (ok : ArrOk k A) (hv : v ≠ []) (hs : ∀ q, s = some q → q < A.length) : lawWatched A M s v = true ↔ Acc A M s v := by
  rw [acc_window ok hv hs]
  unfold lawWatched
  rw [goes_any]
  constructor
  · intro h
    simp only [Bool.and_eq_true] at h
    exact h.2
  · intro h
    have h1 : run A s (rpt A.length v) ≠ none := fun e => by rw [e, met_none] at h; cases h
    have h2 : run A (run A s (rpt A.length v)) (rpt A.length v) ≠ none := by
      rw [← run_append, ← rpt_add, run_rpt]
      rw [run_rpt] at h1
      exact window_some (run_none A v) (run_rng ok hv) hs h1 _
    have h3 := goes_none A _ _ h2
    simp [h, h3, Option.isSome_iff_ne_none, h1]
/-- a loop once and twice -/
theorem acc_two (ok : ArrOk k A) (hv : v ≠ []) (hs : ∀ q, s = some q → q < A.length) : Acc A M s (v ++ v) ↔ Acc A M s v := by
  rw [acc_window ok (by simp [hv]) hs, rpt_two]
  unfold Acc
  rw [inf_window (n := A.length) (run_none A v) (met_none A M v) (run_rng ok hv) hs, met_rpt, run_rpt]
  have hw := inf_window (n := A.length) (f := fun x => run A x v) (m := fun x => met A M x v) (s := s) (run_none A v) (met_none A M v) (run_rng ok hv) hs
  constructor
  · rintro ⟨i, h1, h2⟩
    rw [← itr_shift] at h2
    rw [← hw]
    by_cases hp : 0 < A.length
    · have e : itr (fun x => run A x v) s A.length ≠ none := fun e => by
        rw [itr_none (run_none A v) e (by omega)] at h2
        rw [met_none] at h2; cases h2
      have all : ∀ i, i ≤ ((List.range A.length).map some).length → itr (fun x => run A x v) s i ∈ (List.range A.length).map some := fun i hi => by
        have hi : i ≤ A.length := by simpa using hi
        cases e2 : itr (fun x => run A x v) s i with
        | none => exact absurd (itr_none (run_none A v) e2 hi) e
        | some r =>
          have : r < A.length := by
            cases i with
            | zero => exact hs r e2
            | succ i => exact run_rng ok hv _ r e2
          simpa using this
      obtain ⟨a, b, h3, h4, h5⟩ := pigeon _ ((List.range A.length).map some) all
      have h4 : b ≤ A.length := by simpa using h4
      exact (inf_round (a := 2 * A.length) (b := 4 * A.length) h5 h3 (by omega) (by omega)).mpr ⟨_, by omega, by omega, h2⟩
    · omega
  · rintro h
    have h0 := hw.mpr h
    obtain ⟨t, h1, h2, h3⟩ := h
    by_cases hp : 0 < A.length
    · have e : itr (fun x => run A x v) s A.length ≠ none := fun e => by
        exact inf_none (run_none A v) (met_none A M v) e h0
      have all : ∀ i, i ≤ ((List.range A.length).map some).length → itr (fun x => run A x v) s i ∈ (List.range A.length).map some := fun i hi => by
        have hi : i ≤ A.length := by simpa using hi
        cases e2 : itr (fun x => run A x v) s i with
        | none => exact absurd (itr_none (run_none A v) e2 hi) e
        | some r =>
          have : r < A.length := by
            cases i with
            | zero => exact hs r e2
            | succ i => exact run_rng ok hv _ r e2
          simpa using this
      obtain ⟨a, b, h4, h5, h6⟩ := pigeon _ ((List.range A.length).map some) all
      have h5 : b ≤ A.length := by simpa using h5
      obtain ⟨u, g1, g2, g3⟩ := (inf_round (a := 2 * A.length) (b := 4 * A.length) h6 h4 (by omega) (by omega)).mp h0
      refine ⟨u - 2 * A.length, by omega, ?_⟩
      rw [← itr_shift, show 2 * A.length + (u - 2 * A.length) = u by omega]
      exact g3
    · omega
end

/-! ### deeds -/
abbrev Deed := List (Option Nat × Bool)
def deal1 (A : Arr) (M : List Nat) (p : Nat) (x : Option Nat × Bool) : Option Nat × Bool := (step A x.1 p, (step A x.1 p).isSome && (x.2 || isEnd M (step A x.1 p)))
def deal (A : Arr) (M : List Nat) (d : Deed) (p : Nat) : Deed := d.map (deal1 A M p)
def deed0 (n : Nat) : Deed := (List.range n).map fun s => (some s, false)
def deedOf (A : Arr) (M : List Nat) (v : List Nat) : Deed := v.foldl (deal A M) (deed0 A.length)
theorem deedOf_snoc (A : Arr) (M : List Nat) (v : List Nat) (p : Nat) : deedOf A M (v ++ [p]) = deal A M (deedOf A M v) p := by
  unfold deedOf
  rw [List.foldl_append]
  rfl
theorem deed_foldl (A : Arr) (M : List Nat) : ∀ (v : List Nat) (x : Option Nat × Bool), (x.1 = none → x.2 = false) → v.foldl (fun x p => deal1 A M p x) x = (run A x.1 v, (run A x.1 v).isSome && (x.2 || met A M x.1 v))
  | [], (g, b), h => by
    cases g with
    | none =>
      have e : b = false := h rfl
      subst e
      simp [met]
    | some q => simp [met]
  | p :: v, (g, b), h => by
    rw [List.foldl_cons, deed_foldl A M v _ (fun e => by
      dsimp only [deal1] at e ⊢
      rw [e] <;> rfl)]
    dsimp only [deal1, run_cons, met]
    cases e : step A g p with
    | none => simp
    | some q => cases e2 : (run A (some q) v) <;> simp [Bool.or_assoc]
theorem deed_map (A : Arr) (M : List Nat) : ∀ (v : List Nat) (d : Deed), v.foldl (deal A M) d = d.map fun x => v.foldl (fun x p => deal1 A M p x) x
  | [], d => by simp
  | p :: v, d => by
    rw [List.foldl_cons, deed_map A M v]
    show (d.map (deal1 A M p)).map _ = _
    rw [List.map_map]
    rfl
theorem deedOf_eq (A : Arr) (M : List Nat) (v : List Nat) : deedOf A M v = (List.range A.length).map fun s => (run A (some s) v, (run A (some s) v).isSome && met A M (some s) v) := by
  unfold deedOf deed0
  rw [deed_map, List.map_map]
  refine List.map_congr_left fun s hs => ?_
  show v.foldl _ (some s, false) = _
  rw [deed_foldl A M v (some s, false) (fun e => by cases e)]
  simp
/-- what a deed does to a stand, whether it meets marks -/
def dGo (d : Deed) : Option Nat → Option Nat
  | none => none
  | some s => (d.getD s (none, false)).1
def dMet (d : Deed) : Option Nat → Bool
  | none => false
  | some s => (d.getD s (none, false)).2
section
variable {k : Nat} {A : Arr} {M : List Nat} {v : List Nat}
theorem deed_at {s : Nat} (hs : s < A.length) : (deedOf A M v).getD s (none, false) = (run A (some s) v, (run A (some s) v).isSome && met A M (some s) v) := by
  rw [deedOf_eq]
  simp [hs]
theorem deed_itr (ok : ArrOk k A) (hv : v ≠ []) {s : Option Nat} (hs : ∀ q, s = some q → q < A.length) : ∀ i, itr (dGo (deedOf A M v)) s i = itr (fun x => run A x v) s i ∧ ∀ q, itr (fun x => run A x v) s i = some q → q < A.length
  | 0 => ⟨rfl, hs⟩
  | i + 1 => by
    obtain ⟨h1, h2⟩ := deed_itr ok hv hs i
    refine ⟨?_, fun q e => run_rng ok hv _ q e⟩
    show dGo _ (itr _ s i) = run A (itr _ s i) v
    rw [h1]
    cases e : itr (fun x => run A x v) s i with
    | none => rw [run_none]; rfl
    | some q =>
      show ((deedOf A M v).getD q (none, false)).1 = _
      rw [deed_at (h2 q e)]
/-- a deed is good at a stand just if the watcher says yes -/
theorem deed_good (ok : ArrOk k A) {s : Option Nat} (hs : ∀ q, s = some q → q < A.length) : Inf (dGo (deedOf A M v)) (dMet (deedOf A M v)) s ↔ v ≠ [] ∧ Acc A M s v := by
  by_cases hv : v = []
  · subst hv
    constructor
    · intro h
      obtain ⟨i, _, h⟩ := h 0
      exfalso
      have key : ∀ x, dMet (deedOf A M []) x = false := fun x => by
        cases x with
        | none => rfl
        | some q =>
          show ((deedOf A M []).getD q (none, false)).2 = false
          by_cases hq : q < A.length
          · rw [deed_at hq]; simp [met]
          · rw [deedOf_eq]; simp [hq]
      rw [key] at h; cases h
    · rintro ⟨h, _⟩; exact absurd rfl h
  · have di := deed_itr (M := M) ok hv hs
    constructor
    · intro h
      refine ⟨hv, fun N => ?_⟩
      obtain ⟨i, h1, h2⟩ := h N
      refine ⟨i, h1, ?_⟩
      rw [(di i).1] at h2
      cases e : itr (fun x => run A x v) s i with
      | none => rw [e] at h2; cases h2
      | some q =>
        rw [e] at h2
        have h2 : ((deedOf A M v).getD q (none, false)).2 = true := h2
        rw [deed_at ((di i).2 q e)] at h2
        simp only [Bool.and_eq_true] at h2
        exact h2.2
    · rintro ⟨_, h⟩ N
      obtain ⟨i, h1, h2⟩ := h N
      obtain ⟨j, h3, h4⟩ := h (i + 1)
      dsimp only at h2 h4
      refine ⟨i, h1, ?_⟩
      rw [(di i).1]
      cases e : itr (fun x => run A x v) s i with
      | none => rw [e, met_none] at h2; cases h2
      | some q =>
        rw [e] at h2
        show ((deedOf A M v).getD q (none, false)).2 = true
        rw [deed_at ((di i).2 q e)]
        have hn : run A (some q) v ≠ none := fun z => by
          have e1 : itr (fun x => run A x v) s (i + 1) = none := by show run A (itr _ s i) v = none; rw [e, z]
          rw [itr_none (run_none A v) e1 h3, met_none] at h4; cases h4
        simp [h2, Option.isSome_iff_ne_none, hn]
end
open Classical in
/-- the loops behind a stand -/
noncomputable def loopsL (A : Arr) (M : List Nat) (s : Option Nat) : Lg := fun v => decide (v ≠ [] ∧ Acc A M s v)
theorem loopsL_none (A : Arr) (M : List Nat) : loopsL A M none = emp := by
  funext v
  unfold loopsL emp
  classical
  apply decide_eq_false
  rintro ⟨_, h⟩
  exact acc_none A M v h
theorem loopsL_lgok {k : Nat} {A : Arr} (ok : ArrOk k A) (M : List Nat) (s : Option Nat) : LgOk k (loopsL A M s) := fun v h => by
  unfold loopsL
  classical
  apply decide_eq_false
  rintro ⟨_, h1⟩
  refine inf_none (f := fun x => run A x v) (m := fun x => met A M x v) (i := 1) (run_none A v) (met_none A M v) ?_ h1
  exact run_sign ok v s h
end RR
/-! M3: readers by languages; deeds' tables; pairs of stands. Plain Lean. -/
namespace RR
def resid (A : Arr) (E : List Nat) : List Lg := emp :: (List.range A.length).map fun s => lang A E (some s)
theorem resid_in {k : Nat} {A : Arr} (E : List Nat) {s : Option Nat} (hs : ∀ q, s = some q → q < A.length) : lang A E s ∈ resid A E := by
  cases s with
  | none => rw [lang_none]; exact List.mem_cons_self
  | some q => exact List.mem_cons_of_mem _ (List.mem_map.mpr ⟨q, List.mem_range.mpr (hs q rfl), rfl⟩)
theorem resid_closed {k : Nat} {A : Arr} (ok : ArrOk k A) (E : List Nat) : ∀ l ∈ resid A E, ∀ p, p < k → deriv l p ∈ resid A E := by
  intro l hl p _
  rcases List.mem_cons.mp hl with rfl | hl
  · exact List.mem_cons_self
  · obtain ⟨s, hs, rfl⟩ := List.mem_map.mp hl
    rw [deriv_lang]
    exact resid_in (k := k) E fun q e => step_lt ok e
theorem resid_length (A : Arr) (E : List Nat) : (resid A E).length = A.length + 1 := by simp [resid]
/-- the least reader of a reader's language -/
theorem least_arr {k n : Nat} {A : Arr} (ok : ArrOk k A) (E : List Nat) (hn : A.length ≤ 800) (hm : A.length + 1 ≤ n) : Least k n (lang A E (some 0)) (leastL k (lang A E (some 0))).1 (leastL k (lang A E (some 0))).2 :=
  leastL_least (lang_lgok ok E _) (resid_in (k := k) E fun q e => by cases e; exact ok.pos) (resid_closed ok E) (by rw [resid_length]; omega) (by rw [resid_length]; omega)
theorem least_emp (k : Nat) : leastL k emp = ([List.replicate k none], []) := by unfold leastL leastN; rw [if_pos rfl]

/-! ### the table of the deeds -/
structure DeedTab (k : Nat) (A : Arr) (M : List Nat) (line : List Deed) (T : Arr) : Prop where
  zero : line[0]? = some (deed0 A.length)
  len : T.length = line.length
  wid : ∀ r ∈ T, r.length = k
  arr : ∀ i p d, line[i]? = some d → p < k → ∃ j, goalAt T i p = some j ∧ line[j]? = some (deal A M d p)
section
variable {k : Nat} {A : Arr} {M : List Nat} {line : List Deed} {T : Arr}
theorem goalAt_mem {T : Arr} {i p : Nat} {g : Option Nat} (hi : i < T.length) (hp : p < T[i].length) (h : T[i][p] = g) : goalAt T i p = g := by
  unfold goalAt; simp [hi, hp, h]
theorem DeedTab.ok (d : DeedTab k A M line T) : ArrOk k T := by
  refine ⟨by rw [d.len]; exact (List.getElem?_eq_some_iff.mp d.zero).1, d.wid, fun r hr q hq => ?_⟩
  obtain ⟨i, hi, rfl⟩ := List.getElem_of_mem hr
  obtain ⟨p, hp, e⟩ := List.getElem_of_mem hq
  have hl : i < line.length := by rw [← d.len]; exact hi
  have hw := d.wid T[i] (List.getElem_mem hi)
  obtain ⟨j, h1, h2⟩ := d.arr i p line[i] (List.getElem?_eq_getElem hl) (by omega)
  rw [goalAt_mem hi hp e] at h1
  cases h1
  rw [d.len]; exact (List.getElem?_eq_some_iff.mp h2).1
theorem DeedTab.run (d : DeedTab k A M line T) : ∀ (v : List Nat) (i : Nat) (x : Deed), line[i]? = some x → (∀ p ∈ v, p < k) → ∃ j, RR.run T (some i) v = some j ∧ line[j]? = some (v.foldl (deal A M) x)
  | [], i, x, h, _ => ⟨i, rfl, h⟩
  | p :: v, i, x, h, hv => by
    obtain ⟨j, h1, h2⟩ := d.arr i p x h (hv p List.mem_cons_self)
    rw [run_cons, step_some, h1]
    exact DeedTab.run d v j _ h2 fun q hq => hv q (List.mem_cons_of_mem _ hq)
open Classical in
noncomputable def goodB (d : Deed) (s : Nat) : Bool := decide (Inf (dGo d) (dMet d) (some s))
noncomputable def goods (line : List Deed) (s : Nat) : List Nat := (List.range line.length).filter fun i => match line[i]? with | some d => goodB d s | none => false
theorem DeedTab.lang (d : DeedTab k A M line T) (ok : ArrOk k A) {b : Nat} (hb : b < A.length) : RR.lang T (goods line b) (some 0) = loopsL A M (some b) := by
  funext v
  by_cases hv : ∃ p ∈ v, k ≤ p
  · rw [lang_lgok d.ok _ _ v hv, loopsL_lgok ok M _ v hv]
  · have hv' : ∀ p ∈ v, p < k := fun p hp => by
      apply Classical.byContradiction
      intro h; exact hv ⟨p, hp, by omega⟩
    obtain ⟨j, h1, h2⟩ := d.run v 0 _ d.zero hv'
    show isEnd (goods line b) (RR.run T (some 0) v) = _
    rw [h1]
    have hj := (List.getElem?_eq_some_iff.mp h2).1
    have e : isEnd (goods line b) (some j) = goodB (deedOf A M v) b := by
      have h2' : line[j]? = some (deedOf A M v) := h2
      unfold isEnd goods
      cases hq : goodB (deedOf A M v) b with
      | true =>
        have hx : line[j] = deedOf A M v := by
          have := List.getElem?_eq_getElem hj
          rw [h2'] at this
          exact (Option.some.inj this).symm
        simp [hj, hx, hq]
      | false => simp [h2', hq]
    rw [e]
    unfold goodB loopsL
    classical
    exact decide_eq_decide.mpr (deed_good ok fun q e => by cases e; exact hb)
end

/-! ### pairs of stands -/
structure PairTab (k : Nat) (A B : Arr) (pairs : List (Nat × Option Nat)) (T : Arr) : Prop where
  zero : pairs[0]? = some (0, some 0)
  len : T.length = pairs.length
  wid : ∀ r ∈ T, r.length = k
  arr : ∀ i p a b, pairs[i]? = some (a, b) → p < k → (goalAt A a p = none ∧ goalAt T i p = none) ∨ (∃ a' j, goalAt A a p = some a' ∧ goalAt T i p = some j ∧ pairs[j]? = some (a', step B b p))
  reach : ∀ i, i < pairs.length → ∃ w, run T (some 0) w = some i
/-- the arrows that lead to no pair with a mark of the other -/
def bareOf (pairs : List (Nat × Option Nat)) (M : List Nat) (T : Arr) : Arr := T.map fun r => r.map fun g => match g with
  | none => none
  | some j => match pairs[j]? with
    | some (_, b) => if isEnd M b = true then none else some j
    | none => some j
theorem bareOf_goal (pairs : List (Nat × Option Nat)) (M : List Nat) (T : Arr) (i p : Nat) : goalAt (bareOf pairs M T) i p = match goalAt T i p with
  | none => none
  | some j => match pairs[j]? with
    | some (_, b) => if isEnd M b = true then none else some j
    | none => some j := by
  unfold bareOf goalAt
  by_cases hi : i < T.length
  · by_cases hp : p < T[i].length
    · simp [hi, hp]
    · simp at hp; simp [hi, hp]
  · simp at hi; simp [hi]
section
variable {k : Nat} {A B : Arr} {pairs : List (Nat × Option Nat)} {T : Arr}
theorem PairTab.ok (d : PairTab k A B pairs T) : ArrOk k T := by
  refine ⟨by rw [d.len]; exact (List.getElem?_eq_some_iff.mp d.zero).1, d.wid, fun r hr q hq => ?_⟩
  obtain ⟨i, hi, rfl⟩ := List.getElem_of_mem hr
  obtain ⟨p, hp, e⟩ := List.getElem_of_mem hq
  have hl : i < pairs.length := by rw [← d.len]; exact hi
  have hw := d.wid T[i] (List.getElem_mem hi)
  rcases d.arr i p pairs[i].1 pairs[i].2 (List.getElem?_eq_getElem hl) (by omega) with ⟨_, h1⟩ | ⟨a', j, _, h1, h2⟩
  · rw [goalAt_mem hi hp e] at h1; cases h1
  · rw [goalAt_mem hi hp e] at h1
    cases h1
    rw [d.len]; exact (List.getElem?_eq_some_iff.mp h2).1
theorem bareOf_ok (ok : ArrOk k T) (pairs : List (Nat × Option Nat)) (M : List Nat) : ArrOk k (bareOf pairs M T) := by
  refine ⟨by simpa [bareOf] using ok.pos, fun r hr => ?_, fun r hr q hq => ?_⟩
  · obtain ⟨r0, h0, rfl⟩ := List.mem_map.mp hr
    rw [List.length_map]; exact ok.wid r0 h0
  · obtain ⟨r0, h0, rfl⟩ := List.mem_map.mp hr
    obtain ⟨g, hg, e⟩ := List.mem_map.mp hq
    have : g = some q := by
      cases g with
      | none => cases e
      | some j =>
        dsimp only at e
        cases ep : pairs[j]? with
        | none => rw [ep] at e; exact e
        | some x =>
          rw [ep] at e
          obtain ⟨x1, x2⟩ := x
          dsimp only at e
          split at e
          · cases e
          · exact e
    subst this
    have := ok.rng r0 h0 q hg
    simpa [bareOf] using this
/-- along a row through the pairs -/
theorem PairTab.run (d : PairTab k A B pairs T) : ∀ (w : List Nat) (i : Nat) (a : Nat) (b : Option Nat) (j : Nat), pairs[i]? = some (a, b) → RR.run T (some i) w = some j → ∃ a', RR.run A (some a) w = some a' ∧ pairs[j]? = some (a', RR.run B b w)
  | [], i, a, b, j, h, e => by cases e; exact ⟨a, rfl, h⟩
  | p :: w, i, a, b, j, h, e => by
    rw [run_cons, step_some] at e
    by_cases hp : p < k
    · rcases d.arr i p a b h hp with ⟨h1, h2⟩ | ⟨a', j', h1, h2, h3⟩
      · rw [h2, run_none] at e; cases e
      · rw [h2] at e
        obtain ⟨c, h4, h5⟩ := PairTab.run d w j' a' _ j h3 e
        exact ⟨c, by rw [run_cons, step_some, h1]; exact h4, h5⟩
    · rw [goalAt_sign d.ok (by omega), run_none] at e; cases e
/-- where the first one goes on, the pairs go along -/
theorem PairTab.runs (d : PairTab k A B pairs T) (oA : ArrOk k A) : ∀ (w : List Nat) (i : Nat) (a : Nat) (b : Option Nat) (a' : Nat), pairs[i]? = some (a, b) → RR.run A (some a) w = some a' → ∃ j, RR.run T (some i) w = some j ∧ pairs[j]? = some (a', RR.run B b w)
  | [], i, a, b, a', h, e => by cases e; exact ⟨i, rfl, h⟩
  | p :: w, i, a, b, a', h, e => by
    rw [run_cons, step_some] at e
    by_cases hp : p < k
    · rcases d.arr i p a b h hp with ⟨h1, h2⟩ | ⟨a2, j', h1, h2, h3⟩
      · rw [h1, run_none] at e; cases e
      · rw [h1] at e
        obtain ⟨j, h4, h5⟩ := PairTab.runs d oA w j' a2 _ a' h3 e
        exact ⟨j, by rw [run_cons, step_some, h2]; exact h4, h5⟩
    · rw [goalAt_sign oA (by omega), run_none] at e; cases e
/-- a bare row meets no mark of the other -/
theorem PairTab.bare (d : PairTab k A B pairs T) {M : List Nat} : ∀ (w : List Nat) (i : Nat) (a : Nat) (b : Option Nat) (j : Nat), pairs[i]? = some (a, b) → RR.run (bareOf pairs M T) (some i) w = some j → RR.run T (some i) w = some j ∧ met B M b w = false
  | [], i, a, b, j, h, e => ⟨e, rfl⟩
  | p :: w, i, a, b, j, h, e => by
    rw [run_cons, step_some, bareOf_goal] at e
    by_cases hp : p < k
    · rcases d.arr i p a b h hp with ⟨h1, h2⟩ | ⟨a2, j', h1, h2, h3⟩
      · rw [h2, run_none] at e; cases e
      · rw [h2] at e
        dsimp only at e
        rw [h3] at e
        dsimp only at e
        split at e
        · rw [run_none] at e; cases e
        · rename_i hm
          obtain ⟨h4, h5⟩ := PairTab.bare d w j' a2 _ j h3 e
          refine ⟨by rw [run_cons, step_some, h2]; exact h4, ?_⟩
          show (isEnd M (step B b p) || met B M (step B b p) w) = false
          rw [h5]
          simpa using hm
    · rw [goalAt_sign d.ok (by omega)] at e
      rw [run_none] at e; cases e
theorem PairTab.bares (d : PairTab k A B pairs T) {M : List Nat} : ∀ (w : List Nat) (i : Nat) (a : Nat) (b : Option Nat) (j : Nat), pairs[i]? = some (a, b) → RR.run T (some i) w = some j → met B M b w = false → RR.run (bareOf pairs M T) (some i) w = some j
  | [], i, a, b, j, h, e, _ => e
  | p :: w, i, a, b, j, h, e, hm => by
    rw [run_cons, step_some] at e
    rw [run_cons, step_some, bareOf_goal]
    have hm : (isEnd M (step B b p) || met B M (step B b p) w) = false := hm
    rw [Bool.or_eq_false_iff] at hm
    by_cases hp : p < k
    · rcases d.arr i p a b h hp with ⟨h1, h2⟩ | ⟨a2, j', h1, h2, h3⟩
      · rw [h2, run_none] at e; cases e
      · rw [h2] at e ⊢
        dsimp only
        rw [h3]
        dsimp only
        rw [if_neg (by rw [hm.1]; decide)]
        exact PairTab.bares d w j' a2 _ j h3 e hm.2
    · rw [goalAt_sign d.ok (by omega), run_none] at e; cases e

/-- what loop_apart hands back: right if some -/
def ApartSome (A : Arr) (M : List Nat) (B : Arr) (N : List Nat) (u v : List Nat) : Prop := v ≠ [] ∧ Acc A M (run A (some 0) u) v ∧ ¬ Acc B N (run B (some 0) u) v
def ApartNone (A : Arr) (M : List Nat) (B : Arr) (N : List Nat) : Prop := ∀ u v, v ≠ [] → Acc A M (run A (some 0) u) v → Acc B N (run B (some 0) u) v
theorem itr_self {f : Option Nat → Option Nat} {s : Option Nat} (h : f s = s) : ∀ i, itr f s i = s
  | 0 => rfl
  | i + 1 => by show f (itr f s i) = s; rw [itr_self h i, h]
theorem met_last (A : Arr) (M : List Nat) (s : Option Nat) {v : List Nat} (hv : v ≠ []) (h : isEnd M (run A s v) = true) : met A M s v = true :=
  (met_iff A M v s).mpr ⟨v.length, List.length_pos_iff.mpr hv, Nat.le_refl _, by rw [List.take_length]; exact h⟩
/-- itr of the pairs of states: the second components -/
theorem apart_sound (d : PairTab k A B pairs T) {M N : List Nat} {spot a : Nat} {b : Option Nat} (hp : pairs[spot]? = some (a, b)) (ha : a ∈ M) {u v : List Nat} (hu : run T (some 0) u = some spot) (hv : v ≠ [])
    (hl : run (bareOf pairs N T) (some spot) v = some spot) : ApartSome A M B N u v := by
  obtain ⟨a1, h1, h2⟩ := d.run u 0 0 (some 0) spot d.zero hu
  rw [hp] at h2
  obtain ⟨e1, e2⟩ : a = a1 ∧ b = RR.run B (some 0) u := by simpa using h2
  subst e1
  obtain ⟨h3, h4⟩ := d.bare v spot a b spot hp hl
  obtain ⟨a2, h5, h6⟩ := d.run v spot a b spot hp h3
  rw [hp] at h6
  obtain ⟨e3, e4⟩ : a = a2 ∧ b = RR.run B b v := by simpa using h6
  subst e3
  refine ⟨hv, ?_, ?_⟩
  · rw [h1]
    intro n
    refine ⟨n, Nat.le_refl _, ?_⟩
    rw [itr_self (f := fun x => run A x v) h5]
    exact met_last A M _ hv (by rw [h5]; simpa [isEnd] using ha)
  · rw [← e2]
    intro h
    obtain ⟨i, _, h⟩ := h 0
    rw [itr_self (f := fun x => run B x v) e4.symm] at h
    dsimp only at h
    rw [h4] at h; cases h
theorem itr_pair {f g : Option Nat → Option Nat} {s t : Option Nat} {i j : Nat} (h1 : itr f s i = itr f s j) (h2 : itr g t i = itr g t j) : True := trivial
/-- if the one says yes and the other doesn't, some spot is found -/
theorem apart_complete (d : PairTab k A B pairs T) (oA : ArrOk k A) (oB : ArrOk k B) {M N : List Nat} {u v : List Nat} (hv : v ≠ []) (h1 : Acc A M (run A (some 0) u) v) (h2 : ¬ Acc B N (run B (some 0) u) v) :
    ∃ spot a b w, pairs[spot]? = some (a, b) ∧ a ∈ M ∧ isEnd N b = false ∧ w ≠ [] ∧ run (bareOf pairs N T) (some spot) w = some spot := by
  -- the states at the loops' ends
  let f : Option Nat → Option Nat := fun x => run A x v
  let g : Option Nat → Option Nat := fun x => run B x v
  let s := run A (some 0) u
  let t := run B (some 0) u
  have hs : ∀ q, s = some q → q < A.length := run_lt oA u (some 0) fun q e => by cases e; exact oA.pos
  have ht : ∀ q, t = some q → q < B.length := run_lt oB u (some 0) fun q e => by cases e; exact oB.pos
  have nf : ∀ i, itr f s i ≠ none := fun i e => inf_none (run_none A v) (met_none A M v) e h1
  -- two alike
  let P : List (Option Nat × Option Nat) := (List.range A.length).flatMap fun a => (some a, none) :: (List.range B.length).map fun b => (some a, some b)
  have inP : ∀ i, i ≤ P.length → (itr f s i, itr g t i) ∈ P := fun i _ => by
    cases e : itr f s i with
    | none => exact absurd e (nf i)
    | some a =>
      have ha : a < A.length := by
        cases i with
        | zero => exact hs a e
        | succ i => exact run_rng oA hv _ a e
      refine List.mem_flatMap.mpr ⟨a, List.mem_range.mpr ha, ?_⟩
      cases e2 : itr g t i with
      | none => exact List.mem_cons_self
      | some b =>
        have hb : b < B.length := by
          cases i with
          | zero => exact ht b e2
          | succ i => exact run_rng oB hv _ b e2
        exact List.mem_cons_of_mem _ (List.mem_map.mpr ⟨b, List.mem_range.mpr hb, rfl⟩)
  obtain ⟨i, j, hij, _, he⟩ := pigeon (fun i => (itr f s i, itr g t i)) P inP
  have ef : itr f s i = itr f s j := congrArg Prod.fst he
  have eg : itr g t i = itr g t j := congrArg Prod.snd he
  -- the one meets a mark in the round, the other none
  obtain ⟨c, c1, c2, c3⟩ := (inf_round (m := fun x => met A M x v) ef hij (Nat.le_refl i) (show i + (j - i) ≤ j by omega)).mp h1
  have no2 : ∀ c, i ≤ c → c < j → met B N (itr g t c) v = false := fun c h3 h4 => by
    cases e : met B N (itr g t c) v with
    | false => rfl
    | true => exact absurd ((inf_round (m := fun x => met B N x v) eg hij (Nat.le_refl i) (show i + (j - i) ≤ j by omega)).mpr ⟨c, h3, h4, e⟩) h2
  -- from c a round long
  have ec : itr f s (c + (j - i)) = itr f s c := itr_period ef hij c1
  have ecg : itr g t (c + (j - i)) = itr g t c := itr_period eg hij c1
  have no3 : ∀ x, c ≤ x → x < c + (j - i) → met B N (itr g t x) v = false := fun x h3 h4 => by
    by_cases hx : x < j
    · exact no2 x (by omega) hx
    · have := itr_period eg hij (t := x - (j - i)) (by omega)
      rw [show x - (j - i) + (j - i) = x by omega] at this
      rw [this]
      exact no2 _ (by omega) (by omega)
  have mz : met B N (itr g t c) (rpt (j - i) v) = false := by
    cases e : met B N (itr g t c) (rpt (j - i) v) with
    | false => rfl
    | true =>
      obtain ⟨x, h3, h4⟩ := (met_rpt B N v (j - i) (itr g t c)).mp e
      rw [← itr_shift] at h4
      rw [no3 (c + x) (by omega) (by omega)] at h4; cases h4
  obtain ⟨q, q1, q2, q3⟩ := (met_iff A M v (itr f s c)).mp c3
  -- z = z1 ++ z2
  let z1 := v.take q
  let z2 := v.drop q ++ rpt (j - i - 1) v
  have ez : rpt (j - i) v = z1 ++ z2 := by
    have : rpt (j - i) v = rpt 1 v ++ rpt (j - i - 1) v := by rw [← rpt_add]; congr 1; omega
    rw [this]
    show ([] ++ v) ++ _ = v.take q ++ (v.drop q ++ _)
    rw [← List.append_assoc (v.take q), List.take_append_drop]
    rfl
  cases e0 : itr f s c with
  | none => exact absurd e0 (nf c)
  | some ac =>
    -- the pair's spot at c
    have hfc : run A (some 0) (u ++ rpt c v) = some ac := by rw [run_append, run_rpt]; exact e0
    obtain ⟨sc, s1, s2⟩ := d.runs oA (u ++ rpt c v) 0 0 (some 0) ac d.zero hfc
    have egc : run B (some 0) (u ++ rpt c v) = itr g t c := by rw [run_append, run_rpt]
    rw [egc] at s2
    have rz : run A (some ac) (z1 ++ z2) = some ac := by
      rw [← ez, ← e0, run_rpt, ← itr_shift, ec]
    have rzg : run B (itr g t c) (z1 ++ z2) = itr g t c := by rw [← ez, run_rpt, ← itr_shift, ecg]
    have am : isEnd M (run A (some ac) z1) = true := by rw [← e0]; exact q3
    cases e1 : run A (some ac) z1 with
    | none => rw [e1] at am; cases am
    | some a1 =>
      rw [e1] at am
      have hz2 : run A (some a1) z2 = some ac := by rw [← e1, ← run_append]; exact rz
      obtain ⟨sp, p1, p2⟩ := d.runs oA z1 sc ac _ a1 s2 e1
      have hb1 : run B (run B (itr g t c) z1) z2 = itr g t c := by rw [← run_append]; exact rzg
      have hr : run A (some a1) (z2 ++ z1) = some a1 := by rw [run_append, hz2, e1]
      have hrg : run B (run B (itr g t c) z1) (z2 ++ z1) = run B (itr g t c) z1 := by rw [run_append, hb1]
      obtain ⟨sp2, p3, p4⟩ := d.runs oA (z2 ++ z1) sp a1 _ a1 p2 hr
      -- the round leads from sp back to the pair of sp; is it the same spot?
      rw [← ez] at rz
      rw [ez, met_append, Bool.or_eq_false_iff] at mz
      have mz2 : met B N (run B (itr g t c) z1) (z2 ++ z1) = false := by
        rw [met_append, mz.2, hb1, mz.1]; rfl
      have hq1 : z1 ≠ [] := by
        intro e
        have : (v.take q).length = 0 := by show z1.length = 0; rw [e]; rfl
        rw [List.length_take] at this; omega
      have hend : isEnd N (run B (itr g t c) z1) = false := by
        cases e : isEnd N (run B (itr g t c) z1) with
        | false => rfl
        | true => rw [met_last B N _ hq1 e] at mz; exact absurd mz.1 (by simp)
      -- from sp round and round
      have round : ∀ n, ∃ sn, run T (some sp) (rpt n (z2 ++ z1)) = some sn ∧ pairs[sn]? = some (a1, run B (itr g t c) z1) := by
        intro n
        have h5 : run A (some a1) (rpt n (z2 ++ z1)) = some a1 := by rw [run_rpt]; exact itr_self (f := fun x => run A x (z2 ++ z1)) hr n
        have h6 : run B (run B (itr g t c) z1) (rpt n (z2 ++ z1)) = run B (itr g t c) z1 := by rw [run_rpt]; exact itr_self (f := fun x => run B x (z2 ++ z1)) hrg n
        obtain ⟨sn, h7, h8⟩ := d.runs oA (rpt n (z2 ++ z1)) sp a1 _ a1 p2 h5
        rw [h6] at h8
        exact ⟨sn, h7, h8⟩
      have inT : ∀ n, n ≤ ((List.range T.length).map some).length → run T (some sp) (rpt n (z2 ++ z1)) ∈ (List.range T.length).map some := fun n _ => by
        obtain ⟨sn, h5, h6⟩ := round n
        rw [h5]
        have := (List.getElem?_eq_some_iff.mp h6).1
        exact List.mem_map.mpr ⟨sn, List.mem_range.mpr (by rw [d.len]; exact this), rfl⟩
      obtain ⟨x, y, hxy, _, exy⟩ := pigeon (fun n => run T (some sp) (rpt n (z2 ++ z1))) ((List.range T.length).map some) inT
      obtain ⟨sx, h5, h6⟩ := round x
      have exy : run T (some sp) (rpt x (z2 ++ z1)) = run T (some sp) (rpt y (z2 ++ z1)) := exy
      refine ⟨sx, a1, _, rpt (y - x) (z2 ++ z1), h6, by simpa [isEnd] using am, hend, ?_, ?_⟩
      · intro e
        have : (rpt (y - x) (z2 ++ z1)).length = 0 := by rw [e]; rfl
        rw [rpt_length] at this
        have hz : 0 < (z2 ++ z1).length := by
          rw [List.length_append]
          have := List.length_pos_iff.mpr hq1
          omega
        have : 0 < (y - x) * (z2 ++ z1).length := Nat.mul_pos (by omega) hz
        omega
      · have h7 : run T (some sx) (rpt (y - x) (z2 ++ z1)) = some sx := by
          rw [← h5, ← run_append, ← rpt_add, show x + (y - x) = y by omega, ← exy, h5]
        refine d.bares _ sx a1 _ sx h6 h7 ?_
        cases e : met B N (run B (itr g t c) z1) (rpt (y - x) (z2 ++ z1)) with
        | false => rfl
        | true =>
          obtain ⟨x', _, h9⟩ := (met_rpt B N _ _ _).mp e
          rw [itr_self (f := fun x => run B x (z2 ++ z1)) hrg, mz2] at h9; cases h9
end
end RR
/-! M4: rounds as they are told. Plain Lean. -/
namespace RR
section
variable {f : Option Nat → Option Nat} {m : Option Nat → Bool} {s : Option Nat}
/-- the answers from the round's start on -/
theorem round_told {t j : Nat} (hj : j < t) (h : itr f s t = itr f s j) : Inf f m s ↔ (((List.range t).map fun i => m (itr f s i)).drop j).any id = true := by
  rw [inf_round (i := j) (j := t) h.symm hj (a := j) (b := t) (Nat.le_refl _) (by omega), List.any_eq_true]
  constructor
  · rintro ⟨i, h1, h2, h3⟩
    refine ⟨true, ?_, rfl⟩
    rw [List.mem_iff_getElem?]
    refine ⟨i - j, ?_⟩
    rw [List.getElem?_drop, List.getElem?_map, show j + (i - j) = i by omega, List.getElem?_range h2]
    show some (m (itr f s i)) = some true
    rw [h3]
  · rintro ⟨x, hx, h3⟩
    obtain ⟨i, hi⟩ := List.mem_iff_getElem?.mp hx
    rw [List.getElem?_drop, List.getElem?_map] at hi
    obtain ⟨y, hy, e⟩ := Option.map_eq_some_iff.mp hi
    have h4 := (List.getElem?_eq_some_iff.mp hy).1
    rw [List.length_range] at h4
    rw [List.getElem?_range h4] at hy
    cases hy
    exact ⟨j + i, by omega, h4, by rw [e]; exact h3⟩
/-- so many different ones below n -/
theorem fresh_few {n t : Nat} (h1 : ∀ i, i < t → ∃ q, itr f s i = some q ∧ q < n) (h2 : ∀ i j, i < j → j < t → itr f s i ≠ itr f s j) : t ≤ n := by
  have hn : ((List.range t).map fun i => itr f s i).Nodup := by
    rw [List.nodup_iff_pairwise_ne, List.pairwise_map]
    exact List.Pairwise.imp_of_mem (fun {a b} ha hb hlt => h2 a b hlt (List.mem_range.mp hb)) List.pairwise_lt_range
  have := nodup_len hn (m := (List.range n).map some) fun x hx => by
    obtain ⟨i, hi, rfl⟩ := List.mem_map.mp hx
    obtain ⟨q, e, hq⟩ := h1 i (List.mem_range.mp hi)
    rw [e]
    exact List.mem_map.mpr ⟨q, List.mem_range.mpr hq, rfl⟩
  simpa using this
end
end RR
/-! M5: what is reached from a stand, by the way there. Plain Lean. -/
namespace RR
/-- a search from s: the line of stands met, the way to each -/
structure Seek (G : Arr) (k s : Nat) (line : List Nat) (tx : Nat → Option (List Nat)) : Prop where
  nd : line.Nodup
  lt : ∀ q ∈ line, q < G.length
  has : s ∈ line
  way : ∀ q u, tx q = some u → q ∈ line ∧ run G (some s) u = some q ∧ (∀ p ∈ u, p < k) ∧ u.length < line.length
  all : ∀ q ∈ line, tx q ≠ none
/-- all goals of the first i are in the line -/
def Shut (G : Arr) (line : List Nat) (i : Nat) : Prop := ∀ j q, j < i → line[j]? = some q → ∀ p g, goalAt G q p = some g → g ∈ line
theorem seek_start {G : Arr} {k s : Nat} (hs : s < G.length) : Seek G k s [s] (fun q => if q = s then some [] else none) := by
  refine ⟨by simp, by simp; exact hs, by simp, fun q u h => ?_, by simp⟩
  by_cases e : q = s
  · rw [if_pos e] at h
    cases h
    subst e
    exact ⟨by simp, rfl, by simp, by simp⟩
  · rw [if_neg e] at h
    cases h
theorem Seek.len {G : Arr} {k s : Nat} {line : List Nat} {tx : Nat → Option (List Nat)} (h : Seek G k s line tx) : line.length ≤ G.length := by
  have := nodup_len h.nd (m := List.range G.length) fun x hx => List.mem_range.mpr (h.lt x hx)
  simpa using this
theorem Seek.add {G : Arr} {k s : Nat} {line : List Nat} {tx : Nat → Option (List Nat)} (h : Seek G k s line tx) (ok : ArrOk k G) {q p g : Nat} {u : List Nat} (hp : p < k) (hu : tx q = some u) (hg : goalAt G q p = some g) (hn : g ∉ line) :
    Seek G k s (line ++ [g]) (fun x => if x = g then some (u ++ [p]) else tx x) := by
  obtain ⟨w1, w2, w3, w4⟩ := h.way q u hu
  refine ⟨?_, fun x hx => ?_, List.mem_append_left _ h.has, fun x v hv => ?_, fun x hx => ?_⟩
  · rw [List.nodup_append]
    refine ⟨h.nd, by simp, fun a ha b hb e => ?_⟩
    simp at hb
    subst hb e
    exact hn ha
  · rcases List.mem_append.mp hx with hx | hx
    · exact h.lt x hx
    · simp at hx
      subst hx
      exact goalAt_lt ok hg
  · by_cases e : x = g
    · rw [if_pos e] at hv
      cases hv
      subst e
      refine ⟨by simp, ?_, fun y hy => ?_, by simp; omega⟩
      · rw [run_append, w2]
        exact hg
      · rcases List.mem_append.mp hy with hy | hy
        · exact w3 y hy
        · simp at hy
          omega
    · rw [if_neg e] at hv
      obtain ⟨v1, v2, v3, v4⟩ := h.way x v hv
      exact ⟨List.mem_append_left _ v1, v2, v3, by simp; omega⟩
  · by_cases e : x = g
    · rw [if_pos e]
      simp
    · rw [if_neg e]
      rcases List.mem_append.mp hx with hx | hx
      · exact h.all x hx
      · simp at hx
        exact absurd hx e
theorem Shut.add {G : Arr} {line : List Nat} {i g : Nat} (h : Shut G line i) (hi : i ≤ line.length) : Shut G (line ++ [g]) i := fun j q hj hq p x hx => by
  rw [List.getElem?_append_left (by omega)] at hq
  exact List.mem_append_left _ (h j q hj hq p x hx)
/-- a closed line holds all that is reached -/
theorem shut_all {G : Arr} {line : List Nat} (h : Shut G line line.length) : ∀ (u : List Nat) (s g : Nat), s ∈ line → run G (some s) u = some g → g ∈ line
  | [], s, g, hs, e => by cases e; exact hs
  | p :: u, s, g, hs, e => by
    have e2 : run G (goalAt G s p) u = some g := e
    cases e3 : goalAt G s p with
    | none => rw [e3, run_none] at e2; cases e2
    | some x =>
      rw [e3] at e2
      obtain ⟨j, hj⟩ := List.mem_iff_getElem?.mp hs
      exact shut_all h u x g (h j s (List.getElem?_eq_some_iff.mp hj).1 hj p x e3) e2
end RR
/-! M6: the table of pairs as it grows. Plain Lean. -/
namespace RR
theorem goalAt_old {T : Arr} {r : List (Option Nat)} {i p : Nat} (h : i < T.length) : goalAt (T ++ [r]) i p = goalAt T i p := by
  unfold goalAt
  simp only [List.getD_eq_getElem?_getD]
  rw [List.getElem?_append_left h]
theorem goalAt_last {T : Arr} {r : List (Option Nat)} {p : Nat} : goalAt (T ++ [r]) T.length p = r.getD p none := by
  unfold goalAt
  simp only [List.getD_eq_getElem?_getD]
  rw [List.getElem?_append_right (Nat.le_refl _)]
  simp
theorem goalAt_out {T : Arr} {i p : Nat} (h : T.length ≤ i) : goalAt T i p = none := by
  unfold goalAt
  have e : T.getD i [] = [] := by
    rw [List.getD_eq_getElem?_getD, List.getElem?_eq_none h]
    rfl
  rw [e]
  simp
def ArrP (A B : Arr) (pairs : List (Nat × Option Nat)) (a : Nat) (b : Option Nat) (p : Nat) (g : Option Nat) : Prop :=
  (goalAt A a p = none ∧ g = none) ∨ (∃ a' j, goalAt A a p = some a' ∧ g = some j ∧ pairs[j]? = some (a', step B b p))
theorem ArrP.more {A B : Arr} {pairs : List (Nat × Option Nat)} {a : Nat} {b : Option Nat} {p : Nat} {g : Option Nat} (h : ArrP A B pairs a b p g) (y : Nat × Option Nat) : ArrP A B (pairs ++ [y]) a b p g := by
  rcases h with h | ⟨a', j, h1, h2, h3⟩
  · exact .inl h
  · exact .inr ⟨a', j, h1, h2, by rw [List.getElem?_append_left (List.getElem?_eq_some_iff.mp h3).1]; exact h3⟩
/-- rows whole, the last one as far as gs -/
structure PRow (k : Nat) (A B : Arr) (pairs : List (Nat × Option Nat)) (T : Arr) (gs : List (Option Nat)) : Prop where
  zero : pairs[0]? = some (0, some 0)
  rng : ∀ x ∈ pairs, x.1 < A.length ∧ ∀ q, x.2 = some q → q < B.length
  wid : ∀ r ∈ T, r.length = k
  arr : ∀ i p a b, i < T.length → pairs[i]? = some (a, b) → p < k → ArrP A B pairs a b p (goalAt T i p)
  row : ∀ p a b, p < gs.length → pairs[T.length]? = some (a, b) → ArrP A B pairs a b p (gs.getD p none)
  par : ∀ j, j < pairs.length → j = 0 ∨ ∃ i p, i < j ∧ goalAt (T ++ [gs]) i p = some j
theorem goalAt_more {T : Arr} {gs : List (Option Nat)} {g : Option Nat} {i p j : Nat} (h : goalAt (T ++ [gs]) i p = some j) : goalAt (T ++ [gs ++ [g]]) i p = some j := by
  by_cases hi : i < T.length
  · rw [goalAt_old hi] at h ⊢
    exact h
  · by_cases hi2 : i = T.length
    · subst hi2
      rw [goalAt_last] at h ⊢
      rw [List.getD_eq_getElem?_getD] at h ⊢
      by_cases hp : p < gs.length
      · rw [List.getElem?_append_left hp]
        exact h
      · rw [List.getElem?_eq_none (by omega)] at h
        cases h
    · rw [goalAt_out (by simp; omega)] at h
      cases h
section
variable {k : Nat} {A B : Arr} {pairs : List (Nat × Option Nat)} {T : Arr} {gs : List (Option Nat)}
theorem getD_more {gs : List (Option Nat)} {g : Option Nat} {p : Nat} (h : p < gs.length) : (gs ++ [g]).getD p none = gs.getD p none := by
  rw [List.getD_eq_getElem?_getD, List.getD_eq_getElem?_getD, List.getElem?_append_left h]
theorem getD_last {gs : List (Option Nat)} {g : Option Nat} : (gs ++ [g]).getD gs.length none = g := by
  rw [List.getD_eq_getElem?_getD, List.getElem?_append_right (Nat.le_refl _)]
  simp
/-- a goal that is told already -/
theorem PRow.old (h : PRow k A B pairs T gs) {a : Nat} {b : Option Nat} {g : Option Nat} (hh : pairs[T.length]? = some (a, b)) (hg : ArrP A B pairs a b gs.length g) : PRow k A B pairs T (gs ++ [g]) where
  zero := h.zero
  rng := h.rng
  wid := h.wid
  arr := h.arr
  row := fun p a' b' hp ha => by
    by_cases hlt : p < gs.length
    · rw [getD_more hlt]
      exact h.row p a' b' hlt ha
    · have : p = gs.length := by simp at hp; omega
      subst this
      rw [getD_last]
      rw [hh] at ha
      cases ha
      exact hg
  par := fun j hj => by
    rcases h.par j hj with e | ⟨i, p, h1, h2⟩
    · exact .inl e
    · exact .inr ⟨i, p, h1, goalAt_more h2⟩
/-- a new pair -/
theorem PRow.new (h : PRow k A B pairs T gs) (oB : ArrOk k B) (oA : ArrOk k A) {a a' : Nat} {b : Option Nat} (hh : pairs[T.length]? = some (a, b)) (hg : goalAt A a gs.length = some a') : PRow k A B (pairs ++ [(a', step B b gs.length)]) T (gs ++ [some pairs.length]) where
  zero := by
    have := (List.getElem?_eq_some_iff.mp h.zero).1
    rw [List.getElem?_append_left this]
    exact h.zero
  rng := fun x hx => by
    rcases List.mem_append.mp hx with hx | hx
    · exact h.rng x hx
    · simp at hx
      subst hx
      exact ⟨goalAt_lt oA hg, fun q e => step_lt oB e⟩
  wid := h.wid
  arr := fun i p a2 b2 hi hp hk => by
    have hlt : i < pairs.length := by
      have := (List.getElem?_eq_some_iff.mp hh).1
      omega
    rw [List.getElem?_append_left hlt] at hp
    exact (h.arr i p a2 b2 hi hp hk).more _
  row := fun p a2 b2 hp ha => by
    have hl := (List.getElem?_eq_some_iff.mp hh).1
    rw [List.getElem?_append_left hl] at ha
    by_cases hlt : p < gs.length
    · rw [getD_more hlt]
      exact (h.row p a2 b2 hlt ha).more _
    · have : p = gs.length := by simp at hp; omega
      subst this
      rw [getD_last]
      rw [hh] at ha
      cases ha
      refine .inr ⟨a', pairs.length, hg, rfl, ?_⟩
      rw [List.getElem?_append_right (Nat.le_refl _)]
      simp
  par := fun j hj => by
    by_cases hlt : j < pairs.length
    · rcases h.par j hlt with e | ⟨i, p, h1, h2⟩
      · exact .inl e
      · exact .inr ⟨i, p, h1, goalAt_more h2⟩
    · have : j = pairs.length := by simp at hj; omega
      subst this
      refine .inr ⟨T.length, gs.length, (List.getElem?_eq_some_iff.mp hh).1, ?_⟩
      rw [goalAt_last, getD_last]
/-- the row is whole -/
theorem PRow.done (h : PRow k A B pairs T gs) (hl : gs.length = k) : PRow k A B pairs (T ++ [gs]) [] where
  zero := h.zero
  rng := h.rng
  wid := fun r hr => by
    rcases List.mem_append.mp hr with hr | hr
    · exact h.wid r hr
    · simp at hr
      subst hr
      exact hl
  arr := fun i p a b hi ha hp => by
    by_cases hlt : i < T.length
    · rw [goalAt_old hlt]
      exact h.arr i p a b hlt ha hp
    · have : i = T.length := by simp at hi; omega
      subst this
      rw [goalAt_last]
      exact h.row p a b (by omega) ha
  row := fun p a b hp _ => by simp at hp
  par := fun j hj => by
    rcases h.par j hj with e | ⟨i, p, h1, h2⟩
    · exact .inl e
    · refine .inr ⟨i, p, h1, ?_⟩
      by_cases hi : i < (T ++ [gs]).length
      · rw [goalAt_old hi]
        exact h2
      · rw [goalAt_out (by omega)] at h2
        cases h2
theorem prow_start (hA : 0 < A.length) (hB : 0 < B.length) : PRow k A B [(0, some 0)] [] [] where
  zero := rfl
  rng := fun x hx => by simp at hx; subst hx; exact ⟨hA, fun q e => by cases e; exact hB⟩
  wid := fun r h => by simp at h
  arr := fun i p a b h => by simp at h
  row := fun p a b h => by simp at h
  par := fun j h => by simp at h; exact .inl h
/-- all rows are whole -/
theorem PRow.tab (h : PRow k A B pairs T []) (hl : T.length = pairs.length) : PairTab k A B pairs T where
  zero := h.zero
  len := hl
  wid := h.wid
  arr := fun i p a b ha hp => h.arr i p a b (by rw [hl]; exact (List.getElem?_eq_some_iff.mp ha).1) ha hp
  reach := fun i hi => by
    have key : ∀ n i, i ≤ n → i < pairs.length → ∃ w, run T (some 0) w = some i := by
      intro n
      induction n with
      | zero => intro i h1 h2; exact ⟨[], by rw [run_nil]; congr 1; omega⟩
      | succ n ih =>
        intro i h1 h2
        rcases h.par i h2 with e | ⟨i', p, g1, g2⟩
        · exact ⟨[], by rw [run_nil, e]⟩
        · obtain ⟨u, hu⟩ := ih i' (by omega) (by omega)
          refine ⟨u ++ [p], ?_⟩
          rw [run_append, hu]
          rw [goalAt_old (by omega)] at g2
          exact g2
    exact key i i (Nat.le_refl _) hi
theorem pair_few {m n : Nat} (hn : pairs.Nodup) (h : ∀ x ∈ pairs, x.1 < m ∧ ∀ q, x.2 = some q → q < n) : pairs.length ≤ m * (n + 1) := by
  have := nodup_len hn (m := (List.range m).flatMap fun a => (none :: (List.range n).map some).map fun b => (a, b)) fun x hx => by
    obtain ⟨h1, h2⟩ := h x hx
    rw [List.mem_flatMap]
    refine ⟨x.1, List.mem_range.mpr h1, ?_⟩
    rw [List.mem_map]
    refine ⟨x.2, ?_, rfl⟩
    cases e : x.2 with
    | none => simp
    | some q => simp; exact h2 q e
  refine Nat.le_trans this (Nat.le_of_eq ?_)
  rw [List.length_flatMap]
  have : ((List.range m).map fun a => ((none :: (List.range n).map some).map fun b => (a, b)).length) = List.replicate m (n + 1) := by
    rw [List.eq_replicate_iff]
    simp
  rw [this, List.sum_replicate_nat]
end
end RR
/-! M7: reached and reaching stands. Plain Lean. -/
namespace RR
inductive Rch (G : Arr) (S : List Nat) : Nat → Prop
  | base {s : Nat} : s ∈ S → Rch G S s
  | step {q g : Nat} : Rch G S q → some g ∈ G.getD q [] → Rch G S g
theorem getD_row {G : Arr} {q : Nat} (h : q < G.length) : G.getD q [] = G[q] := by simp [h]
theorem mem_goal {G : Arr} {q g : Nat} : some g ∈ G.getD q [] ↔ ∃ p, goalAt G q p = some g := by
  unfold goalAt
  generalize G.getD q [] = r
  constructor
  · intro h
    obtain ⟨p, hp⟩ := List.mem_iff_getElem?.mp h
    refine ⟨p, ?_⟩
    rw [List.getD_eq_getElem?_getD, hp]
    rfl
  · rintro ⟨p, hp⟩
    rw [List.getD_eq_getElem?_getD] at hp
    cases e : r[p]? with
    | none => rw [e] at hp; cases hp
    | some x =>
      rw [e] at hp
      have : x = some g := hp
      rw [← this]
      exact List.mem_of_getElem? e
theorem rch_run {A : Arr} {q : Nat} : Rch A [0] q ↔ ∃ u, run A (some 0) u = some q := by
  constructor
  · intro h
    induction h with
    | base h => simp at h; subst h; exact ⟨[], rfl⟩
    | step _ hg ih =>
      obtain ⟨u, hu⟩ := ih
      obtain ⟨p, hp⟩ := mem_goal.mp hg
      refine ⟨u ++ [p], ?_⟩
      rw [run_append, hu]
      exact hp
  · rintro ⟨u, hu⟩
    have key : ∀ (u : List Nat) (s q : Nat), Rch A [0] s → run A (some s) u = some q → Rch A [0] q := by
      intro u
      induction u with
      | nil => intro s q hs e; cases e; exact hs
      | cons p u ih =>
        intro s q hs e
        have e2 : run A (goalAt A s p) u = some q := e
        cases e3 : goalAt A s p with
        | none => rw [e3, run_none] at e2; cases e2
        | some x =>
          rw [e3] at e2
          exact ih x q (.step hs (mem_goal.mpr ⟨p, e3⟩)) e2
    exact key u 0 q (.base (by simp)) hu
/-- arrows turned back -/
def Backs (A B : Arr) : Prop := ∀ q s, some s ∈ B.getD q [] ↔ ∃ p, goalAt A s p = some q
theorem rch_back {A B : Arr} {E : List Nat} (hB : Backs A B) {q : Nat} : Rch B E q ↔ ∃ u e, e ∈ E ∧ run A (some q) u = some e := by
  constructor
  · intro h
    induction h with
    | @base s h => exact ⟨[], s, h, rfl⟩
    | @step x g _ hg ih =>
      obtain ⟨u, e, he, hu⟩ := ih
      obtain ⟨p, hp⟩ := (hB x g).mp hg
      refine ⟨p :: u, e, he, ?_⟩
      show run A (goalAt A g p) u = some e
      rw [hp]
      exact hu
  · rintro ⟨u, e, he, hu⟩
    induction u generalizing q with
    | nil => cases hu; exact .base he
    | cons p u ih =>
      have e2 : run A (goalAt A q p) u = some e := hu
      cases e3 : goalAt A q p with
      | none => rw [e3, run_none] at e2; cases e2
      | some x =>
        rw [e3] at e2
        exact .step (ih e2) ((hB x q).mpr ⟨p, e3⟩)
theorem lang_some {A : Arr} {E : List Nat} {q : Nat} : (∃ u e, e ∈ E ∧ run A (some q) u = some e) ↔ ∃ u, lang A E (some q) u = true := by
  constructor
  · rintro ⟨u, e, he, hu⟩
    refine ⟨u, ?_⟩
    unfold lang
    rw [hu]
    exact decide_eq_true he
  · rintro ⟨u, hu⟩
    unfold lang at hu
    cases e : run A (some q) u with
    | none => rw [e] at hu; cases hu
    | some x =>
      rw [e] at hu
      exact ⟨u, x, of_decide_eq_true hu, e⟩
/-- what a closed set of found stands is -/
theorem rch_closed {G : Arr} {S seen : List Nat} (h0 : ∀ s ∈ S, s ∈ seen) (h1 : ∀ q ∈ seen, ∀ g, some g ∈ G.getD q [] → g ∈ seen) (h2 : ∀ q ∈ seen, Rch G S q) (q : Nat) : q ∈ seen ↔ Rch G S q := by
  refine ⟨h2 q, fun h => ?_⟩
  induction h with
  | base h => exact h0 _ h
  | step _ hg ih => exact h1 _ ih _ hg
end RR
/-! M8: kinds of stands, made finer until they stay. Plain Lean. -/
namespace RR
def kx (U : List Nat) (κ : Nat → Int) : Option Nat → Int
  | none => -1
  | some g => if g ∈ U then κ g else -1
def mark (A : Arr) (U : List Nat) (κ : Nat → Int) (x : Nat) : List Int := κ x :: (A.getD x []).map (kx U κ)
structure KOk (A : Arr) (E U : List Nat) (κ : Nat → Int) : Prop where
  rng : ∀ x ∈ U, 0 ≤ κ x ∧ κ x < 1000
  lg : ∀ x ∈ U, ∀ y ∈ U, lang A E (some x) = lang A E (some y) → κ x = κ y
  fin : ∀ x ∈ U, ∀ y ∈ U, κ x = κ y → isEnd E (some x) = isEnd E (some y)
/-- a goal of one of them is one of them if it leads on to an end -/
def Useful (A : Arr) (E U : List Nat) : Prop := ∀ x ∈ U, ∀ p g, goalAt A x p = some g → (g ∈ U ↔ lang A E (some g) ≠ emp)
theorem kx_step {A : Arr} {E U : List Nat} (hU : Useful A E U) {κ : Nat → Int} (ok : KOk A E U κ) {x y p : Nat} (hx : x ∈ U) (hy : y ∈ U) (h : lang A E (step A (some x) p) = lang A E (step A (some y) p)) : kx U κ (goalAt A x p) = kx U κ (goalAt A y p) := by
  have h2 : lang A E (goalAt A x p) = lang A E (goalAt A y p) := h
  cases ex : goalAt A x p with
  | none =>
    rw [ex, lang_none] at h2
    cases ey : goalAt A y p with
    | none => rfl
    | some g =>
      rw [ey] at h2
      have : g ∉ U := fun hg => (hU y hy p g ey).mp hg h2.symm
      simp [kx, this]
  | some f =>
    rw [ex] at h2
    cases ey : goalAt A y p with
    | none =>
      rw [ey, lang_none] at h2
      have : f ∉ U := fun hf => (hU x hx p f ex).mp hf h2
      simp [kx, this]
    | some g =>
      rw [ey] at h2
      by_cases hf : f ∈ U
      · have hg : g ∈ U := (hU y hy p g ey).mpr (by rw [← h2]; exact (hU x hx p f ex).mp hf)
        simp only [kx, if_pos hf, if_pos hg]
        exact ok.lg f hf g hg h2
      · have hg : g ∉ U := fun hg => hf ((hU x hx p f ex).mpr (by rw [h2]; exact (hU y hy p g ey).mp hg))
        simp [kx, hf, hg]
section
variable {k : Nat} {A : Arr} {E U : List Nat} {κ κ' : Nat → Int}
theorem row_len (ok : ArrOk k A) {x : Nat} (hx : x < A.length) : (A.getD x []).length = k := by
  rw [getD_row hx]
  exact ok.wid _ (List.getElem_mem hx)
theorem row_at (ok : ArrOk k A) {x p : Nat} (hx : x < A.length) (hp : p < k) : (A.getD x [])[p]? = some (goalAt A x p) := by
  have hl := row_len ok hx
  unfold goalAt
  rw [List.getD_eq_getElem?_getD (l := A.getD x []), List.getElem?_eq_getElem (by omega)]
  rfl
theorem mark_eq (ok : ArrOk k A) {x y : Nat} (hx : x < A.length) (hy : y < A.length) : mark A U κ x = mark A U κ y ↔ κ x = κ y ∧ ∀ p, p < k → kx U κ (goalAt A x p) = kx U κ (goalAt A y p) := by
  unfold mark
  rw [List.cons.injEq]
  refine and_congr Iff.rfl ⟨fun h p hp => ?_, fun h => List.ext_getElem? fun p => ?_⟩
  · have h2 := congrArg (fun l : List Int => l[p]?) h
    simp only [List.getElem?_map, row_at ok hx hp, row_at ok hy hp, Option.map_some] at h2
    exact Option.some.inj h2
  · by_cases hp : p < k
    · simp only [List.getElem?_map, row_at ok hx hp, row_at ok hy hp, Option.map_some, h p hp]
    · rw [List.getElem?_eq_none (by rw [List.length_map, row_len ok hx]; omega), List.getElem?_eq_none (by rw [List.length_map, row_len ok hy]; omega)]
theorem KOk.next (kk : KOk A E U κ) (ok : ArrOk k A) (hU : Useful A E U) (hlt : ∀ x ∈ U, x < A.length) (hr : ∀ x ∈ U, 0 ≤ κ' x ∧ κ' x < 1000) (h : ∀ x ∈ U, ∀ y ∈ U, κ' x = κ' y ↔ mark A U κ x = mark A U κ y) : KOk A E U κ' where
  rng := hr
  lg := fun x hx y hy hl => by
    rw [h x hx y hy, mark_eq ok (hlt x hx) (hlt y hy)]
    refine ⟨kk.lg x hx y hy hl, fun p _ => kx_step hU kk hx hy ?_⟩
    funext w
    exact congrFun hl (p :: w)
  fin := fun x hx y hy e => by
    rw [h x hx y hy, mark_eq ok (hlt x hx) (hlt y hy)] at e
    exact kk.fin x hx y hy e.1
def Cnt (U : List Nat) (κ : Nat → Int) (n : Nat) : Prop := ∃ ds : List Int, ds.Nodup ∧ (∀ z, z ∈ ds ↔ ∃ x ∈ U, κ x = z) ∧ ds.length = n
theorem Cnt.le {n : Nat} (h : Cnt U κ n) : n ≤ U.length := by
  obtain ⟨ds, nd, hm, rfl⟩ := h
  have := nodup_len nd (m := U.map κ) fun z hz => by
    obtain ⟨x, hx, e⟩ := (hm z).mp hz
    exact List.mem_map.mpr ⟨x, hx, e⟩
  simpa using this
theorem Cnt.pos {n : Nat} (h : Cnt U κ n) (hU : U ≠ []) : 1 ≤ n := by
  obtain ⟨ds, nd, hm, rfl⟩ := h
  obtain ⟨x, hx⟩ := List.exists_mem_of_ne_nil U hU
  exact List.length_pos_of_mem ((hm (κ x)).mpr ⟨x, hx, rfl⟩)
/-- a choice of one that has the kind -/
theorem choice (U : List Nat) (κ : Nat → Int) : ∃ r : Int → Nat, ∀ x ∈ U, r (κ x) ∈ U ∧ κ (r (κ x)) = κ x :=
  ⟨fun z => ((U.find? fun x => decide (κ x = z)).getD 0), fun x hx => by
    cases e : U.find? fun y => decide (κ y = κ x) with
    | none => exact absurd (List.find?_eq_none.mp e x hx) (by simp)
    | some y =>
      have h1 := List.mem_of_find?_eq_some e
      have h2 := List.find?_some e
      simp only [e, Option.getD_some]
      exact ⟨h1, by simpa using h2⟩⟩
theorem Cnt.mono {n m : Nat} (h : Cnt U κ n) (h' : Cnt U κ' m) (hr : ∀ x ∈ U, ∀ y ∈ U, κ' x = κ' y → κ x = κ y) : n ≤ m := by
  obtain ⟨ds, nd, hm, rfl⟩ := h
  obtain ⟨ds', nd', hm', rfl⟩ := h'
  obtain ⟨r, hr2⟩ := choice U κ'
  have := nodup_len nd (m := ds'.map fun z => κ (r z)) fun z hz => by
    obtain ⟨x, hx, e⟩ := (hm z).mp hz
    obtain ⟨h1, h2⟩ := hr2 x hx
    refine List.mem_map.mpr ⟨κ' x, (hm' _).mpr ⟨x, hx, rfl⟩, ?_⟩
    rw [← e]
    exact hr _ h1 x hx h2
  simpa using this
theorem Cnt.same {n : Nat} (h : Cnt U κ n) (h' : Cnt U κ' n) (hr : ∀ x ∈ U, ∀ y ∈ U, κ' x = κ' y → κ x = κ y) : ∀ x ∈ U, ∀ y ∈ U, κ x = κ y → κ' x = κ' y := by
  intro x hx y hy e
  refine Classical.byContradiction fun hne => ?_
  obtain ⟨ds, nd, hm, hl⟩ := h
  obtain ⟨ds', nd', hm', hl'⟩ := h'
  obtain ⟨r, hr2⟩ := choice U κ'
  have hy' : κ' y ∈ ds' := (hm' _).mpr ⟨y, hy, rfl⟩
  have := nodup_len nd (m := (ds'.erase (κ' y)).map fun z => κ (r z)) fun z hz => by
    obtain ⟨t, ht, e2⟩ := (hm z).mp hz
    by_cases hty : κ' t = κ' y
    · obtain ⟨h1, h2⟩ := hr2 x hx
      refine List.mem_map.mpr ⟨κ' x, (List.mem_erase_of_ne hne).mpr ((hm' _).mpr ⟨x, hx, rfl⟩), ?_⟩
      rw [← e2, hr t ht y hy hty, ← e]
      exact hr _ h1 x hx h2
    · obtain ⟨h1, h2⟩ := hr2 t ht
      refine List.mem_map.mpr ⟨κ' t, (List.mem_erase_of_ne hty).mpr ((hm' _).mpr ⟨t, ht, rfl⟩), ?_⟩
      rw [← e2]
      exact hr _ h1 t ht h2
  have hp := List.length_pos_of_mem hy'
  rw [List.length_map, List.length_erase_of_mem hy'] at this
  omega
/-- kinds that stay tell the languages apart -/
theorem KOk.last (kk : KOk A E U κ) (kk' : KOk A E U κ') (ok : ArrOk k A) (hU : Useful A E U) (hlt : ∀ x ∈ U, x < A.length) (h : ∀ x ∈ U, ∀ y ∈ U, κ' x = κ' y ↔ mark A U κ x = mark A U κ y) {n : Nat} (c : Cnt U κ n) (c' : Cnt U κ' n) :
    ∀ x ∈ U, ∀ y ∈ U, κ' x = κ' y ↔ lang A E (some x) = lang A E (some y) := by
  have fine : ∀ x ∈ U, ∀ y ∈ U, κ' x = κ' y → κ x = κ y := fun x hx y hy e => by
    rw [h x hx y hy, mark_eq ok (hlt x hx) (hlt y hy)] at e
    exact e.1
  have back := c.same c' fine
  have key : ∀ (w : List Nat) (x y : Nat), x ∈ U → y ∈ U → κ' x = κ' y → lang A E (some x) w = lang A E (some y) w := by
    intro w
    induction w with
    | nil => intro x y hx hy e; exact kk'.fin x hx y hy e
    | cons p w ih =>
      intro x y hx hy e
      show lang A E (goalAt A x p) w = lang A E (goalAt A y p) w
      by_cases hp : p < k
      · rw [h x hx y hy, mark_eq ok (hlt x hx) (hlt y hy)] at e
        have e2 := e.2 p hp
        have out : ∀ x ∈ U, ∀ o, goalAt A x p = o → kx U κ o = -1 → lang A E o w = false := by
          intro x hx o ho hk
          cases o with
          | none => rw [lang_none]; rfl
          | some g =>
            have hg : g ∉ U := fun hg => by
              simp only [kx, if_pos hg] at hk
              have := (kk.rng g hg).1
              omega
            have : lang A E (some g) = emp := Classical.byContradiction fun hne => hg ((hU x hx p g ho).mpr hne)
            rw [this]
            rfl
        cases ex : goalAt A x p with
        | none =>
          rw [ex] at e2
          rw [out x hx none ex rfl, out y hy (goalAt A y p) rfl e2.symm]
        | some f =>
          by_cases hf : f ∈ U
          · rw [ex] at e2
            cases ey : goalAt A y p with
            | none =>
              rw [ey] at e2
              simp only [kx, if_pos hf] at e2
              have := (kk.rng f hf).1
              omega
            | some g =>
              rw [ey] at e2
              by_cases hg : g ∈ U
              · simp only [kx, if_pos hf, if_pos hg] at e2
                exact ih f g hf hg (back f hf g hg e2)
              · simp only [kx, if_pos hf, if_neg hg] at e2
                have := (kk.rng f hf).1
                omega
          · have e3 : kx U κ (goalAt A x p) = -1 := by rw [ex]; simp [kx, hf]
            rw [← ex, out x hx _ rfl e3, out y hy _ rfl (by rw [← e2]; exact e3)]
      · rw [goalAt_sign ok (by omega), goalAt_sign ok (by omega)]
  intro x hx y hy
  refine ⟨fun e => funext fun w => key w x y hx hy e, fun e => kk'.lg x hx y hy e⟩
end
end RR
/-! M9: the least reader told step by step by stands. Plain Lean. -/
namespace RR
section
variable {k : Nat} {A : Arr} {E U : List Nat}
theorem rowFrom_succ (l : Lg) (x : List (Option Nat) × List Lg) (p : Nat) : rowFrom l x (List.range (p + 1)) = rowStep l (rowFrom l x (List.range p)) p := by
  unfold rowFrom
  rw [List.range_succ, List.foldl_append]
  rfl
theorem findIdx_at {line : List Lg} (nd : line.Nodup) {i : Nat} {l : Lg} (h : line[i]? = some l) : (open Classical in line.findIdx fun m => decide (m = l)) = i := by
  have hi := (List.getElem?_eq_some_iff.mp h).1
  have hl := (List.getElem?_eq_some_iff.mp h).2
  rw [List.findIdx_eq hi]
  refine ⟨by simp [hl], fun j hj => ?_⟩
  have hne : line[j] ≠ l := by
    intro e
    rw [← hl] at e
    have := (List.nodup_iff_pairwise_ne.mp nd)
    have h2 := List.pairwise_iff_getElem.mp this j i (by omega) hi hj
    exact h2 e
  simp [hne]
theorem row_emp {l : Lg} {x : List (Option Nat) × List Lg} {p : Nat} (h : deriv l p = emp) : rowStep l x p = (x.1 ++ [none], x.2) := by
  unfold rowStep
  rw [if_pos h]
theorem row_old {l : Lg} {x : List (Option Nat) × List Lg} {p i : Nat} (nd : x.2.Nodup) (hne : deriv l p ≠ emp) (h : x.2[i]? = some (deriv l p)) : rowStep l x p = (x.1 ++ [some i], x.2) := by
  unfold rowStep
  rw [if_neg hne, if_pos (List.mem_of_getElem? h), findIdx_at nd h]
theorem row_new {l : Lg} {x : List (Option Nat) × List Lg} {p : Nat} (hne : deriv l p ≠ emp) (h : deriv l p ∉ x.2) : rowStep l x p = (x.1 ++ [some x.2.length], x.2 ++ [deriv l p]) := by
  unfold rowStep
  rw [if_neg hne, if_neg h]
theorem ls_step {s : LS} {l : Lg} (h : s.line[s.rows.length]? = some l) : lsStep k s = ⟨(rowFrom l ([], s.line) (List.range k)).2, s.rows ++ [(rowFrom l ([], s.line) (List.range k)).1], if l [] = true then s.shut ++ [s.rows.length] else s.shut⟩ := by
  unfold lsStep
  rw [h]
theorem ls_whole {L : Lg} (hne : L ≠ emp) {n : Nat} {s : LS} (hs : s = lsIter k n ⟨[L], [], []⟩) (hn : n ≤ 1000) (h : s.line.length ≤ s.rows.length) : leastL k L = (s.rows, s.shut) := by
  unfold leastL leastN
  rw [if_neg hne]
  have e : lsIter k big ⟨[L], [], []⟩ = s := by
    have h2 : ∀ d, lsIter k (n + d) ⟨[L], [], []⟩ = s := by
      intro d
      induction d with
      | zero => exact hs.symm
      | succ d ih =>
        show lsIter k ((n + d) + 1) _ = s
        rw [lsIter_succ, ih, lsStep_done h]
    have := h2 (big - n)
    rw [show n + (big - n) = big by rw [big_eq]; omega] at this
    exact this
  rw [e]
theorem useful_of {p : Nat → Bool} (h : ∀ q, q < A.length → (p q = true ↔ (∃ u, run A (some 0) u = some q) ∧ ∃ u, lang A E (some q) u = true)) (ok : ArrOk k A) : Useful A E ((List.range A.length).filter p) := by
  intro x hx pp g hg
  have hxr := List.mem_filter.mp hx
  have hxl := List.mem_range.mp hxr.1
  have hgl := goalAt_lt ok hg
  obtain ⟨⟨u, hu⟩, _⟩ := (h x hxl).mp hxr.2
  rw [List.mem_filter, h g hgl]
  constructor
  · rintro ⟨_, _, u2, h2⟩ e
    rw [e] at h2
    cases h2
  · intro hne
    refine ⟨List.mem_range.mpr hgl, ⟨u ++ [pp], by rw [run_append, hu]; exact hg⟩, ?_⟩
    rcases emp_or (lang A E (some g)) with e | e
    · exact absurd e hne
    · exact e
theorem zero_useful {p : Nat → Bool} (h : ∀ q, q < A.length → (p q = true ↔ (∃ u, run A (some 0) u = some q) ∧ ∃ u, lang A E (some q) u = true)) (ok : ArrOk k A) : 0 ∈ (List.range A.length).filter p ↔ lang A E (some 0) ≠ emp := by
  have h0 := ok.pos
  rw [List.mem_filter, h 0 h0]
  constructor
  · rintro ⟨_, _, u2, h2⟩ e
    rw [e] at h2
    cases h2
  · intro hne
    refine ⟨List.mem_range.mpr h0, ⟨[], rfl⟩, ?_⟩
    rcases emp_or (lang A E (some 0)) with e | e
    · exact absurd e hne
    · exact e
theorem useful_ne {p : Nat → Bool} (h : ∀ q, q < A.length → (p q = true ↔ (∃ u, run A (some 0) u = some q) ∧ ∃ u, lang A E (some q) u = true)) {q : Nat} (hq : q ∈ (List.range A.length).filter p) : lang A E (some q) ≠ emp := fun e => by
  have hxr := List.mem_filter.mp hq
  obtain ⟨_, u, hu⟩ := (h q (List.mem_range.mp hxr.1)).mp hxr.2
  rw [e] at hu
  cases hu
end
end RR
/-! M10: the table of deeds as it grows; how many deeds there are. Plain Lean. -/
namespace RR
section
variable {k : Nat} {A : Arr} {M : List Nat} {line : List Deed} {T : Arr} {gs : List Nat}
structure DRow (k : Nat) (A : Arr) (M : List Nat) (line : List Deed) (T : Arr) (gs : List Nat) : Prop where
  zero : line[0]? = some (deed0 A.length)
  wid : ∀ r ∈ T, r.length = k
  arr : ∀ i p d, i < T.length → line[i]? = some d → p < k → ∃ j, goalAt T i p = some j ∧ line[j]? = some (deal A M d p)
  row : ∀ p j d, gs[p]? = some j → line[T.length]? = some d → line[j]? = some (deal A M d p)
  src : ∀ d ∈ line, ∃ v, (∀ p ∈ v, p < k) ∧ d = deedOf A M v
theorem DRow.old (h : DRow k A M line T gs) {d : Deed} {j : Nat} (hd : line[T.length]? = some d) (hj : line[j]? = some (deal A M d gs.length)) : DRow k A M line T (gs ++ [j]) where
  zero := h.zero
  wid := h.wid
  arr := h.arr
  row := fun p i d2 hp h2 => by
    rw [hd] at h2
    cases h2
    by_cases hlt : p < gs.length
    · rw [List.getElem?_append_left hlt] at hp
      exact h.row p i d hp hd
    · have hl := (List.getElem?_eq_some_iff.mp hp).1
      have : p = gs.length := by simp at hl; omega
      subst this
      rw [List.getElem?_append_right (Nat.le_refl _)] at hp
      simp at hp
      subst hp
      exact hj
  src := h.src
theorem deedOf_next {v : List Nat} {p : Nat} : deal A M (deedOf A M v) p = deedOf A M (v ++ [p]) := (deedOf_snoc A M v p).symm
theorem DRow.new (h : DRow k A M line T gs) {d : Deed} (hd : line[T.length]? = some d) (hp : gs.length < k) : DRow k A M (line ++ [deal A M d gs.length]) T (gs ++ [line.length]) where
  zero := by
    have := (List.getElem?_eq_some_iff.mp h.zero).1
    rw [List.getElem?_append_left this]
    exact h.zero
  wid := h.wid
  arr := fun i p d2 hi h2 hp => by
    have hl := (List.getElem?_eq_some_iff.mp hd).1
    rw [List.getElem?_append_left (by omega)] at h2
    obtain ⟨j, g1, g2⟩ := h.arr i p d2 hi h2 hp
    exact ⟨j, g1, by rw [List.getElem?_append_left (List.getElem?_eq_some_iff.mp g2).1]; exact g2⟩
  row := fun p i d2 hp h2 => by
    have hl := (List.getElem?_eq_some_iff.mp hd).1
    rw [List.getElem?_append_left hl, hd] at h2
    cases h2
    by_cases hlt : p < gs.length
    · rw [List.getElem?_append_left hlt] at hp
      have g2 := h.row p i d hp hd
      rw [List.getElem?_append_left (List.getElem?_eq_some_iff.mp g2).1]
      exact g2
    · have hl2 := (List.getElem?_eq_some_iff.mp hp).1
      have : p = gs.length := by simp at hl2; omega
      subst this
      rw [List.getElem?_append_right (Nat.le_refl _)] at hp
      simp at hp
      subst hp
      rw [List.getElem?_append_right (Nat.le_refl _)]
      simp
  src := fun x hx => by
    rcases List.mem_append.mp hx with hx | hx
    · exact h.src x hx
    · simp at hx
      subst hx
      obtain ⟨v, h1, rfl⟩ := h.src d (List.mem_of_getElem? hd)
      refine ⟨v ++ [gs.length], fun q hq => ?_, deedOf_next⟩
      rcases List.mem_append.mp hq with hq | hq
      · exact h1 q hq
      · simp at hq
        omega
theorem DRow.done (h : DRow k A M line T gs) (hl : gs.length = k) : DRow k A M line (T ++ [gs.map some]) [] where
  zero := h.zero
  wid := fun r hr => by
    rcases List.mem_append.mp hr with hr | hr
    · exact h.wid r hr
    · simp at hr
      subst hr
      simp [hl]
  arr := fun i p d hi hd hp => by
    by_cases hlt : i < T.length
    · rw [goalAt_old hlt]
      exact h.arr i p d hlt hd hp
    · have : i = T.length := by simp at hi; omega
      subst this
      have hg : gs[p]? = some (gs[p]'(by omega)) := List.getElem?_eq_getElem (by omega)
      refine ⟨gs[p]'(by omega), ?_, h.row p _ d hg hd⟩
      rw [goalAt_last, List.getD_eq_getElem?_getD, List.getElem?_map, hg]
      rfl
  row := fun p j d hp _ => by simp at hp
  src := h.src
theorem drow_start : DRow k A M [deed0 A.length] [] [] where
  zero := rfl
  wid := fun r h => by simp at h
  arr := fun i p d h => by simp at h
  row := fun p j d h => by simp at h
  src := fun d h => by simp at h; subst h; exact ⟨[], by simp, rfl⟩
theorem DRow.tab (h : DRow k A M line T []) (hl : T.length = line.length) : DeedTab k A M line T where
  zero := h.zero
  len := hl
  wid := h.wid
  arr := fun i p d hd hp => h.arr i p d (by rw [hl]; exact (List.getElem?_eq_some_iff.mp hd).1) hd hp
theorem deedOf_len (v : List Nat) : (deedOf A M v).length = A.length := by rw [deedOf_eq]; simp
theorem deedOf_rng (ok : ArrOk k A) (v : List Nat) : ∀ y ∈ deedOf A M v, ∀ q, y.1 = some q → q < A.length := by
  intro y hy q hq
  rw [deedOf_eq] at hy
  obtain ⟨s, hs, rfl⟩ := List.mem_map.mp hy
  exact run_lt ok v (some s) (fun r e => by cases e; exact List.mem_range.mp hs) q hq
/-- so few deeds -/
def FewDeeds (k : Nat) (A : Arr) (M : List Nat) : Prop := ∀ line : List Deed, line.Nodup → (∀ d ∈ line, ∃ v, (∀ p ∈ v, p < k) ∧ d = deedOf A M v) → line.length < 59
theorem deedOf_cell {v : List Nat} {y : Option Nat × Bool} (hy : y ∈ deedOf A M v) (h : y.1 = none) : y.2 = false := by
  rw [deedOf_eq] at hy
  obtain ⟨s, hs, rfl⟩ := List.mem_map.mp hy
  dsimp only at h ⊢
  rw [h]
  rfl
def cells2 : List (Option Nat × Bool) := [(none, false), (some 0, false), (some 0, true), (some 1, false), (some 1, true)]
theorem mem_cells2 (ok : ArrOk k A) (hA : A.length ≤ 2) {v : List Nat} {y : Option Nat × Bool} (hy : y ∈ deedOf A M v) : y ∈ cells2 := by
  have h1 := deedOf_rng ok v y hy
  have h2 := deedOf_cell hy
  obtain ⟨a, b⟩ := y
  cases a with
  | none =>
    have : b = false := h2 rfl
    subst this
    simp [cells2]
  | some q =>
    have hq : q < A.length := h1 q rfl
    have : q = 0 ∨ q = 1 := by omega
    rcases this with rfl | rfl <;> cases b <;> simp [cells2]
theorem few2 (ok : ArrOk k A) (M : List Nat) (hA : A.length ≤ 2) : FewDeeds k A M := by
  intro line nd hs
  have hm := nodup_len nd (m := (cells2.map fun x => [x]) ++ cells2.flatMap fun x => cells2.map fun y => [x, y]) fun d hd => by
    obtain ⟨v, _, rfl⟩ := hs d hd
    have hl : (deedOf A M v).length = A.length := deedOf_len v
    have hc : ∀ y ∈ deedOf A M v, y ∈ cells2 := fun y hy => mem_cells2 ok hA hy
    have hp := ok.pos
    generalize deedOf A M v = d at hl hc
    match d, hl, hc with
    | [], hl, _ => simp at hl; omega
    | [x], _, hc => exact List.mem_append_left _ (List.mem_map.mpr ⟨x, hc x (by simp), rfl⟩)
    | [x, y], _, hc => exact List.mem_append_right _ (List.mem_flatMap.mpr ⟨x, hc x (by simp), List.mem_map.mpr ⟨y, hc y (by simp), rfl⟩⟩)
    | _ :: _ :: _ :: _, hl, _ => simp at hl; omega
  refine Nat.lt_of_le_of_lt hm (by decide)
end
end RR
/-! M11: few deeds for one sign and three stands. Plain Lean. -/
namespace RR
def tbl (m0 m1 m2 : Bool) (q : Nat) : Bool := if q = 0 then m0 else if q = 1 then m1 else m2
def dl1 (A : Arr) (m : Nat → Bool) (x : Option Nat × Bool) : Option Nat × Bool := (step A x.1 0, (step A x.1 0).isSome && (x.2 || (step A x.1 0).elim false m))
def dlN (A : Arr) (m : Nat → Bool) : Nat → Deed
  | 0 => deed0 A.length
  | n + 1 => (dlN A m n).map (dl1 A m)
def opts3 : List (Option Nat) := [none, some 0, some 1, some 2]
theorem dl_key : ∀ a ∈ opts3, ∀ b ∈ opts3, ∀ c ∈ opts3, ∀ m0 m1 m2 : Bool, dlN [[a], [b], [c]] (tbl m0 m1 m2) 12 = dlN [[a], [b], [c]] (tbl m0 m1 m2) 6 := by decide +kernel
theorem dl_per {A : Arr} {m : Nat → Bool} (h : dlN A m 12 = dlN A m 6) : ∀ i, dlN A m (12 + i) = dlN A m (6 + i)
  | 0 => h
  | i + 1 => by show (dlN A m (12 + i)).map _ = (dlN A m (6 + i)).map _; rw [dl_per h i]
theorem dl_low {A : Arr} {m : Nat → Bool} (h : dlN A m 12 = dlN A m 6) (n : Nat) : ∃ j, j < 12 ∧ dlN A m n = dlN A m j := by
  induction n using Nat.strongRecOn with
  | ind n ih =>
    by_cases hn : n < 12
    · exact ⟨n, hn, rfl⟩
    · obtain ⟨i, rfl⟩ : ∃ i, n = 12 + i := ⟨n - 12, by omega⟩
      rw [dl_per h i]
      exact ih (6 + i) (by omega)
theorem dl_rep {A : Arr} (ok : ArrOk 1 A) (hA : A.length = 3) (M : List Nat) : ∀ n : Nat, deedOf A M (List.replicate n 0) = dlN A (tbl (isEnd M (some 0)) (isEnd M (some 1)) (isEnd M (some 2))) n
  | 0 => rfl
  | n + 1 => by
    rw [List.replicate_succ', deedOf_snoc, dl_rep ok hA M n]
    show (dlN A _ n).map (deal1 A M 0) = (dlN A _ n).map _
    refine List.map_congr_left fun x hx => ?_
    unfold deal1 dl1
    cases e : step A x.1 0 with
    | none => rfl
    | some q =>
      have hq : q < 3 := by rw [← hA]; exact step_lt ok e
      have : isEnd M (some q) = tbl (isEnd M (some 0)) (isEnd M (some 1)) (isEnd M (some 2)) q := by
        unfold tbl
        rcases (by omega : q = 0 ∨ q = 1 ∨ q = 2) with rfl | rfl | rfl <;> rfl
      rw [this]
      rfl
theorem dl_deed {A : Arr} (ok : ArrOk 1 A) (hA : A.length = 3) (M : List Nat) (v : List Nat) (hv : ∀ p ∈ v, p < 1) : deedOf A M v = dlN A (tbl (isEnd M (some 0)) (isEnd M (some 1)) (isEnd M (some 2))) v.length := by
  have e : v = List.replicate v.length 0 := List.eq_replicate_of_mem fun p hp => by have := hv p hp; omega
  have := dl_rep ok hA M v.length
  rw [← e] at this
  exact this
theorem few3 {A : Arr} (ok : ArrOk 1 A) (hA : A.length = 3) (M : List Nat) : FewDeeds 1 A M := by
  intro line nd hs
  obtain ⟨m, hm⟩ : ∃ m, m = tbl (isEnd M (some 0)) (isEnd M (some 1)) (isEnd M (some 2)) := ⟨_, rfl⟩
  have key : dlN A m 12 = dlN A m 6 := by
    have wid := ok.wid
    have rng := ok.rng
    rw [hm]
    match A, hA, wid, rng with
    | [r0, r1, r2], _, wid, rng =>
      have cell : ∀ r ∈ [r0, r1, r2], ∃ a ∈ opts3, r = [a] := by
        intro r hr
        have hl := wid r hr
        have hg := rng r hr
        match r, hl with
        | [a], _ =>
          refine ⟨a, ?_, rfl⟩
          cases a with
          | none => simp [opts3]
          | some q =>
            have hq : q < 3 := hg q (by simp)
            rcases (by omega : q = 0 ∨ q = 1 ∨ q = 2) with rfl | rfl | rfl <;> simp [opts3]
      obtain ⟨a, ha, rfl⟩ := cell r0 (by simp)
      obtain ⟨b, hb, rfl⟩ := cell r1 (by simp)
      obtain ⟨c, hc, rfl⟩ := cell r2 (by simp)
      exact dl_key a ha b hb c hc _ _ _
  have hl := nodup_len nd (m := (List.range 12).map (dlN A m)) fun d hd => by
    obtain ⟨v, hv, rfl⟩ := hs d hd
    rw [dl_deed ok hA M v hv, ← hm]
    obtain ⟨j, hj, e⟩ := dl_low key v.length
    rw [e]
    exact List.mem_map.mpr ⟨j, List.mem_range.mpr hj, rfl⟩
  rw [List.length_map, List.length_range] at hl
  omega
end RR
/-! K0: the text by places, the names of each def by slot (printed by gen.py). -/
namespace RK
open PySem L2
def top (i : Nat) : Stmt := PySem.Challenge.pw_rowreaders_k80_whole_loops_behind_starts.main.body.getD i (.Pass ⟨0, 0, 0, 0⟩)
abbrev s_is_number : Stmt := top 17
abbrev n_is_number : List Str := ["value", "low", "high"]
abbrev p_is_number : List Str := ["value", "low", "high"]
abbrev s_is_goal : Stmt := top 18
abbrev n_is_goal : List Str := ["value", "size"]
abbrev p_is_goal : List Str := ["value", "size"]
abbrev s_are_arrows : Stmt := top 19
abbrev n_are_arrows : List Str := ["value", "signs", "row", "goal"]
abbrev p_are_arrows : List Str := ["value", "signs"]
abbrev s_are_stands : Stmt := top 20
abbrev n_are_stands : List Str := ["value", "size", "stand", "place"]
abbrev p_are_stands : List Str := ["value", "size"]
abbrev s_is_row : Stmt := top 21
abbrev n_is_row : List Str := ["value", "signs", "most", "sign"]
abbrev p_is_row : List Str := ["value", "signs", "most"]
abbrev s_Reader_init : Stmt := inClass (top 22) 0
abbrev n_Reader_init : List Str := ["self", "signs", "arrows", "ends"]
abbrev p_Reader_init : List Str := ["self", "signs", "arrows", "ends"]
abbrev s_Reader_signs : Stmt := inClass (top 22) 1
abbrev n_Reader_signs : List Str := ["self"]
abbrev p_Reader_signs : List Str := ["self"]
abbrev s_Reader_arrows : Stmt := inClass (top 22) 2
abbrev n_Reader_arrows : List Str := ["self"]
abbrev p_Reader_arrows : List Str := ["self"]
abbrev s_Reader_ends : Stmt := inClass (top 22) 3
abbrev n_Reader_ends : List Str := ["self"]
abbrev p_Reader_ends : List Str := ["self"]
abbrev s_Reader_eq : Stmt := inClass (top 22) 4
abbrev n_Reader_eq : List Str := ["self", "other"]
abbrev p_Reader_eq : List Str := ["self", "other"]
abbrev s_Reader_len : Stmt := inClass (top 22) 5
abbrev n_Reader_len : List Str := ["self"]
abbrev p_Reader_len : List Str := ["self"]
abbrev s_Reader_repr : Stmt := inClass (top 22) 6
abbrev n_Reader_repr : List Str := ["self"]
abbrev p_Reader_repr : List Str := ["self"]
abbrev s_is_signs : Stmt := top 23
abbrev n_is_signs : List Str := ["value"]
abbrev p_is_signs : List Str := ["value"]
abbrev s_check_signs : Stmt := top 24
abbrev n_check_signs : List Str := ["signs"]
abbrev p_check_signs : List Str := ["signs"]
abbrev s_check_reader : Stmt := top 25
abbrev n_check_reader : List Str := ["reader"]
abbrev p_check_reader : List Str := ["reader"]
abbrev s_check_row : Stmt := top 26
abbrev n_check_row : List Str := ["row", "signs"]
abbrev p_check_row : List Str := ["row", "signs"]
abbrev s_goal_by : Stmt := top 27
abbrev n_goal_by : List Str := ["arrows", "stand", "row", "sign"]
abbrev p_goal_by : List Str := ["arrows", "stand", "row"]
abbrev s_reached : Stmt := top 28
abbrev n_reached : List Str := ["arrows", "stands", "found", "stand", "line", "goal"]
abbrev p_reached : List Str := ["arrows", "stands"]
abbrev s_turned_back : Stmt := top 29
abbrev n_turned_back : List Str := ["arrows", "found", "row", "stand", "goal"]
abbrev p_turned_back : List Str := ["arrows"]
abbrev s_useful_of : Stmt := top 30
abbrev n_useful_of : List Str := ["arrows", "ends", "ahead", "behind", "stand"]
abbrev p_useful_of : List Str := ["arrows", "ends"]
abbrev s_kinds_of : Stmt := top 31
abbrev n_kinds_of : List Str := ["arrows", "ends", "stands", "kinds", "stand", "many", "before", "marks", "goals", "goal", "order", "places", "place", "mark"]
abbrev p_kinds_of : List Str := ["arrows", "ends", "stands"]
abbrev s_least_of : Stmt := top 32
abbrev n_least_of : List Str := ["signs", "arrows", "ends", "stands", "stand", "kinds", "numbers", "line", "rows", "final", "shut", "row", "goal", "kind"]
abbrev p_least_of : List Str := ["signs", "arrows", "ends"]
abbrev s_made : Stmt := top 33
abbrev n_made : List Str := ["signs", "arrows", "ends", "rows", "shut"]
abbrev p_made : List Str := ["signs", "arrows", "ends"]
abbrev s_first_row_to : Stmt := top 34
abbrev n_first_row_to : List Str := ["arrows", "stand", "goals", "seen", "line", "at", "here", "place", "goal"]
abbrev p_first_row_to : List Str := ["arrows", "stand", "goals"]
abbrev s_led_to : Stmt := top 35
abbrev n_led_to : List Str := ["reader", "row"]
abbrev p_led_to : List Str := ["reader", "row"]
abbrev s_says : Stmt := top 36
abbrev n_says : List Str := ["reader", "row"]
abbrev p_says : List Str := ["reader", "row"]
abbrev s_no_rows : Stmt := top 37
abbrev n_no_rows : List Str := ["signs"]
abbrev p_no_rows : List Str := ["signs"]
abbrev s_goal_of : Stmt := top 39
abbrev n_goal_of : List Str := ["arrows", "stand", "place"]
abbrev p_goal_of : List Str := ["arrows", "stand", "place"]
abbrev s_Watcher_init : Stmt := inClass (top 41) 0
abbrev n_Watcher_init : List Str := ["self", "signs", "arrows", "marks"]
abbrev p_Watcher_init : List Str := ["self", "signs", "arrows", "marks"]
abbrev s_Watcher_signs : Stmt := inClass (top 41) 1
abbrev n_Watcher_signs : List Str := ["self"]
abbrev p_Watcher_signs : List Str := ["self"]
abbrev s_Watcher_arrows : Stmt := inClass (top 41) 2
abbrev n_Watcher_arrows : List Str := ["self"]
abbrev p_Watcher_arrows : List Str := ["self"]
abbrev s_Watcher_marks : Stmt := inClass (top 41) 3
abbrev n_Watcher_marks : List Str := ["self"]
abbrev p_Watcher_marks : List Str := ["self"]
abbrev s_Watcher_len : Stmt := inClass (top 41) 4
abbrev n_Watcher_len : List Str := ["self"]
abbrev p_Watcher_len : List Str := ["self"]
abbrev s_Watcher_bool : Stmt := inClass (top 41) 5
abbrev n_Watcher_bool : List Str := ["self"]
abbrev p_Watcher_bool : List Str := ["self"]
abbrev s_Watcher_eq : Stmt := inClass (top 41) 6
abbrev n_Watcher_eq : List Str := ["self", "other"]
abbrev p_Watcher_eq : List Str := ["self", "other"]
abbrev s_watcher_with : Stmt := top 42
abbrev n_watcher_with : List Str := ["signs", "arrows", "marks", "found", "goals"]
abbrev p_watcher_with : List Str := ["signs", "arrows", "marks"]
abbrev s_check_watcher : Stmt := top 43
abbrev n_check_watcher : List Str := ["value"]
abbrev p_check_watcher : List Str := ["value"]
abbrev s_check_watchers : Stmt := top 44
abbrev n_check_watchers : List Str := ["one", "two"]
abbrev p_check_watchers : List Str := ["one", "two"]
abbrev s_passed : Stmt := top 45
abbrev n_passed : List Str := ["watcher", "stand", "row", "is_met", "sign"]
abbrev p_passed : List Str := ["watcher", "stand", "row"]
abbrev s_watched : Stmt := top 46
abbrev n_watched : List Str := ["watcher", "stand", "loop", "places", "told", "is_met"]
abbrev p_watched : List Str := ["watcher", "stand", "loop"]
abbrev s_watches : Stmt := top 47
abbrev n_watches : List Str := ["watcher", "start", "loop"]
abbrev p_watches : List Str := ["watcher", "start", "loop"]
abbrev s_back_row : Stmt := top 48
abbrev n_back_row : List Str := ["arrows", "stand", "place", "goal", "rest"]
abbrev p_back_row : List Str := ["arrows", "stand"]
abbrev s_paired : Stmt := top 49
abbrev n_paired : List Str := ["one", "two", "is_either", "line", "places", "arrows", "at", "here", "goals", "place", "there", "is_out"]
abbrev p_paired : List Str := ["one", "two", "is_either"]
abbrev s_loop_apart : Stmt := top 50
abbrev n_loop_apart : List Str := ["one", "two", "pairs", "arrows", "spot", "pair", "bare", "goal", "row", "loop"]
abbrev p_loop_apart : List Str := ["one", "two"]
abbrev s_loop_unlike : Stmt := top 51
abbrev n_loop_unlike : List Str := ["one", "two", "found"]
abbrev p_loop_unlike : List Str := ["one", "two"]
abbrev s_unlike_loop : Stmt := top 52
abbrev n_unlike_loop : List Str := ["watcher", "other"]
abbrev p_unlike_loop : List Str := ["watcher", "other"]
abbrev s_same_loops : Stmt := top 53
abbrev n_same_loops : List Str := ["watcher", "other"]
abbrev p_same_loops : List Str := ["watcher", "other"]
abbrev s_dealt : Stmt := top 54
abbrev n_dealt : List Str := ["watcher", "deed", "place", "found", "stand", "is_met", "goal"]
abbrev p_dealt : List Str := ["watcher", "deed", "place"]
abbrev s_is_good : Stmt := top 55
abbrev n_is_good : List Str := ["deed", "stand", "places", "told"]
abbrev p_is_good : List Str := ["deed", "stand"]
abbrev s_loops_behind : Stmt := top 56
abbrev n_loops_behind : List Str := ["watcher", "start", "begin", "first", "stand", "line", "places", "arrows", "at", "deed", "goals", "place", "later", "spot"]
abbrev p_loops_behind : List Str := ["watcher", "start"]
abbrev s_watcher_of : Stmt := top 57
abbrev n_watcher_of : List Str := ["reader"]
abbrev p_watcher_of : List Str := ["reader"]
abbrev s_least_by : Stmt := top 59
abbrev n_least_by : List Str := ["reader"]
abbrev p_least_by : List Str := ["reader"]
abbrev s_least : Stmt := top 60
abbrev n_least : List Str := ["reader"]
abbrev p_least : List Str := ["reader"]
abbrev s_L_vial_of : Stmt := top 62
abbrev n_L_vial_of : List Str := ["_law_script", "_law_turn", "_law_mine", "_law_shaken", "_law_at_here", "_law_each"]
abbrev p_L_vial_of : List Str := ["_law_script", "_law_turn"]
abbrev s_L_drip : Stmt := top 63
abbrev n_L_drip : List Str := ["_law_vial", "_law_top", "_law_got", "_law_base"]
abbrev p_L_drip : List Str := ["_law_vial", "_law_top"]
abbrev s_L_draw : Stmt := top 64
abbrev n_L_draw : List Str := ["_law_vial", "_law_menu"]
abbrev p_L_draw : List Str := ["_law_vial", "_law_menu"]
abbrev s_L_arrows : Stmt := top 65
abbrev n_L_arrows : List Str := ["_law_vial", "_law_many", "_law_size", "_law_menu", "_law_sign", "_law_stand"]
abbrev p_L_arrows : List Str := ["_law_vial", "_law_many", "_law_size"]
abbrev s_L_lot : Stmt := top 66
abbrev n_L_lot : List Str := ["_law_vial", "_law_size", "_law_stand"]
abbrev p_L_lot : List Str := ["_law_vial", "_law_size"]
abbrev s_L_rows : Stmt := top 67
abbrev n_L_rows : List Str := ["_law_many", "_law_size", "_law_found", "_law_layer", "_law_lap", "_law_longer", "_law_had", "_law_sign"]
abbrev p_L_rows : List Str := ["_law_many", "_law_size"]
abbrev s_L_goes : Stmt := top 68
abbrev n_L_goes : List Str := ["_law_arrows_here", "_law_stand", "_law_text", "_law_found", "_law_sign"]
abbrev p_L_goes : List Str := ["_law_arrows_here", "_law_stand", "_law_text"]
abbrev s_L_watched : Stmt := top 69
abbrev n_L_watched : List Str := ["_law_plan_here", "_law_head", "_law_loop_here", "_law_arrows_here", "_law_marks_here", "_law_way", "_law_far", "_law_again", "_law_stand"]
abbrev p_L_watched : List Str := ["_law_plan_here", "_law_head", "_law_loop_here"]
abbrev s_L_start_right : Stmt := top 70
abbrev n_L_start_right : List Str := ["_law_made_here", "_law_plan_here", "_law_many", "_law_head", "_law_told", "_law_loop_here", "_law_due"]
abbrev p_L_start_right : List Str := ["_law_made_here", "_law_plan_here", "_law_many", "_law_head"]
abbrev s_L_reader_right : Stmt := top 71
abbrev n_L_reader_right : List Str := ["_law_vial", "_law_size", "_law_own", "_law_made_here", "_law_head", "_law_loop_here", "_law_whole", "_law_near", "_law_due", "_law_cut"]
abbrev p_L_reader_right : List Str := ["_law_vial"]
abbrev s_L_right : Stmt := top 72
abbrev n_L_right : List Str := ["_law_vial", "_law_many", "_law_size", "_law_one", "_law_two", "_law_near", "_law_far", "_law_heads", "_law_k", "_law_head", "_law_found"]
abbrev p_L_right : List Str := ["_law_vial"]
abbrev s_law : Stmt := top 73
abbrev n_law : List Str := ["_law_script", "_law_turn"]
abbrev p_law : List Str := ["_law_script"]
theorem sc_is_number : FnScope n_is_number p_is_number (defScope s_is_number) := ⟨rfl, rfl, rfl, by decide +kernel, rfl, by decide +kernel, by decide +kernel⟩
theorem sc_is_goal : FnScope n_is_goal p_is_goal (defScope s_is_goal) := ⟨rfl, rfl, rfl, by decide +kernel, rfl, by decide +kernel, by decide +kernel⟩
theorem sc_are_arrows : FnScope n_are_arrows p_are_arrows (defScope s_are_arrows) := ⟨rfl, rfl, rfl, by decide +kernel, rfl, by decide +kernel, by decide +kernel⟩
theorem sc_are_stands : FnScope n_are_stands p_are_stands (defScope s_are_stands) := ⟨rfl, rfl, rfl, by decide +kernel, rfl, by decide +kernel, by decide +kernel⟩
theorem sc_is_row : FnScope n_is_row p_is_row (defScope s_is_row) := ⟨rfl, rfl, rfl, by decide +kernel, rfl, by decide +kernel, by decide +kernel⟩
theorem sc_Reader_init : FnScope n_Reader_init p_Reader_init (defScope s_Reader_init) := ⟨rfl, rfl, rfl, by decide +kernel, rfl, by decide +kernel, by decide +kernel⟩
theorem sc_Reader_signs : FnScope n_Reader_signs p_Reader_signs (defScope s_Reader_signs) := ⟨rfl, rfl, rfl, by decide +kernel, rfl, by decide +kernel, by decide +kernel⟩
theorem sc_Reader_arrows : FnScope n_Reader_arrows p_Reader_arrows (defScope s_Reader_arrows) := ⟨rfl, rfl, rfl, by decide +kernel, rfl, by decide +kernel, by decide +kernel⟩
theorem sc_Reader_ends : FnScope n_Reader_ends p_Reader_ends (defScope s_Reader_ends) := ⟨rfl, rfl, rfl, by decide +kernel, rfl, by decide +kernel, by decide +kernel⟩
theorem sc_Reader_eq : FnScope n_Reader_eq p_Reader_eq (defScope s_Reader_eq) := ⟨rfl, rfl, rfl, by decide +kernel, rfl, by decide +kernel, by decide +kernel⟩
theorem sc_Reader_len : FnScope n_Reader_len p_Reader_len (defScope s_Reader_len) := ⟨rfl, rfl, rfl, by decide +kernel, rfl, by decide +kernel, by decide +kernel⟩
theorem sc_Reader_repr : FnScope n_Reader_repr p_Reader_repr (defScope s_Reader_repr) := ⟨rfl, rfl, rfl, by decide +kernel, rfl, by decide +kernel, by decide +kernel⟩
theorem sc_is_signs : FnScope n_is_signs p_is_signs (defScope s_is_signs) := ⟨rfl, rfl, rfl, by decide +kernel, rfl, by decide +kernel, by decide +kernel⟩
theorem sc_check_signs : FnScope n_check_signs p_check_signs (defScope s_check_signs) := ⟨rfl, rfl, rfl, by decide +kernel, rfl, by decide +kernel, by decide +kernel⟩
theorem sc_check_reader : FnScope n_check_reader p_check_reader (defScope s_check_reader) := ⟨rfl, rfl, rfl, by decide +kernel, rfl, by decide +kernel, by decide +kernel⟩
theorem sc_check_row : FnScope n_check_row p_check_row (defScope s_check_row) := ⟨rfl, rfl, rfl, by decide +kernel, rfl, by decide +kernel, by decide +kernel⟩
theorem sc_goal_by : FnScope n_goal_by p_goal_by (defScope s_goal_by) := ⟨rfl, rfl, rfl, by decide +kernel, rfl, by decide +kernel, by decide +kernel⟩
theorem sc_reached : FnScope n_reached p_reached (defScope s_reached) := ⟨rfl, rfl, rfl, by decide +kernel, rfl, by decide +kernel, by decide +kernel⟩
theorem sc_turned_back : FnScope n_turned_back p_turned_back (defScope s_turned_back) := ⟨rfl, rfl, rfl, by decide +kernel, rfl, by decide +kernel, by decide +kernel⟩
theorem sc_useful_of : FnScope n_useful_of p_useful_of (defScope s_useful_of) := ⟨rfl, rfl, rfl, by decide +kernel, rfl, by decide +kernel, by decide +kernel⟩
theorem sc_kinds_of : FnScope n_kinds_of p_kinds_of (defScope s_kinds_of) := ⟨rfl, rfl, rfl, by decide +kernel, rfl, by decide +kernel, by decide +kernel⟩
theorem sc_least_of : FnScope n_least_of p_least_of (defScope s_least_of) := ⟨rfl, rfl, rfl, by decide +kernel, rfl, by decide +kernel, by decide +kernel⟩
theorem sc_made : FnScope n_made p_made (defScope s_made) := ⟨rfl, rfl, rfl, by decide +kernel, rfl, by decide +kernel, by decide +kernel⟩
theorem sc_first_row_to : FnScope n_first_row_to p_first_row_to (defScope s_first_row_to) := ⟨rfl, rfl, rfl, by decide +kernel, rfl, by decide +kernel, by decide +kernel⟩
theorem sc_led_to : FnScope n_led_to p_led_to (defScope s_led_to) := ⟨rfl, rfl, rfl, by decide +kernel, rfl, by decide +kernel, by decide +kernel⟩
theorem sc_says : FnScope n_says p_says (defScope s_says) := ⟨rfl, rfl, rfl, by decide +kernel, rfl, by decide +kernel, by decide +kernel⟩
theorem sc_no_rows : FnScope n_no_rows p_no_rows (defScope s_no_rows) := ⟨rfl, rfl, rfl, by decide +kernel, rfl, by decide +kernel, by decide +kernel⟩
theorem sc_goal_of : FnScope n_goal_of p_goal_of (defScope s_goal_of) := ⟨rfl, rfl, rfl, by decide +kernel, rfl, by decide +kernel, by decide +kernel⟩
theorem sc_Watcher_init : FnScope n_Watcher_init p_Watcher_init (defScope s_Watcher_init) := ⟨rfl, rfl, rfl, by decide +kernel, rfl, by decide +kernel, by decide +kernel⟩
theorem sc_Watcher_signs : FnScope n_Watcher_signs p_Watcher_signs (defScope s_Watcher_signs) := ⟨rfl, rfl, rfl, by decide +kernel, rfl, by decide +kernel, by decide +kernel⟩
theorem sc_Watcher_arrows : FnScope n_Watcher_arrows p_Watcher_arrows (defScope s_Watcher_arrows) := ⟨rfl, rfl, rfl, by decide +kernel, rfl, by decide +kernel, by decide +kernel⟩
theorem sc_Watcher_marks : FnScope n_Watcher_marks p_Watcher_marks (defScope s_Watcher_marks) := ⟨rfl, rfl, rfl, by decide +kernel, rfl, by decide +kernel, by decide +kernel⟩
theorem sc_Watcher_len : FnScope n_Watcher_len p_Watcher_len (defScope s_Watcher_len) := ⟨rfl, rfl, rfl, by decide +kernel, rfl, by decide +kernel, by decide +kernel⟩
theorem sc_Watcher_bool : FnScope n_Watcher_bool p_Watcher_bool (defScope s_Watcher_bool) := ⟨rfl, rfl, rfl, by decide +kernel, rfl, by decide +kernel, by decide +kernel⟩
theorem sc_Watcher_eq : FnScope n_Watcher_eq p_Watcher_eq (defScope s_Watcher_eq) := ⟨rfl, rfl, rfl, by decide +kernel, rfl, by decide +kernel, by decide +kernel⟩
theorem sc_watcher_with : FnScope n_watcher_with p_watcher_with (defScope s_watcher_with) := ⟨rfl, rfl, rfl, by decide +kernel, rfl, by decide +kernel, by decide +kernel⟩
theorem sc_check_watcher : FnScope n_check_watcher p_check_watcher (defScope s_check_watcher) := ⟨rfl, rfl, rfl, by decide +kernel, rfl, by decide +kernel, by decide +kernel⟩
theorem sc_check_watchers : FnScope n_check_watchers p_check_watchers (defScope s_check_watchers) := ⟨rfl, rfl, rfl, by decide +kernel, rfl, by decide +kernel, by decide +kernel⟩
theorem sc_passed : FnScope n_passed p_passed (defScope s_passed) := ⟨rfl, rfl, rfl, by decide +kernel, rfl, by decide +kernel, by decide +kernel⟩
theorem sc_watched : FnScope n_watched p_watched (defScope s_watched) := ⟨rfl, rfl, rfl, by decide +kernel, rfl, by decide +kernel, by decide +kernel⟩
theorem sc_watches : FnScope n_watches p_watches (defScope s_watches) := ⟨rfl, rfl, rfl, by decide +kernel, rfl, by decide +kernel, by decide +kernel⟩
theorem sc_back_row : FnScope n_back_row p_back_row (defScope s_back_row) := ⟨rfl, rfl, rfl, by decide +kernel, rfl, by decide +kernel, by decide +kernel⟩
theorem sc_paired : FnScope n_paired p_paired (defScope s_paired) := ⟨rfl, rfl, rfl, by decide +kernel, rfl, by decide +kernel, by decide +kernel⟩
theorem sc_loop_apart : FnScope n_loop_apart p_loop_apart (defScope s_loop_apart) := ⟨rfl, rfl, rfl, by decide +kernel, rfl, by decide +kernel, by decide +kernel⟩
theorem sc_loop_unlike : FnScope n_loop_unlike p_loop_unlike (defScope s_loop_unlike) := ⟨rfl, rfl, rfl, by decide +kernel, rfl, by decide +kernel, by decide +kernel⟩
theorem sc_unlike_loop : FnScope n_unlike_loop p_unlike_loop (defScope s_unlike_loop) := ⟨rfl, rfl, rfl, by decide +kernel, rfl, by decide +kernel, by decide +kernel⟩
theorem sc_same_loops : FnScope n_same_loops p_same_loops (defScope s_same_loops) := ⟨rfl, rfl, rfl, by decide +kernel, rfl, by decide +kernel, by decide +kernel⟩
theorem sc_dealt : FnScope n_dealt p_dealt (defScope s_dealt) := ⟨rfl, rfl, rfl, by decide +kernel, rfl, by decide +kernel, by decide +kernel⟩
theorem sc_is_good : FnScope n_is_good p_is_good (defScope s_is_good) := ⟨rfl, rfl, rfl, by decide +kernel, rfl, by decide +kernel, by decide +kernel⟩
theorem sc_loops_behind : FnScope n_loops_behind p_loops_behind (defScope s_loops_behind) := ⟨rfl, rfl, rfl, by decide +kernel, rfl, by decide +kernel, by decide +kernel⟩
theorem sc_watcher_of : FnScope n_watcher_of p_watcher_of (defScope s_watcher_of) := ⟨rfl, rfl, rfl, by decide +kernel, rfl, by decide +kernel, by decide +kernel⟩
theorem sc_least_by : FnScope n_least_by p_least_by (defScope s_least_by) := ⟨rfl, rfl, rfl, by decide +kernel, rfl, by decide +kernel, by decide +kernel⟩
theorem sc_least : FnScope n_least p_least (defScope s_least) := ⟨rfl, rfl, rfl, by decide +kernel, rfl, by decide +kernel, by decide +kernel⟩
theorem sc_L_vial_of : FnScope n_L_vial_of p_L_vial_of (defScope s_L_vial_of) := ⟨rfl, rfl, rfl, by decide +kernel, rfl, by decide +kernel, by decide +kernel⟩
theorem sc_L_drip : FnScope n_L_drip p_L_drip (defScope s_L_drip) := ⟨rfl, rfl, rfl, by decide +kernel, rfl, by decide +kernel, by decide +kernel⟩
theorem sc_L_draw : FnScope n_L_draw p_L_draw (defScope s_L_draw) := ⟨rfl, rfl, rfl, by decide +kernel, rfl, by decide +kernel, by decide +kernel⟩
theorem sc_L_arrows : FnScope n_L_arrows p_L_arrows (defScope s_L_arrows) := ⟨rfl, rfl, rfl, by decide +kernel, rfl, by decide +kernel, by decide +kernel⟩
theorem sc_L_lot : FnScope n_L_lot p_L_lot (defScope s_L_lot) := ⟨rfl, rfl, rfl, by decide +kernel, rfl, by decide +kernel, by decide +kernel⟩
theorem sc_L_rows : FnScope n_L_rows p_L_rows (defScope s_L_rows) := ⟨rfl, rfl, rfl, by decide +kernel, rfl, by decide +kernel, by decide +kernel⟩
theorem sc_L_goes : FnScope n_L_goes p_L_goes (defScope s_L_goes) := ⟨rfl, rfl, rfl, by decide +kernel, rfl, by decide +kernel, by decide +kernel⟩
theorem sc_L_watched : FnScope n_L_watched p_L_watched (defScope s_L_watched) := ⟨rfl, rfl, rfl, by decide +kernel, rfl, by decide +kernel, by decide +kernel⟩
theorem sc_L_start_right : FnScope n_L_start_right p_L_start_right (defScope s_L_start_right) := ⟨rfl, rfl, rfl, by decide +kernel, rfl, by decide +kernel, by decide +kernel⟩
theorem sc_L_reader_right : FnScope n_L_reader_right p_L_reader_right (defScope s_L_reader_right) := ⟨rfl, rfl, rfl, by decide +kernel, rfl, by decide +kernel, by decide +kernel⟩
theorem sc_L_right : FnScope n_L_right p_L_right (defScope s_L_right) := ⟨rfl, rfl, rfl, by decide +kernel, rfl, by decide +kernel, by decide +kernel⟩
theorem sc_law : FnScope n_law p_law (defScope s_law) := ⟨rfl, rfl, rfl, by decide +kernel, rfl, by decide +kernel, by decide +kernel⟩
end RK
/-! HK: the head: a Hook that tells each def of the text by its address, and what else is asked of the top's objects. -/
namespace RK
open PySem PySem.Spec PyProof.Rows L2
abbrev FnP (K : PySem.W.Frag) (x qual : Str) (st : Stmt) (f : Addr) (fd : FuncData) : Prop := FunD K x qual (defArgs st) (defBody st) (defScope st) [] [] f fd
/-- a def of the text: where it stands, its names, its statement -/
structure DefA where
  addr : PySem.W.Frag → Addr
  name : Str
  qual : Str
  st : Stmt
/-- the same as the library's heads tell defs by their addresses -/
def DefA.lib (d : DefA) : He5.DefA := { at_ := d.addr, name := d.name, qual := d.qual, params := defArgs d.st, body := defBody d.st, scope := defScope d.st }
/-! ### facts as Bools -/
def gloB (K : PySem.W.Frag) (x : Str) : Bool := He.Fa.ok K (.glo x)
def prA (K : PySem.W.Frag) (C : Addr) (f : Str) : Addr := He.ma K C f
def prG (K : PySem.W.Frag) (C : Addr) (f : Str) : Addr := match PySem.W.recIn K (prA K C f) "property" with
  | some (.ref g :: _) => g
  | _ => 0
def propB (K : PySem.W.Frag) (C : Addr) (f : Str) : Bool := He.eqO (PySem.W.findIn K (.ref C) f) (some (some (.ref (prA K C f)))) &&
  (He.eqO (PySem.W.specialIn K (.ref (prA K C f)) "__get__") (some (some (.builtin "property.__get__"))) && (decide (PySem.W.takesIn K (.ref (prA K C f)) = some true) &&
  (match PySem.W.recIn K (prA K C f) "property" with
  | some (.ref _ :: _) => true
  | _ => false)))
theorem propB_ok {K : PySem.W.Frag} {C : Addr} {f : Str} (h : propB K C f = true) : PropOf K C f (prA K C f) (prG K C f) := by
  obtain ⟨h1, h⟩ := He.ba h
  obtain ⟨h2, h⟩ := He.ba h
  obtain ⟨h3, h4⟩ := He.ba h
  refine ⟨He.eqO_ok h1, He.eqO_ok h2, of_decide_eq_true h3, ?_⟩
  unfold prG
  split at h4
  · rename_i g rest e
    exact ⟨rest, by rw [e]⟩
  · cases h4
/-- what isinstance asks of a class: how "__class__" is found, and that it is an object's -/
def isiB (K : PySem.W.Frag) (C : Addr) : Bool := He.eqO (PySem.W.findIn K (.ref C) "__class__") (some (some (.builtin "object.__class__"))) &&
  (He.eqO (PySem.W.specialIn K (.builtin "object.__class__") "__get__") (some (some (.builtin "getset_descriptor.__get__"))) && (decide (PySem.W.takesIn K (.builtin "object.__class__") = some true) && decide (PySem.W.mroIn K C (.type "object") = some true)))
theorem isi_obj {K : PySem.W.Frag} {C : Addr} (h : isiB K C = true) : PySem.W.mroIn K C (.type "object") = some true := of_decide_eq_true (He.ba (He.ba (He.ba h).2).2).2
theorem isi_ty {K : PySem.W.Frag} {C a dx : Addr} {H : Hp} {fs : List (Str × V)} (h : isiB K C = true) (c : Cls K C) (e : H a = some (.ins C dx fs)) : TyOf K H (.ref a) (.ref C) := by
  obtain ⟨found, rest⟩ := He.ba h
  obtain ⟨get, rest⟩ := He.ba rest
  exact .ins e c (He.eqO_ok found) (He.eqO_ok get) (of_decide_eq_true (He.ba rest).1) (isi_obj h)
def neB (K : PySem.W.Frag) (C : Addr) : Bool := He.eqO (PySem.W.findIn K (.ref C) "__ne__") (some (some (.builtin "object.__ne__")))
/-! ### the Hook -/
/-- what is looked at: a Bool of one's own and the defs' Bools, the defs' values -/
abbrev Sight : Type := Bool × List He.FnW
def sight (ok : PySem.W.Frag → Bool) (fn : List DefA) (K : PySem.W.Frag) : Sight := ⟨ok K && fn.all fun d => d.lib.ok K, fn.map fun d => He5.fnA K (d.addr K)⟩
def due (fn : List DefA) : Sight := ⟨true, fn.map fun d => d.lib.val⟩
def SaysA (ok : PySem.W.Frag → Bool) (fn : List DefA) (K : PySem.W.Frag) : Prop := sight ok fn K = due fn
def seen (n : Nat) (ok : PySem.W.Frag → Bool) (fn : List DefA) (g : Addr → Option Obj) : Sight := sight ok fn (He.frG g (He.asD g n))
def hookA (n : Nat) (ok : PySem.W.Frag → Bool) (fn : List DefA) : PySem.W.Hook where
  α := Sight
  obs s := seen n ok fn s.heap.get?
  val _ := due fn
  says _ h := ∃ K, PySem.W.Frag.In K h ∧ SaysA ok fn K
  of _ _ same := ⟨_, He.frG_in, same⟩
  keeps := by
    rintro _ _ _ ⟨K, top, says⟩ old
    exact ⟨K, top.keeps old, says⟩
theorem seen_eq {n : Nat} {ok : PySem.W.Frag → Bool} {fn : List DefA} {g : Addr → Option Obj} {s : Shared} (same : ∀ a, g a = s.heap.get? a) : seen n ok fn g = (hookA n ok fn).obs s := by
  obtain rfl : g = s.heap.get? := funext same
  rfl
section
variable {ok : PySem.W.Frag → Bool} {fn : List DefA} {K : PySem.W.Frag}
theorem SaysA.both (c : SaysA ok fn K) : ok K = true ∧ (fn.all fun d => d.lib.ok K) = true := He.ba (congrArg (fun z : Sight => z.1) c)
theorem SaysA.more (c : SaysA ok fn K) : ok K = true := c.both.1
theorem SaysA.def_ (c : SaysA ok fn K) (i : Nat) {d : DefA} (h : fn[i]? = some d := by rfl) : ∃ fd, FnP K d.name d.qual d.st (d.addr K) fd := by
  have val : some (He5.fnA K (d.addr K)) = some d.lib.val := by
    have z := congrArg (fun z : Sight => z.2[i]?) c
    simpa only [sight, due, List.getElem?_map, h, Option.map_some] using z
  exact He5.DefA.funD (d := d.lib) (Option.some.inj val) (List.all_eq_true.mp c.both.2 d (List.mem_of_getElem? h))
end
def d_is_number : DefA := ⟨fun K => He.ga K "is_number", "is_number", "is_number", s_is_number⟩
def d_is_goal : DefA := ⟨fun K => He.ga K "is_goal", "is_goal", "is_goal", s_is_goal⟩
def d_are_arrows : DefA := ⟨fun K => He.ga K "are_arrows", "are_arrows", "are_arrows", s_are_arrows⟩
def d_are_stands : DefA := ⟨fun K => He.ga K "are_stands", "are_stands", "are_stands", s_are_stands⟩
def d_is_row : DefA := ⟨fun K => He.ga K "is_row", "is_row", "is_row", s_is_row⟩
def d_is_signs : DefA := ⟨fun K => He.ga K "is_signs", "is_signs", "is_signs", s_is_signs⟩
def d_check_signs : DefA := ⟨fun K => He.ga K "check_signs", "check_signs", "check_signs", s_check_signs⟩
def d_check_reader : DefA := ⟨fun K => He.ga K "check_reader", "check_reader", "check_reader", s_check_reader⟩
def d_check_row : DefA := ⟨fun K => He.ga K "check_row", "check_row", "check_row", s_check_row⟩
def d_goal_by : DefA := ⟨fun K => He.ga K "goal_by", "goal_by", "goal_by", s_goal_by⟩
def d_reached : DefA := ⟨fun K => He.ga K "reached", "reached", "reached", s_reached⟩
def d_turned_back : DefA := ⟨fun K => He.ga K "turned_back", "turned_back", "turned_back", s_turned_back⟩
def d_useful_of : DefA := ⟨fun K => He.ga K "useful_of", "useful_of", "useful_of", s_useful_of⟩
def d_kinds_of : DefA := ⟨fun K => He.ga K "kinds_of", "kinds_of", "kinds_of", s_kinds_of⟩
def d_least_of : DefA := ⟨fun K => He.ga K "least_of", "least_of", "least_of", s_least_of⟩
def d_made : DefA := ⟨fun K => He.ga K "made", "made", "made", s_made⟩
def d_first_row_to : DefA := ⟨fun K => He.ga K "first_row_to", "first_row_to", "first_row_to", s_first_row_to⟩
def d_led_to : DefA := ⟨fun K => He.ga K "led_to", "led_to", "led_to", s_led_to⟩
def d_says : DefA := ⟨fun K => He.ga K "says", "says", "says", s_says⟩
def d_no_rows : DefA := ⟨fun K => He.ga K "no_rows", "no_rows", "no_rows", s_no_rows⟩
def d_goal_of : DefA := ⟨fun K => He.ga K "goal_of", "goal_of", "goal_of", s_goal_of⟩
def d_watcher_with : DefA := ⟨fun K => He.ga K "watcher_with", "watcher_with", "watcher_with", s_watcher_with⟩
def d_check_watcher : DefA := ⟨fun K => He.ga K "check_watcher", "check_watcher", "check_watcher", s_check_watcher⟩
def d_check_watchers : DefA := ⟨fun K => He.ga K "check_watchers", "check_watchers", "check_watchers", s_check_watchers⟩
def d_passed : DefA := ⟨fun K => He.ga K "passed", "passed", "passed", s_passed⟩
def d_watched : DefA := ⟨fun K => He.ga K "watched", "watched", "watched", s_watched⟩
def d_watches : DefA := ⟨fun K => He.ga K "watches", "watches", "watches", s_watches⟩
def d_back_row : DefA := ⟨fun K => He.ga K "back_row", "back_row", "back_row", s_back_row⟩
def d_paired : DefA := ⟨fun K => He.ga K "paired", "paired", "paired", s_paired⟩
def d_loop_apart : DefA := ⟨fun K => He.ga K "loop_apart", "loop_apart", "loop_apart", s_loop_apart⟩
def d_loop_unlike : DefA := ⟨fun K => He.ga K "loop_unlike", "loop_unlike", "loop_unlike", s_loop_unlike⟩
def d_unlike_loop : DefA := ⟨fun K => He.ga K "unlike_loop", "unlike_loop", "unlike_loop", s_unlike_loop⟩
def d_same_loops : DefA := ⟨fun K => He.ga K "same_loops", "same_loops", "same_loops", s_same_loops⟩
def d_dealt : DefA := ⟨fun K => He.ga K "dealt", "dealt", "dealt", s_dealt⟩
def d_is_good : DefA := ⟨fun K => He.ga K "is_good", "is_good", "is_good", s_is_good⟩
def d_loops_behind : DefA := ⟨fun K => He.ga K "loops_behind", "loops_behind", "loops_behind", s_loops_behind⟩
def d_watcher_of : DefA := ⟨fun K => He.ga K "watcher_of", "watcher_of", "watcher_of", s_watcher_of⟩
def d_least_by : DefA := ⟨fun K => He.ga K "least_by", "least_by", "least_by", s_least_by⟩
def d_least : DefA := ⟨fun K => He.ga K "least", "least", "least", s_least⟩
def d_L_vial_of : DefA := ⟨fun K => He.ga K "_law_vial_of", "_law_vial_of", "_law_vial_of", s_L_vial_of⟩
def d_L_drip : DefA := ⟨fun K => He.ga K "_law_drip", "_law_drip", "_law_drip", s_L_drip⟩
def d_L_draw : DefA := ⟨fun K => He.ga K "_law_draw", "_law_draw", "_law_draw", s_L_draw⟩
def d_L_arrows : DefA := ⟨fun K => He.ga K "_law_arrows", "_law_arrows", "_law_arrows", s_L_arrows⟩
def d_L_lot : DefA := ⟨fun K => He.ga K "_law_lot", "_law_lot", "_law_lot", s_L_lot⟩
def d_L_rows : DefA := ⟨fun K => He.ga K "_law_rows", "_law_rows", "_law_rows", s_L_rows⟩
def d_L_goes : DefA := ⟨fun K => He.ga K "_law_goes", "_law_goes", "_law_goes", s_L_goes⟩
def d_L_watched : DefA := ⟨fun K => He.ga K "_law_watched", "_law_watched", "_law_watched", s_L_watched⟩
def d_L_start_right : DefA := ⟨fun K => He.ga K "_law_start_right", "_law_start_right", "_law_start_right", s_L_start_right⟩
def d_L_reader_right : DefA := ⟨fun K => He.ga K "_law_reader_right", "_law_reader_right", "_law_reader_right", s_L_reader_right⟩
def d_L_right : DefA := ⟨fun K => He.ga K "_law_right", "_law_right", "_law_right", s_L_right⟩
def d_law : DefA := ⟨fun K => He.ga K "law", "law", "law", s_law⟩
def d_Reader_init : DefA := ⟨fun K => He.ma K (He.ga K "Reader") "__init__", "__init__", "Reader.__init__", s_Reader_init⟩
def d_Reader_signs : DefA := ⟨fun K => prG K (He.ga K "Reader") "signs", "signs", "Reader.signs", s_Reader_signs⟩
def d_Reader_arrows : DefA := ⟨fun K => prG K (He.ga K "Reader") "arrows", "arrows", "Reader.arrows", s_Reader_arrows⟩
def d_Reader_ends : DefA := ⟨fun K => prG K (He.ga K "Reader") "ends", "ends", "Reader.ends", s_Reader_ends⟩
def d_Reader_eq : DefA := ⟨fun K => He.ma K (He.ga K "Reader") "__eq__", "__eq__", "Reader.__eq__", s_Reader_eq⟩
def d_Watcher_init : DefA := ⟨fun K => He.ma K (He.ga K "Watcher") "__init__", "__init__", "Watcher.__init__", s_Watcher_init⟩
def d_Watcher_signs : DefA := ⟨fun K => prG K (He.ga K "Watcher") "signs", "signs", "Watcher.signs", s_Watcher_signs⟩
def d_Watcher_arrows : DefA := ⟨fun K => prG K (He.ga K "Watcher") "arrows", "arrows", "Watcher.arrows", s_Watcher_arrows⟩
def d_Watcher_marks : DefA := ⟨fun K => prG K (He.ga K "Watcher") "marks", "marks", "Watcher.marks", s_Watcher_marks⟩
def d_Watcher_len : DefA := ⟨fun K => He.ma K (He.ga K "Watcher") "__len__", "__len__", "Watcher.__len__", s_Watcher_len⟩
def fnL1 : List DefA := [d_is_number, d_is_goal, d_are_arrows, d_are_stands, d_is_row, d_is_signs, d_check_signs, d_check_reader, d_check_row, d_goal_by, d_reached, d_turned_back, d_useful_of, d_kinds_of, d_least_of, d_made, d_first_row_to, d_led_to, d_says, d_no_rows, d_goal_of, d_watcher_with, d_check_watcher, d_check_watchers, d_passed, d_watched, d_watches, d_back_row, d_paired, d_loop_apart]
def fnL2 : List DefA := [d_loop_unlike, d_unlike_loop, d_same_loops, d_dealt, d_is_good, d_loops_behind, d_watcher_of, d_least_by, d_least, d_L_vial_of, d_L_drip, d_L_draw, d_L_arrows, d_L_lot, d_L_rows, d_L_goes, d_L_watched, d_L_start_right, d_L_reader_right, d_L_right, d_law, d_Reader_init, d_Reader_signs, d_Reader_arrows, d_Reader_ends, d_Reader_eq, d_Watcher_init, d_Watcher_signs, d_Watcher_arrows, d_Watcher_marks]
def fnL3 : List DefA := [d_Watcher_len]
def fnL : List DefA := fnL1 ++ (fnL2 ++ fnL3)
def glos1_0 : List Str := ["is_number", "is_goal", "are_arrows", "are_stands", "is_row", "is_signs", "check_signs", "check_reader", "check_row", "goal_by", "reached", "turned_back", "useful_of", "kinds_of", "least_of", "made"]
def glos1_1 : List Str := ["first_row_to", "led_to", "says", "no_rows", "goal_of", "watcher_with", "check_watcher", "check_watchers", "passed", "watched", "watches", "back_row", "paired", "loop_apart", "loop_unlike", "unlike_loop"]
def glos1_2 : List Str := ["same_loops", "dealt", "is_good"]
def glos1 : List Str := glos1_0 ++ glos1_1 ++ glos1_2
def glos2_0 : List Str := ["loops_behind", "watcher_of", "least_by", "least", "_law_vial_of", "_law_drip", "_law_draw", "_law_arrows", "_law_lot", "_law_rows", "_law_goes", "_law_watched", "_law_start_right", "_law_reader_right", "_law_right", "law"]
def glos2_1 : List Str := ["Reader", "Watcher"]
def glos2 : List Str := glos2_0 ++ glos2_1
def frees_0 : List Str := ["isinstance", "int", "bool", "tuple", "len", "all", "range", "str", "list", "set", "sorted", "enumerate", "any", "abs", "divmod", "repr"]
def frees_1 : List Str := ["max", "min"]
def frees : List Str := frees_0 ++ frees_1
def okC (K : PySem.W.Frag) (x : Str) : Bool := He.Fa.ok K (.cls x) && (He.Fa.ok K (.noat x "parts") && (He.Fa.ok K (.mkr x) && (He.Fa.ok K (.keep x) && (isiB K (He.ga K x) && neB K (He.ga K x)))))
def okL (K : PySem.W.Frag) : Bool := (glos1.all (gloB K)) && ((glos2.all (gloB K)) && ((frees.all fun x => He.Fa.ok K (.free x)) &&
  ((He.Fa.ok K (.int "MOST_SIGNS" 8) && (He.Fa.ok K (.int "MOST_STANDS" 200) && (He.Fa.ok K (.int "MOST_ROW" 200) && He.Fa.ok K (.str "ALPHABET" "abcdefgh")))) &&
  ((okC K "Reader" && okC K "Watcher") && ((propB K (He.ga K "Reader") "signs" && (propB K (He.ga K "Reader") "arrows" && propB K (He.ga K "Reader") "ends")) &&
  ((propB K (He.ga K "Watcher") "signs" && (propB K (He.ga K "Watcher") "arrows" && propB K (He.ga K "Watcher") "marks")) &&
  (He.Fa.ok K (.meth "Reader" "__eq__") && He.Fa.ok K (.meth "Watcher" "__len__"))))))))
def loose1_0 : List PySem.Str := ["WrongValue", "NoAnswer", "InvalidSigns", "InvalidArrows", "InvalidEnds", "InvalidRow", "InvalidMarks", "NotAReader", "NotAWatcher", "UnlikeSigns", "TooMany", "MOST_SIGNS", "MOST_STANDS", "MOST_ROW", "ALPHABET", "is_number"]
def loose1_1 : List PySem.Str := ["is_goal", "are_arrows", "are_stands", "is_row", "Reader", "is_signs", "check_signs", "check_reader", "check_row", "goal_by", "reached", "turned_back", "useful_of", "kinds_of", "least_of", "made"]
def loose1_2 : List PySem.Str := ["first_row_to", "led_to", "says", "no_rows"]
def loose1 : List PySem.Str := loose1_0 ++ loose1_1 ++ loose1_2
def loose2_0 : List PySem.Str := ["goal_of", "Watcher", "watcher_with", "check_watcher", "check_watchers", "passed", "watched", "watches", "back_row", "paired", "loop_apart", "loop_unlike", "unlike_loop", "same_loops", "dealt", "is_good"]
def loose2_1 : List PySem.Str := ["loops_behind", "watcher_of", "least_by", "least", "_law_vial_of", "_law_drip", "_law_draw", "_law_arrows", "_law_lot", "_law_rows", "_law_goes", "_law_watched", "_law_start_right", "_law_reader_right", "_law_right", "__name__"]
def loose2 : List PySem.Str := loose2_0 ++ loose2_1
def loose : List PySem.Str := loose1 ++ loose2
end RK
namespace RK
open PySem PySem.Spec PyProof.Rows L2
abbrev R : PySem.W.OpenRow := PySem.W.OpenLaw.row PySem.Challenge.rw_rowreaders_k80_whole_loops_behind_starts
abbrev hk : PySem.W.Hook := hookA 7 okL fnL
def ob (s : PySem.W.SharedT) : Sight := seen 7 okL fnL (HandSHeadRun.getT s)
theorem ob_eq (s : PySem.W.SharedT) : ob s = hk.obs s.abs := seen_eq (HandSHeadRun.getT_eq s)
theorem run (w : World) : HandSHeadRun.RunEq R (PySem.W.view R.prog [73]) hk ob 20000 loose w := by
  intro os
  kernel_rfl
end RK
/-! R0: a promise at one place of the machine, and a call of it. -/
namespace RK
open PySem PySem.Spec PyProof.Rows L2
/-- a promise at one place A of the machine -/
def KeptAt (P : Program) (w : World) (K : PySem.W.Frag) (mg : Str → Option Value) (base : Heap) (CX : CXT) (f : Addr) (fd : FuncData) (ps : List Str) (sp : Sp) (A : Around) : Prop :=
  ∀ (out : List Env) (s : Shared) (H : Hp) (given : Args) (us : List Value) (vs : List V) (Q : VK) (E : XK), Env0 P w K mg base A out s H → BindsTo s fd given (ps.zip us) → Vals vs us → sp vs H Q E →
    codeAny (model P w) A (.call (.ref f) given) (CR CX out P w H s Q E) s
section
variable {X : Cx} {CX : CXT} {k : Nat} {f : Addr} {fd : FuncData} {ps : List Str} {sp : Sp} {E : XK}
/-- a call's end, seen by the caller -/
theorem cr_back {pins : List (Addr × Obj)} {σ : L2.St} {H : Hp} {s s' : Shared} {Q : VK} {r : Result} {R : Value → Shared → Prop} (hx : Passes CX X E) (I : L2.Inv X pins σ H s) (ret : ∀ u, CE X.stack X.prog X.w H s Q u s' → R u s') (c : CR CX X.stack X.prog X.w H s Q E r s') :
    match r with | .ok (.ret u) => R u s' | .ok _ => False | .error e => X.xe e s' := by
  match r, c with
  | .error _, c => exact hx pins σ H s _ s' I c
  | .ok (.ret u), c => exact ret u c
  | .ok .next, c => exact c
  | .ok .brk, c => exact c
  | .ok .cont, c => exact c
/-- f called at A with values and keywords that are bound so -/
theorem KeptAt.callKw {A : Around} {pins : List (Addr × Obj)} {σ : L2.St} {H : Hp} {s : Shared} {Q : VK} {R : Value → Shared → Prop} {pos us : List Value} {kw : List (Str × Value)} {vs : List V} (F : KeptAt X.prog X.w X.K X.mg X.base CX f fd ps sp A) (e0 : Env0 X.prog X.w X.K X.mg X.base A X.stack s H) (given : BindsTo s fd ⟨pos, kw⟩ (ps.zip us))
    (hx : Passes CX X E) (I : L2.Inv X pins σ H s) (rel : Vals vs us) (want : sp vs H Q E) (ret : ∀ s' u, CE X.stack X.prog X.w H s Q u s' → R u s') : wpAny (model X.prog X.w) A (call (.ref f) pos kw) R X.xe s := by
  refine wpAny_call (codeAny_mono (F X.stack s H _ us vs Q E e0 given rel want) ?_)
  intro r s' c
  have z := cr_back hx I (ret s') c
  cases r with
  | error _ => exact z
  | ok fl => cases fl <;> exact z
theorem KeptAt.call {A : Around} {pins : List (Addr × Obj)} {σ : L2.St} {H : Hp} {s : Shared} {Q : VK} {R : Value → Shared → Prop} {us : List Value} {vs : List V} (F : KeptAt X.prog X.w X.K X.mg X.base CX f fd ps sp A) (e0 : Env0 X.prog X.w X.K X.mg X.base A X.stack s H) (same : us.length = ps.length) (hb : Binds X.K fd ps [])
    (hx : Passes CX X E) (I : L2.Inv X pins σ H s) (rel : Vals vs us) (want : sp vs H Q E) (ret : ∀ s' u, CE X.stack X.prog X.w H s Q u s' → R u s') : wpAny (model X.prog X.w) A (call (.ref f) us) R X.xe s := by
  have given := hb s us I.kIn
  rw [List.append_nil] at given
  exact F.callKw e0 (given same) hx I rel want ret
theorem fnOk_at {P : Program} {w : World} {K : PySem.W.Frag} {mg : Str → Option Value} {base : Heap} {A : Around} (F : FnOk P w K mg base CX k f fd ps sp) (hr : Room k A) : KeptAt P w K mg base CX f fd ps sp A :=
  fun out s H given us vs Q E => F.run A out s H given us vs Q E hr
end
/-- how f(e, ..) is written: plain arguments alone -/
abbrev Plainly (X : Cx) (x : Str) (e : Expr) (es : List Expr) (pos : Pos) : Prop :=
  (x == ("__debug__" : Str)) = false ∧ starEach (e :: es) X.env = (false, eval e X.env) :: starEach es X.env ∧ (backTo pos (starEach es X.env)).any (·.1) = false
end RK
/-! R1: two readings of one thing; tuple * int, text * int; list(d.values()), list(text). -/
namespace RK
open PySem PySem.Spec PyProof.Rows L2
/-! ### two readings of one thing -/
section
variable {X : Cx}
theorem PE.or {e : Expr} {t u : TE} (h : PE X e t) (k : PE X e u) : PE X e (fun σ H Q => t σ H Q ∨ u σ H Q) := ⟨fun pins s σ H Q I q => q.elim (h.run pins s σ H Q I) (k.run pins s σ H Q I)⟩
theorem PT.or {e : Expr} {t u : TT} (h : PT X e t) (k : PT X e u) : PT X e (fun σ H Q => t σ H Q ∨ u σ H Q) := ⟨fun pins s σ H Q I q => q.elim (h.run pins s σ H Q I) (k.run pins s σ H Q I)⟩
theorem PI.or {tg e : Expr} {t u : TI} (h : PI X tg e t) (k : PI X tg e u) : PI X tg e (fun σ H Q => t σ H Q ∨ u σ H Q) := ⟨fun pins s σ H Q I q => q.elim (h.run pins s σ H Q I) (k.run pins s σ H Q I)⟩
theorem PS.or {e : Stmt} {t u : TS} (h : PS X e t) (k : PS X e u) : PS X e (fun D σ H => t D σ H ∨ u D σ H) := ⟨fun pins s σ H D I q => q.elim (h.run pins s σ H D I) (k.run pins s σ H D I)⟩
end
/-! ### t * 1, t * k -/
theorem tuple_mul1 (l : Addr) (items : Array Value) (n : Nat) (dd : Option Addr) (sl : Array (Option Value)) (u : Tok) :
    Meets (Builtin.«tuple.__mul__» ⟨[.ref l, .int 1 u], []⟩) (fun _ R s => s.heap.get? l = some { cls := .type "tuple", dict := dd, data := .seq items n, slots := sl } ∧ R (.ok (.ret (.ref l))) s) :=
  .of_wp fun _ _ _ _ ⟨hp, g, d, tk, os⟩ ⟨here, want⟩ => by
    have index := AutoSeq1.idx_int
    have same : (items.isEmpty || (1 : Int) == 1) = true := by simp
    wp_walk using AutoSeq1.wpAny_loadPart' here
    exact ⟨_, rfl, want⟩
def rRepA (K : PySem.W.Frag) : R2 := fun x y H Q => ∃ l k xs, x = .ref l ∧ y = .int k ∧ SqT K H l xs ∧ xs ≠ [] ∧ xs.length ≤ 1000 ∧ ((k = 1 ∧ Q (.ref l) H) ∨ (2 ≤ k ∧ k ≤ 1000 ∧ ∀ p, H p = none → Q (.ref p) (upd H p (.tup (List.replicate k.toNat xs).flatten))))
section
variable {X : Cx}
theorem op_repA : OpR X (binaryOp .Mult) (rRepA X.K) := by
  rintro pins s σ H _ _ v u Q I rx ry ⟨l, k, xs, rfl, rfl, tup, some_, len, ⟨rfl, want⟩ | ⟨lo, hi, want⟩⟩
  · obtain ⟨t, rfl⟩ := ry
    cases rx
    obtain ⟨its, _, isT, _⟩ := I.tuple tup
    obtain ⟨⟨_, dd, _, sl⟩, here, (rfl : _ = Value.type "tuple"), n, (rfl : _ = Data.seq its.toArray n)⟩ := isT
    exact wpAny_binaryOp_repeat_ref (T := "tuple") (U := "int") (by decide) ⟨_, here, rfl⟩ (fun s1 => typeIs_int s1 1 t) noFill_tuple_mul F.fills_int_mul F.slot_int_rmul repeat_tuple F.slot_int_index.lookup
      (call_meets F.slot_int_rmul (typeIs_int s 1 t) F.entry_int_rmul (F.args_int_rmul_2 _ _) (int_rmul_tuple 1 t l its.toArray n dd sl) ⟨here, rfl, ⟨_, here, rfl⟩, call_meets F.slot_tuple_mul ⟨_, here, rfl⟩ F.entry_tuple_mul (F.args_tuple_mul_2 _ _) (tuple_mul1 l its.toArray n dd sl t) ⟨here, V.ref l, H, I, rfl, want⟩⟩)
  · exact op_repT pins s σ H _ _ v u Q I rx ry ⟨l, k, xs, rfl, rfl, tup, some_, lo, hi, len, want⟩
/-! ### text * n -/
def mulS (x : Str) (n : Int) : Str := Txt.mul x n
theorem op_mulS : OpR X (binaryOp .Mult) (fun x y H Q => ∃ a n, x = .str a ∧ y = .int n ∧ 0 ≤ n ∧ n ≤ 1000 ∧ a.length ≤ 1000 ∧ Q (.str (mulS a n)) H) := by
  rintro pins s σ H _ _ v u Q I rx ry ⟨a, n, rfl, rfl, lo, hi, len, want⟩
  obtain ⟨t, rfl⟩ := rx
  obtain ⟨t', rfl⟩ := ry
  apply SB.mul ⟨_, _, _⟩
  · exact fun t2 _ => ⟨.str _, H, I.tok _, ⟨_, rfl⟩, want⟩
  · have n1 : ¬ n < -(2 ^ 63) := by omega
    have n2 : ¬ n ≥ 2 ^ 63 := by omega
    simp [n1, n2]
    omega
  · intro pos _
    have quot : (1000 : Int) ≤ (2 ^ 63 - 1) / n := Int.le_ediv_of_mul_le (by omega) (by omega)
    omega
  · intro _ _
    have area : a.length * n.toNat ≤ 1000 * 1000 := Nat.mul_le_mul len (by omega)
    show decide (sizeLine < a.length * n.toNat) = false
    simp only [decide_eq_false_iff_not, sizeLine_eq]
    omega
/-! ### new lists of what an iterable tells -/
theorem laid_list {pins : List (Addr × Obj)} {σ : L2.St} {H : Hp} {s : Shared} {h : Heap} {tk c : Nat} {xs : List V} {its : Array Value} (I : L2.Inv X pins σ H s) (old : ∀ b o, s.heap.get? b = some o → h.get? b = some o) (few : xs.length ≤ sizeLine) (size : its.size = xs.length)
    (here : h.get? s.heap.objs.size = some { cls := .type "list", dict := none, data := .seq its c, slots := #[] }) (rel : ∀ (i : Nat) (x : V) (u : Value), xs[i]? = some x → its[i]? = some u → RelV x u) : L2.Inv X pins σ (upd H s.heap.objs.size (.lst xs)) { s with heap := h, toks := tk } := by
  obtain ⟨its⟩ := its
  have vals : Vals xs its := vals_of_at size.symm fun i x u e1 e2 => rel i x u e1 (by rw [List.getElem?_toArray]; exact e2)
  exact I.laid old (Nat.le_refl _) ⟨few, its, c, vals, here⟩
/-! ### list(d.values()) -/
def tListVals (td : TE) : TE := fun σ H Q => td σ H fun x H1 => ∃ a kvs, x = V.ref a ∧ H1 a = some (.dK kvs) ∧ ∀ p, H1 p = none → Q (.ref p) (upd H1 p (.lst (kvs.map (·.2))))
/-- the view -/
abbrev viewObj (a : Addr) : Obj := { cls := .type "dict_values", data := .fields #[.ref a] }
theorem ev_values {o : Expr} {apos mpos : Pos} {td : TE} {pins : List (Addr × Obj)} {σ : L2.St} {H : Hp} {s : Shared} {G : Addr → List (Key × V) → Hp → Prop} (hd : PE X o td) (base : attributeBase o "values" X.env (eval o X.env) = eval o X.env) (line : (apos.endLine == mpos.line) = true) (I : L2.Inv X pins σ H s)
    (want : td σ H fun x H1 => ∃ a kvs, x = V.ref a ∧ H1 a = some (.dK kvs) ∧ G a kvs H1) : wpAny (model X.prog X.w) X.A (eval (.Call (.Attribute o "values" apos) [] [] mpos) X.env) (fun v s2 => ∃ a kvs H1 s1, G a kvs H1 ∧ H1 a = some (.dK kvs) ∧ L2.Inv X pins σ H1 s1 ∧
      v = .ref s1.heap.objs.size ∧ s2 = { s1 with heap := s1.heap.push (viewObj a) }) X.xe s := by
  apply wpAny_Call_method0_late base line
  apply thn (hd.run pins s σ H _ I want)
  rintro _ s1 ⟨_, H1, I1, rel, a, kvs, rfl, at_a, g⟩
  cases rel
  obtain ⟨_, notSys, vs, _, dict⟩ := dk_of I1.hok at_a
  obtain ⟨ep, ⟨ob, es, here, exact_, _⟩⟩ := dict.dictAt
  refine ⟨"dict", _, F.plainAttrs_dict, F.slot_dict_values, F.type_dict_values, ⟨ob, here, exact_.1⟩, ?_, ?_⟩
  · rintro b ⟨⟩
    exact ⟨ob, here, exact_.2.1⟩
  · apply Calls.callWith_builtin rfl
    apply PySem.evalArgs_none
    exact call_meetsIn F.slot_dict_values ⟨ob, here, exact_.1⟩ F.entry_dict_values (F.args_dict_values_1 _) (meets_dict_values (mixKind X.prog X.w) a notSys) ⟨⟨vs, dict⟩, a, kvs, H1, s1, g, at_a, I1, rfl, rfl⟩
theorem pe_listVals {o : Expr} {p pos apos mpos : Pos} {td : TE} (calm : X.calm = true) (hg : Gl X "list") (hm : X.mg "list" = none) (hd : PE X o td) (base : attributeBase o "values" X.env (eval o X.env) = eval o X.env := by rfl) (line : (apos.endLine == mpos.line) = true := by rfl)
    (one : starEach [.Call (.Attribute o "values" apos) [] [] mpos] X.env = [(false, eval (.Call (.Attribute o "values" apos) [] [] mpos) X.env)] := by rfl) : PE X (.Call (.Name "list" p) [.Call (.Attribute o "values" apos) [] [] mpos] [] pos) (tListVals td) := by
  constructor
  intro pins s σ H Q I want
  refine Call_ (ld_blt I hg hm boot_list ?_)
  apply PyProof.Rows.callWith_type1 (args_cons _ one) one rfl
  apply thn (ev_values (G := fun (_ : Addr) (kvs : List (L2.Key × V)) (H1 : Hp) => ∀ p, H1 p = none → Q (.ref p) (upd H1 p (.lst (kvs.map fun (e : L2.Key × V) => e.2)))) hd base line I want)
  rintro _ _ ⟨a, kvs, H1, s1, g, at_a, I1, rfl, rfl⟩
  apply args_nil
  obtain ⟨len, _, vs, rel, dict⟩ := dk_of I1.hok at_a
  obtain ⟨ep, dictAt⟩ := dict.dictAt
  have same : kvs.length = vs.length := Paired.length rel
  have old : ∀ b u, s1.heap.get? b = some u → (s1.heap.push (viewObj a)).get? b = some u := fun _ _ e => Heap.get?_push_of_some _ e
  have I2 := I1.kept (t' := s1.toks) old
  apply PySem.W.kdl_call (PySem.W.kdl_values (knd := mixKind X.prog X.w) (kvs := vs) (ep := ep) (d := a)) (I1.ok.hd calm) ⟨⟨_, Heap.get?_push_size _ rfl, rfl, rfl⟩, dictAt.keep old⟩ (by omega)
  intro h3 tk items c old3 here told
  refine ⟨.ref _, _, laid_list I2 (xs := kvs.map fun e => e.2) old3 (by rw [List.length_map]; exact len) (by rw [List.length_map, told.1, same]) here ?_, rfl, g _ (I2.hok.fresh (Nat.le_refl _))⟩
  intro i x u e1 e2
  obtain ⟨k, at_i⟩ := told.2 i u e2
  obtain ⟨y, e3, r⟩ := KV.at' rel at_i
  rw [List.getElem?_map, e3] at e1
  cases e1
  exact r
/-! ### list(text) -/
theorem call_listS (calm : X.calm = true) : CallR X (.type "list") (fun xs H Q => ∃ z : Str, xs = [.str z] ∧ z.cps.size ≤ 1000 ∧ ∀ p, H p = none → Q (.ref p) (upd H p (.lst (z.cps.toList.map fun c => V.str ⟨#[c]⟩)))) := by
  rintro pins s σ H _ us Q I rel ⟨z, rfl, len, want⟩
  obtain ⟨_, rfl, t, rfl⟩ := vals1 rel
  have few : z.cps.size ≤ sizeLine := by
    rw [sizeLine_eq]
    omega
  apply call_list_str (hn := few) (I.ok.hd calm) z t
  intro h1 tk items c old here told
  refine ⟨.ref _, _, laid_list I (xs := z.cps.toList.map fun c => V.str ⟨#[c]⟩) old (by simpa using few) (by simpa using told.1) here ?_, rfl, want _ (I.hok.fresh (Nat.le_refl _))⟩
  intro i x u e1 e2
  obtain ⟨c, t2, at_i, rfl⟩ := told.2 i u e2
  rw [List.getElem?_map, Array.getElem?_toList, at_i] at e1
  cases e1
  exact ⟨t2, rfl⟩
end
end RK
/-! R2: d.get where the key may be None, len(set(..)) of ints, enumerate of a tuple. -/
namespace RK
open PySem PySem.Spec PyProof.Rows L2
section
variable {X : Cx}
/-! ### d.get(k), d.get(k, x): k may be None -/
/-- what get tells: of a key its value, of None or of no key the default -/
abbrev Got (kvs : List (L2.Key × V)) (y dflt : V) (R : V → Prop) : Prop := (y = .non ∧ R dflt) ∨ ∃ k, y = kV k ∧ R ((valV kvs k).getD dflt)
def tGetN1 (td ty : TE) : TE := fun σ H Q => td σ H fun x H1 => ∃ a, x = .ref a ∧ IsD H1 a ∧ ty σ H1 fun y H2 => ∃ kvs, Rd H2 a (.dK kvs) ∧ Got kvs y .non fun z => Q z H2
def tGetN2 (td ty tx : TE) : TE := fun σ H Q => td σ H fun x H1 => ∃ a, x = .ref a ∧ IsD H1 a ∧ ty σ H1 fun y H2 => tx σ H2 fun z H3 => ∃ kvs, Rd H3 a (.dK kvs) ∧ Got kvs y z fun z => Q z H3
section
variable {pins : List (Addr × Obj)} {σ : L2.St} {H : Hp} {s : Shared} {a : Addr} {kvs : List (L2.Key × V)} {y z : V} {u r : Value} {Q : VK}
theorem none_is {P : Program} {w : World} : (noneKind P w).is none .none = true := rfl
theorem get_one (hu : X.A.units + 1 < cLine) (I : L2.Inv X pins σ H s) (g : Rd H a (.dK kvs)) (ru : RelV y u) (want : Got kvs y .non fun z => Q z H) : wpAny (model X.prog X.w) X.A (call (.builtin "dict.get") [.ref a, u]) (EP X pins σ Q) X.xe s := by
  obtain ⟨rfl, want⟩ | ⟨k, rfl, want⟩ := want
  · cases ru
    obtain ⟨_, notSys, vs, _, dict⟩ := dk_rd I.hok g
    obtain ⟨f, map, miss⟩ := none_map dict
    have none_ : (f none).getD .none = Value.none := by rw [miss]; rfl
    refine call_meetsIn PySem.F.slot_dict_get dict.typeIs PySem.F.entry_dict_get (PySem.F.args_dict_get_2 _ _) (meets_dict_get (noneKind X.prog X.w) a none_is notSys) ⟨f, map, ?_⟩
    rw [none_]
    exact ⟨.non, H, I.tok _, rfl, want⟩
  · exact d_get1 hu I (.inl ⟨kvs, k, g, rfl, rfl⟩) ru fun _ _ I1 r1 => ⟨_, H, I1, r1, want⟩
theorem get_two (hu : X.A.units + 1 < cLine) (I : L2.Inv X pins σ H s) (g : Rd H a (.dK kvs)) (ru : RelV y u) (rr : RelV z r) (want : Got kvs y z fun z => Q z H) : wpAny (model X.prog X.w) X.A (call (.builtin "dict.get") [.ref a, u, r]) (EP X pins σ Q) X.xe s := by
  obtain ⟨rfl, want⟩ | ⟨k, rfl, want⟩ := want
  · cases ru
    obtain ⟨_, notSys, vs, _, dict⟩ := dk_rd I.hok g
    obtain ⟨f, map, miss⟩ := none_map dict
    have dflt : (f none).getD r = r := by rw [miss]; rfl
    refine call_meetsIn PySem.F.slot_dict_get dict.typeIs PySem.F.entry_dict_get (PySem.F.args_dict_get_3 _ _ _) (meets_dict_get_default (noneKind X.prog X.w) a none_is notSys r) ⟨f, map, ?_⟩
    rw [dflt]
    exact ⟨z, H, I.tok _, rr, want⟩
  · exact d_get2 hu I (.inl ⟨kvs, k, g, rfl, rfl⟩) ru rr fun _ _ I1 r1 => ⟨_, H, I1, r1, want⟩
end
theorem pe_getN1 {o e : Expr} {apos cpos : Pos} {td ty : TE} (hu : X.A.units + 1 < cLine) (ho : PE X o td) (he : PE X e ty) (m : M1 X o "get" apos e cpos) : PE X (.Call (.Attribute o "get" apos) [e] [] cpos) (tGetN1 td ty) := by
  constructor
  intro pins s σ H Q I want
  apply wpAny_Call_method m.base m.few m.line PySem.F.plainAttrs_dict PySem.F.slot_dict_get PySem.F.type_dict_get
  apply thn (ho.run pins s σ H _ I want)
  rintro _ s1 ⟨_, H1, I1, rel, a, rfl, isD, want1⟩
  cases rel
  have is := isD_at I1 isD
  rw [m.trees]
  refine ⟨is.1, is.2.1, Calls.callWith_builtin rfl (Calls.evalArgs_plain (Calls.spliced_cons (thn (he.run pins s1 σ H1 _ I1 want1) ?_)))⟩
  rintro u s2 ⟨y, H2, I2, ru, kvs, g, want2⟩
  exact Calls.spliced_nil (get_one hu I2 g ru want2)
theorem pe_getN2 {o e f : Expr} {apos cpos : Pos} {td ty tx : TE} (hu : X.A.units + 1 < cLine) (ho : PE X o td) (he : PE X e ty) (hf : PE X f tx) (m : M2 X o "get" apos e f cpos) : PE X (.Call (.Attribute o "get" apos) [e, f] [] cpos) (tGetN2 td ty tx) := by
  constructor
  intro pins s σ H Q I want
  apply wpAny_Call_method m.base m.few m.line PySem.F.plainAttrs_dict PySem.F.slot_dict_get PySem.F.type_dict_get
  apply thn (ho.run pins s σ H _ I want)
  rintro _ s1 ⟨_, H1, I1, rel, a, rfl, isD, want1⟩
  cases rel
  have is := isD_at I1 isD
  rw [m.trees]
  refine ⟨is.1, is.2.1, Calls.callWith_builtin rfl (Calls.evalArgs_plain (Calls.spliced_cons (thn (he.run pins s1 σ H1 _ I1 want1) ?_)))⟩
  rintro u s2 ⟨y, H2, I2, ru, want2⟩
  apply Calls.spliced_cons
  apply thn (hf.run pins s2 σ H2 _ I2 want2)
  rintro r s3 ⟨z, H3, I3, rr, kvs, g, want3⟩
  exact Calls.spliced_nil (get_two hu I3 g ru rr want3)
/-! ### len(set(xs)), ints -/
theorem firstMet_nd (val : Nat → Int) : ∀ i, (firstMet val i).Nodup
  | 0 => List.nodup_nil
  | i + 1 => by
    rw [firstMet_succ]
    unfold step_dedup
    split
    · exact firstMet_nd val i
    · rename_i h
      rw [List.nodup_append]
      refine ⟨firstMet_nd val i, by simp, fun a ha b hb e => ?_⟩
      simp at hb
      subst hb
      subst e
      exact h (List.any_eq_true.mpr ⟨_, ha, by simp⟩)
theorem firstMet_mem (ns : List Int) (z : Int) : z ∈ firstMet (fun i => ns.getD i 0) ns.length ↔ z ∈ ns := by
  have all : (List.range ns.length).map (fun i => ns.getD i 0) = ns := by
    apply List.ext_getElem?
    intro i
    by_cases h : i < ns.length
    · simp [h]
    · simp [List.getElem?_eq_none (Nat.le_of_not_lt h), h]
  have any := firstMet_any (fun i => ns.getD i 0) ns.length z
  rw [all] at any
  simpa [List.any_eq_true] using congrArg (· = true) any
def tLenSet (K : PySem.W.Frag) (ta : TE) : TE := fun σ H Q => ta σ H fun x H1 => ∃ (l : Addr) (ns : List Int), x = V.ref l ∧ SqL K H1 l (ns.map V.int) ∧ ns.length < 1000 ∧ ∀ ds : List Int, ds.Nodup → (∀ z, z ∈ ds ↔ z ∈ ns) → Q (.int ds.length) H1
/-- set(l), and its length -/
theorem set_len {pins : List (Addr × Obj)} {σ : L2.St} {H : Hp} {s : Shared} {l : Addr} {ns : List Int} {Q : VK} (calm : X.calm = true) (I : L2.Inv X pins σ H s) (sq : SqL X.K H l (ns.map V.int)) (few : ns.length < 1000) (want : ∀ ds : List Int, ds.Nodup → (∀ z, z ∈ ds ↔ z ∈ ns) → Q (.int ds.length) H) :
    wpAny (model X.prog X.w) X.A (call (.type "set") [.ref l]) (fun v s1 => wpAny (model X.prog X.w) X.A (call (.builtin "len") [v]) (EP X pins σ Q) X.xe s1) X.xe s := by
  obtain ⟨its, vals, isL, _⟩ := I.list sq
  have size : its.toArray.size = ns.length := by simpa using vals.length.symm
  have bound : ns.length + 1 < scanBound := Nat.lt_of_le_of_lt few (by decide)
  apply call_set_list (I.ok.hd calm) isL.isList (ns := ns) (by simpa using vals.ints) (by rw [size]; exact bound)
  rw [size]
  intro h1 tk ⟨o, es, ep, t, here, exact_, data, _, _, _, fits, many⟩ old
  have I1 : L2.Inv X pins σ H { s with heap := h1, toks := tk } := I.kept fun b o e => old b o (Heap.lt_size e) e
  have len := firstMet_length_le (fun i => ns.getD i 0) ns.length
  exact call_len_set here exact_ data fits (by rw [many]; omega) ⟨.int (firstMet (fun i => ns.getD i 0) ns.length).length, H, I1.tok _, ⟨_, by rw [many]⟩, want _ (firstMet_nd _ _) (firstMet_mem ns)⟩
theorem pe_lenSetA {a : Expr} {ta : TE} {p p2 q pos : Pos} (calm : X.calm = true) (hg : Gl X "len") (hm : X.mg "len" = none) (hg2 : Gl X "set") (hm2 : X.mg "set" = none) (ha : PE X a ta) (one : starEach [a] X.env = (false, eval a X.env) :: starEach [] X.env := by rfl) :
    PE X (.Call (.Name "len" p) [.Call (.Name "set" p2) [a] [] q] [] pos) (tLenSet X.K ta) := by
  constructor
  intro pins s σ H Q I want
  refine Call_ (ld_blt I hg hm PySem.boot_len (callWith_builtin1 (args_cons (Call_ (ld_blt I hg2 hm2 boot_set (callWith_type1 (args_cons (thn (ha.run pins s σ H _ I want) ?_) one) one rfl))) rfl) rfl rfl))
  rintro _ s1 ⟨_, H1, I1, rel, l, ns, rfl, sq, few, want1⟩
  cases rel
  exact args_nil (thn (set_len calm I1 sq few want1) fun _ _ z => args_nil z)
end
/-! ### enumerate(tuple) -/
/-- enumerate(v), of whatever begins so -/
theorem enum_new {v : Value} {o : Obj} {G : Heap → Prop} (B : Begins v o G) : Meets (Builtin.«enumerate.__new__» ⟨[.type "enumerate", v], []⟩) (fun _ R s => G s.heap ∧ R (.ok (.ret (.ref (s.heap.push o).objs.size)))
    { s with heap := (s.heap.push o).push { cls := .type "enumerate", data := .fields #[.none, .bool false, .ref s.heap.objs.size, rawInt 0, .none, .none] } }) :=
  .of_wp fun prog w A R ⟨h, g, d, tk, os⟩ ⟨begun, want⟩ => by
    have sub := sub_enumerate
    have start : ∀ {A1 : Around} {E Q : Value → Shared → Prop}, Q (.ref h.objs.size) ⟨h.push o, g, d, tk, os⟩ → wpAny (model prog w) A1 (pyIter v) Q E ⟨h, g, d, tk, os⟩ := fun q => B.iter prog w _ _ ⟨h, g, d, tk, os⟩ _ begun q
    wp_walk using start
    apply wpAny_stack_any
    intro st
    apply wpAny_pure
    split
    case h_1 => rename_i c _ _ _ _ _; cases (c == Value.type "enumerate") <;> (wp_walk using start; exact ⟨_, rfl, want⟩)
    all_goals (wp_walk using start; exact ⟨_, rfl, want⟩)
theorem enum_started {prog : Program} {w : World} {A : Around} {E : Value → Shared → Prop} {s : Shared} {v : Value} {o : Obj} {G : Heap → Prop} {Q : Value → Shared → Prop} (B : Begins v o G) (begun : G s.heap)
    (want : ∀ h1, IsEnum h1 (s.heap.objs.size + 1) s.heap.objs.size 0 .none → h1.get? s.heap.objs.size = some o → (∀ b u, s.heap.get? b = some u → h1.get? b = some u) → Q (.ref (s.heap.objs.size + 1)) { s with heap := h1 }) : wpAny (model prog w) A (call (.type "enumerate") [v]) Q E s := by
  have next : (s.heap.push o).objs.size = s.heap.objs.size + 1 := Heap.size_push s.heap o
  have mine := Heap.get?_push_size (s.heap.push o) (o := { cls := .type "enumerate", data := .fields #[.none, .bool false, .ref s.heap.objs.size, rawInt 0, .none, .none] }) rfl
  refine callType_new F.called_enumerate (by decide) (F.typeCall_enumerate_1 v) (F.newCall_enumerate_1 v) (fun obj => F.args_object_init_2 obj v) F.entry_enumerate_new (enum_new B) ⟨begun, ⟨_, mine, rfl⟩, ?_⟩
  rw [next] at mine ⊢
  exact want _ mine (Heap.get?_push_of_some _ (Heap.get?_push_size _ B.free)) fun _ _ e => Heap.get?_push_of_some _ (Heap.get?_push_of_some _ e)
/-- the tuple at a, each item in a new pair with its place -/
def IteT (K : PySem.W.Frag) (a : Addr) : It where
  go i H := ∃ (xs : List V) (x : V), SqT K H a xs ∧ xs[i]? = some x
  yld i H v H' := ∃ T x, v = .ref T ∧ H T = none ∧ H' = upd H T (.tup [.int (i : Nat), x]) ∧ ∀ xs, SqT K H a xs → xs[i]? = some x
  stop i H := ∃ xs : List V, SqT K H a xs ∧ xs.length = i
theorem tuple_apart {h : Heap} {a b : Addr} {its : Array Value} {o : Obj} {n : String} (t : h.IsTuple a its) (e : h.get? b = some o) (c : o.cls = .type n) (ne : n ≠ "tuple") : a ≠ b := by
  rintro rfl
  obtain ⟨o1, e1, c1, _⟩ := t
  cases e.symm.trans e1
  exact ne (Value.type.inj (c.symm.trans c1))
/-- an enumerate object over a tuple that is tracked, told by the library's walk of it -/
theorem turn_enumT {P : Program} {w : World} {K : PySem.W.Frag} {elts : List Expr} {kk : Nat} {tpos : Pos} (a e it : Addr) (ne : e ≠ it) : Turn P w K (.Tuple elts kk tpos) (IteT K a) [e, it] e (fun i h => (∃ old, IsEnum h e it ((i : Nat) : Int) old) ∧ h.IsTupleIter it a i) := by
  have walk : ∀ {A : Around} {h : Heap} {i : Nat} {its : Array Value}, A.handled = none → (∃ old, IsEnum h e it ((i : Nat) : Int) old) → h.IsTupleIter it a i → h.IsTuple a its → a ≠ e ∧ a ≠ it ∧ WalksT P w A e [e, it, a] [e, it] its.size
      (fun i vals => ∃ t x, its[i]? = some x ∧ vals = #[.int i t, x]) (fun i h => (∃ old, IsEnum h e it i old) ∧ h.IsTupleIter it a i ∧ h.IsTuple a its) (fun i T h => (∃ x, IsEnumOut h e it ((i : Int) + 1) x T) ∧ (h.IsTupleIter it a (i + 1) ∧ h.IsTuple a its) ∧ T ≠ e ∧ T ≠ it) := by
    rintro A h i its calm ⟨old, he⟩ ⟨o, hi, ci, _⟩ tup
    have ae : a ≠ e := tuple_apart tup he rfl (by decide)
    have ai : a ≠ it := tuple_apart tup hi ci (by decide)
    exact ⟨ae, ai, WalksT.enumerateD (Draws.tuple (A := A.in1) calm it a ai its) e ne (by simp [ne, ae.symm]) (by simp)⟩
  constructor
  · simp
  · rintro i h ⟨⟨old, he⟩, o, hi, _, di⟩ b hb
    obtain rfl | rfl : b = e ∨ b = it := by simpa using hb
    · exact ⟨_, he, nofun⟩
    · exact ⟨o, hi, fun v => by rw [di]; exact nofun⟩
  · rintro i h h1 ⟨⟨old, he⟩, hi⟩ same
    exact ⟨⟨old, same e (by simp) _ he⟩, hi.at fun o => same it (by simp) o⟩
  · rintro X rfl rfl rfl calm i pins s σ H E I feet ⟨he, hi⟩ ⟨xs, x, sq, at_i⟩
    obtain ⟨its, vals, tup, _⟩ := I.tuple sq
    obtain ⟨u, at_u, rel⟩ := vals.get at_i
    obtain ⟨ae, ai, W⟩ := walk (I.ok.hd calm) he hi tup
    have lt : i < its.toArray.size := by simpa using (List.getElem?_eq_some_iff.mp at_u).1
    apply W.item i s _ E lt ⟨he, hi, tup⟩
    rintro T vs h1 tk ⟨t, y, at_y, rfl⟩ new isT mid old1
    obtain rfl : y = u := by simpa [at_u] using at_y.symm
    refine ⟨_, rfl, W.go elts kk tpos i T _ _ E mid ?_⟩
    rintro h2 ⟨he2, hi2, _⟩ old2
    have apart := W.apart i T h1 mid
    have isT2 : h2.IsTuple T #[.int i t, y] := isT.at fun o => old2 T o apart
    have born : ObjOk X.prog X.w (upd H T (.tup [.int (i : Nat), x])) h2 T (.tup [.int (i : Nat), x]) := ⟨by show 2 ≤ sizeLine; decide, [.int i t, y], .cons ⟨t, rfl⟩ (.cons rel .nil), isT2⟩
    have I1 := I.turnedNew (t' := tk) (ch := [e, it]) (fun b o hb z => old2 b o hb (old1 b o hb z)) feet new born
    refine ⟨.ref T, _, I1, rfl, ⟨T, x, rfl, I.hok.fresh new, rfl, fun ys sq1 => by rw [I.tuple_inj sq1 sq]; exact at_i⟩, ⟨he2, hi2⟩, fun b hb => ?_⟩
    rw [upd_ne (by rintro rfl; exact apart hb)]
    exact (feet b hb).1
  · rintro X rfl rfl rfl calm i pins s σ H E I feet ⟨he, hi⟩ ⟨xs, sq, rfl⟩
    obtain ⟨its, vals, tup, _⟩ := I.tuple sq
    obtain ⟨_, ai, _⟩ := walk (I.ok.hd calm) he hi tup
    obtain ⟨old, he⟩ := he
    have size : xs.length = its.toArray.size := by simpa using vals.length
    rw [size] at he hi
    obtain ⟨f0, f1, _, f3, f4, f5⟩ := feet it (by simp)
    exact wpAny_pyNext_enum_endD (Draws.tuple (A := X.A.in1) (I.ok.hd calm) it a ai its.toArray) he ⟨hi, tup⟩ fun h1 but => ⟨rfl, I.turned (t' := s.toks) (fun b o z e => but b o z e) f0 f1 f3 f4 f5⟩
  · rintro A i s Q E ⟨⟨old, he⟩, _⟩ want
    exact wpAny_pyIter_enum he want
def iEnumT (K : PySem.W.Frag) (ta : TA) : TI := fun σ H R => ta σ H fun vs H1 => ∃ a xs, vs = [.ref a] ∧ SqT K H1 a xs ∧ R (IteT K a) H1
theorem pi_enumT {X : Cx} {e : Expr} {ta : TA} {p pos tpos : Pos} {elts : List Expr} {kk : Nat} (hg : Gl X "enumerate") (hm : X.mg "enumerate" = none) (ha : PA X [e] ta) (one : starEach [e] X.env = [(false, eval e X.env)] := by rfl) : PI X (.Tuple elts kk tpos) (.Call (.Name "enumerate" p) [e] [] pos) (iEnumT X.K ta) := by
  constructor
  intro pins s σ H R I want
  refine Call_ (ld_blt I hg hm boot_enumerate (callWith_type1 (thn (ha.run pos pins s σ H _ I want) ?_) one rfl))
  rintro us s1 ⟨_, H1, I1, rel, a, xs, rfl, sq, next⟩
  rw [Vals.ref1 rel]
  obtain ⟨its, _, tup, _⟩ := I1.tuple sq
  apply enum_started (begins_tuple a its.toArray) tup
  intro h1 he here old
  apply wpAny_pyIter_enum he
  refine ⟨_, [s1.heap.objs.size + 1, s1.heap.objs.size], _, _, H1, rfl, I1.kept (t' := s1.toks) old, turn_enumT a _ s1.heap.objs.size (Nat.succ_ne_self _), ⟨⟨.none, he⟩, _, here, rfl, rfl⟩, fun b hb => ?_, next⟩
  have le : s1.heap.objs.size ≤ b := by
    obtain rfl | rfl : b = s1.heap.objs.size + 1 ∨ b = s1.heap.objs.size := by simpa using hb
    · exact Nat.le_succ _
    · exact Nat.le_refl _
  exact I1.fpOk le (I1.hok.fresh le)
theorem walk_enumT {K : PySem.W.Frag} {a : Addr} {xs : List V} : Walk (IteT K a) xs.length (fun H => SqT K H a xs) (YPair (fun i => some (.int (i : Nat))) (fun i => xs[i]?)) := by
  constructor
  · exact fun i H lt sq => ⟨xs, xs[i], sq, List.getElem?_eq_getElem lt⟩
  · exact fun H sq => ⟨xs, sq, rfl⟩
  · rintro i H _ _ _ sq ⟨T, x, rfl, fresh, rfl, at_i⟩
    exact ⟨T, _, x, rfl, fresh, rfl, rfl, at_i xs sq⟩
end RK
/-! R3: x == y, x != y by an own ==, len(x) by an own __len__, calls by keywords alone. -/
namespace RK
open PySem PySem.Spec PyProof.Rows L2
section
variable {M : Model} {prog : Program} {w : World} {A : Around} {E : Value → Shared → Prop} {s : Shared} {K : PySem.W.Frag} {x y C f : Addr} {ox oy : Obj} {od od2 : Option Obj}
/-- a special name that the class has of a built-in one -/
theorem bound_slot {name : Str} {id : String} {args : List Value} {Q : Option Value → Shared → Prop} (top : K.In s.heap) (inst : PySem.W.InstAt s.heap x ox C od) (has : PySem.W.findIn K (.ref C) name = some (some (.builtin id)))
    (bind : bindSpecial (.builtin id) (.ref x) = pure (.builtin id, [.ref x])) (run : wpAny M A (call (.builtin id) (.ref x :: args)) (fun v => Q (some v)) E s) : wpAny M A (callSpecialIfBound? (.ref x) name args) Q E s := by
  have found : wpAny M A (bindSpecialIfBound? (.ref x) name) (fun r s1 => r = some (.builtin id, [.ref x]) ∧ s1 = s) E s := by
    unfold bindSpecialIfBound?
    apply wpAny_bind
    apply wpAny_bind
    apply inst.type.here
    apply (PySem.W.looks_findIn top has).here
    apply wpAny_bind
    apply wpAny_askSetting
    rw [bind]
    split
    · exact wpAny_bind (wpAny_pure (wpAny_pure ⟨rfl, rfl⟩))
    · exact wpAny_tryCatch (wpAny_bind (wpAny_pure (wpAny_pure ⟨rfl, rfl⟩)))
  apply wpAny_holding
  apply wpAny_bind
  apply thn found
  rintro _ _ ⟨rfl, rfl⟩
  exact wpAny_bind (thn run fun _ _ q => wpAny_pure q)
/-- object.__ne__ over an own ==, that tells a bool -/
theorem object_ne {Q : Fin → Shared → Prop} (top : K.In s.heap) (inst : PySem.W.InstAt s.heap x ox C od) (has : PySem.W.findIn K (.ref C) "__eq__" = some (some (.ref f))) (fn : PySem.W.isFn K (.ref f) = true) (room : A.units < cLine)
    (run : wpAny (model prog w) A (call (.ref f) [.ref x, .ref y]) (fun v s1 => ∃ b, v = .bool b ∧ Q (.done (.ret (.bool !b))) s1) E s) : wpAny (model prog w) A (Builtin.«object.__ne__» ⟨[.ref x, .ref y], []⟩) Q E s := by
  apply wpAny_bind
  apply wpAny_pure
  apply wpAny_bind
  apply wpAny_cRoomFor room
  apply wpAny_bind
  apply PySem.W.ifBound_K top inst has fn
  apply thn run
  rintro _ s1 ⟨b, rfl, q⟩
  exact wpAny_bind (wpAny_truthy_bool (wpAny_pure q))
/-- x != y, both of the class C that has an own == and object's != -/
theorem compare_ne {Q : Value → Shared → Prop} (top : K.In s.heap) (inst : PySem.W.InstAt s.heap x ox C od) (other : PySem.W.InstAt s.heap y oy C od2) (ne : PySem.W.findIn K (.ref C) "__ne__" = some (some (.builtin "object.__ne__"))) (sub : PySem.W.mroIn K C (.type "object") = some true)
    (has : PySem.W.findIn K (.ref C) "__eq__" = some (some (.ref f))) (fn : PySem.W.isFn K (.ref f) = true) (room : A.units + 1 < cLine) (run : wpAny (model prog w) A.in1 (call (.ref f) [.ref x, .ref y]) (fun v s1 => ∃ b, v = .bool b ∧ Q (.bool !b) s1) E s) :
    wpAny (model prog w) A (compareOp CmpOp.NotEq (.ref x) (.ref y)) Q E s := by
  have isObject : PySem.W.Looks (model prog w) s.heap (isInstance (.ref x) (.type "object")) true := inst.type.andThen (PySem.W.looks_mroIn top sub)
  have own : wpAny (model prog w) A.in1 (Builtin.«object.__ne__» ⟨[.ref x, .ref y], []⟩) (fun r s1 => ∃ b, r = .done (.ret (.bool b)) ∧ Q (.bool b) s1) E s :=
    object_ne top inst has fn room (thn run fun v s1 ⟨b, e, q⟩ => ⟨b, e, !b, rfl, q⟩)
  have tried : wpAny (model prog w) A (tryCompare (.ref x) "__ne__" (.ref y)) (fun r s1 => ∃ b, r = some (.bool b) ∧ Q (.bool b) s1) E s := by
    apply wpAny_bind
    apply bound_slot top inst ne (PySem.F.cmp_object.ne.bind _)
    apply wpAny_call
    apply codeAny_call_builtin PySem.F.cmp_object.ne.plain PySem.F.cmpEntry_ne
    apply PySem.W.check_slot PySem.F.cmpKind_ne PySem.F.cmpSplit_ne isObject (PySem.F.cmpArgs_ne _ _)
    apply thn own
    rintro _ s1 ⟨b, rfl, q⟩
    exact wpAny_pure ⟨b, rfl, q⟩
  have alike : (Value.ref C != Value.ref C) = false := by simp
  unfold compareOp richCompare
  apply wpAny_holding
  apply wpAny_bind
  apply wpAny_cRoomFor (Nat.lt_of_succ_lt room)
  -- no stand-ins, no subclass on the right: x's own word first
  rw [oneThing_ref, cmpInfo_NotEq]
  apply wpAny_bind
  apply inst.type.here
  apply wpAny_bind
  apply other.type.here
  rw [alike]
  apply wpAny_bind
  apply wpAny_pure
  apply wpAny_bind
  apply thn tried
  rintro _ s1 ⟨b, rfl, q⟩
  exact wpAny_pure q
end
section
variable {X : Cx} {CX : CXT} {n : Nat} {C f : Addr} {fd : FuncData} {ps : List Str} {sp : Sp} {E : XK}
theorem inst_at {pins : List (Addr × Obj)} {σ : L2.St} {H : Hp} {s : Shared} {a dx : Addr} {fs : List (Str × V)} (I : L2.Inv X pins σ H s) (e : H a = some (.ins C dx fs)) : ∃ o od, PySem.W.InstAt s.heap a o C od := by
  obtain ⟨_, names, _⟩ := ins_get I.hok e
  obtain ⟨od, inst, _⟩ := names.look
  exact ⟨_, _, inst⟩
/-- two instances of C, and what C's own == promises of them -/
def TwoOwn (C : Addr) (sp : Sp) (E : XK) (x y : V) (H : Hp) (Q : Bool → Hp → Prop) : Prop := ∃ a b dx dy fs gs, x = .ref a ∧ y = .ref b ∧ H a = some (.ins C dx fs) ∧ H b = some (.ins C dy gs) ∧ sp [.ref a, .ref b] H (fun v H' => ∃ c, v = .bl c ∧ Q c H') E
def rNeOwn (C : Addr) (sp : Sp) (E : XK) : R2 := fun x y H Q => TwoOwn C sp E x y H fun c H' => Q (.bl !c) H'
def rEqOwn (C : Addr) (sp : Sp) (E : XK) : R2 := fun x y H Q => TwoOwn C sp E x y H fun c H' => Q (.bl c) H'
/-- C's own == runs -/
theorem own_eq {A : Around} (F : KeptAt X.prog X.w X.K X.mg X.base CX f fd ps sp A) (two : ∀ vs H Q E, sp vs H Q E → vs.length = ps.length) (hb : Binds X.K fd ps []) (hx : Passes CX X E) {pins : List (Addr × Obj)} {σ : L2.St} {H : Hp} {s : Shared} {a b : Addr} {Q : Bool → Hp → Prop} (e0 : Env0 X.prog X.w X.K X.mg X.base A X.stack s H)
    (I : L2.Inv X pins σ H s) (want : sp [.ref a, .ref b] H (fun v H' => ∃ c, v = .bl c ∧ Q c H') E) : wpAny (model X.prog X.w) A (call (.ref f) [.ref a, .ref b]) (fun v s1 => ∃ c, v = .bool c ∧ ∃ H', L2.Inv X pins σ H' s1 ∧ Q c H') X.xe s :=
  F.call e0 (two _ _ _ _ want) hb hx I (show Vals [V.ref a, V.ref b] _ from .cons rfl (.cons rfl .nil)) want fun s1 u c => by
    obtain ⟨_, H1, I1, rel, t, rfl, q⟩ := I.after c
    exact ⟨t, rel, H1, I1, q⟩
theorem op_neOwn (F : FnOk X.prog X.w X.K X.mg X.base CX n f fd ps sp) (hr : Room (n + 1) X.A) (ne : PySem.W.findIn X.K (.ref C) "__ne__" = some (some (.builtin "object.__ne__"))) (sub : PySem.W.mroIn X.K C (.type "object") = some true)
    (has : PySem.W.findIn X.K (.ref C) "__eq__" = some (some (.ref f))) (fn : PySem.W.isFn X.K (.ref f) = true) (hb : Binds X.K fd ps []) (hx : Passes CX X E) : OpR X (compareOp .NotEq) (rNeOwn C sp E) := by
  rintro pins s σ H _ _ _ _ Q I rx ry ⟨a, b, dx, dy, fs, gs, rfl, rfl, at_a, at_b, want⟩
  cases rx
  cases ry
  obtain ⟨_, _, inst⟩ := inst_at I at_a
  obtain ⟨_, _, other⟩ := inst_at I at_b
  have room := hr.units
  apply compare_ne I.kIn inst other ne sub has fn (by omega)
  apply thn (own_eq (fnOk_at F hr.in1) F.len hb hx I.env0.in1 I want)
  rintro _ s1 ⟨c, rfl, H1, I1, q⟩
  exact ⟨c, rfl, .bl !c, H1, I1, rfl, q⟩
theorem op_eqOwn (F : FnOk X.prog X.w X.K X.mg X.base CX n f fd ps sp) (hr : Room (n + 1) X.A) (has : PySem.W.findIn X.K (.ref C) "__eq__" = some (some (.ref f))) (fn : PySem.W.isFn X.K (.ref f) = true) (hb : Binds X.K fd ps []) (hx : Passes CX X E) : OpR X (compareOp .Eq) (rEqOwn C sp E) := by
  rintro pins s σ H _ _ _ _ Q I rx ry ⟨a, b, dx, dy, fs, gs, rfl, rfl, at_a, at_b, want⟩
  cases rx
  cases ry
  obtain ⟨_, _, inst⟩ := inst_at I at_a
  obtain ⟨_, _, other⟩ := inst_at I at_b
  obtain ⟨_, frame⟩ := I.fr
  have room := hr.units
  apply PySem.W.cmp_K (op := .Eq) (tb := .ref C) (by omega) frame I.ok.mod.kin inst other.type (by simp [PySem.W.notFirst]) has fn
  apply thn (own_eq (fnOk_at F (hr.mono (Nat.le_succ n))) F.len hb hx I.env0 I want)
  rintro _ s1 ⟨c, rfl, H1, I1, q⟩
  exact ⟨.bl c, H1, I1, rfl, q⟩
/-- len(x), x an instance of C with an own __len__ -/
def rLenOwn (C : Addr) (sp : Sp) (E : XK) : List V → Hp → VK → Prop := fun xs H Q => ∃ a dx fs, xs = [.ref a] ∧ H a = some (.ins C dx fs) ∧ sp [.ref a] H (fun v H' => ∃ k : Int, v = .int k ∧ (0 ≤ k ∧ k < 2 ^ 63) ∧ Q (.int k) H') E
theorem call_lenOwn (F : FnOk X.prog X.w X.K X.mg X.base CX n f fd ps sp) (hr : Room (n + 1) X.A) (has : PySem.W.findIn X.K (.ref C) "__len__" = some (some (.ref f))) (fn : PySem.W.isFn X.K (.ref f) = true) (hb : Binds X.K fd ps []) (hx : Passes CX X E) :
    CallR X (.builtin "len") (rLenOwn C sp E) := by
  rintro pins s σ H _ us Q I rel ⟨a, dx, fs, rfl, at_a, want⟩
  obtain ⟨_, _, inst⟩ := inst_at I at_a
  obtain ⟨_, frame⟩ := I.fr
  rw [Vals.ref1 rel]
  apply PySem.W.len_K frame I.ok.mod.kin inst has fn
  apply (fnOk_at F hr.in1).call I.env0.in1 (F.len _ _ _ _ want) hb hx I (show Vals [V.ref a] _ from .cons rfl .nil) want
  intro s1 u c
  obtain ⟨_, H1, I1, rel1, k, rfl, bounds, q⟩ := I.after c
  obtain ⟨t, rfl⟩ := rel1
  exact ⟨bounds, .int k, H1, I1.tok _, ⟨_, rfl⟩, q⟩
/-- f(k = v, ..): keywords alone, in any order; g puts the values into the parameters' order -/
def tCallK0 (sp : Sp) (gV : List V → List V) (E : XK) (tk : TA) : TE := fun σ H Q => tk σ H fun zs H2 => sp (gV zs) H2 Q E
structure KB0 (K : PySem.W.Frag) (fd : FuncData) (ps ks : List Str) (g : List Value → List Value) (gV : List V → List V) : Prop where
  to : ∀ (s : Shared) (ws : List Value), K.In s.heap → ws.length = ks.length → BindsTo s fd ⟨[], ks.zip ws⟩ (ps.zip (g ws))
  rel : ∀ {zs : List V} {ws : List Value}, Vals zs ws → Vals (gV zs) (g ws)
/-- how keywords alone are written -/
abbrev KwOnly (X : Cx) (x : Str) (kws : List Keyword) (ks : List Str) (pos : Pos) : Prop :=
  (x == ("__debug__" : Str)) = false ∧ (backToKw pos (keywordEach kws X.env)).all (·.1.isSome) = true ∧ (backToKw pos (keywordEach kws X.env)).filterMap (·.1) = ks ∧ ((backTo pos (starEach [] X.env)).any (·.1) || (backToKw pos (keywordEach kws X.env)).any (·.1.isNone)) = false
theorem pe_callK0 {x : Str} {p pos : Pos} {kws : List Keyword} {ks : List Str} {tk : TA} {g : List Value → List Value} {gV : List V → List V} (F : FnOk X.prog X.w X.K X.mg X.base CX n f fd ps sp) (hr : Room n X.A) (hg : Gl X x) (hm : X.mg x = some (.ref f)) (kp : PySem.W.keepIn X.K (.ref f) = true)
    (hb : KB0 X.K fd ps ks g gV) (hx : Passes CX X E) (hk : PK X kws tk) (pl : KwOnly X x kws ks pos) (len : ∀ σ H Q, tk σ H Q → tk σ H fun zs H' => zs.length = ks.length ∧ Q zs H') : PE X (.Call (.Name x p) [] kws pos) (tCallK0 sp gV E tk) := by
  obtain ⟨n1, n2, n3, n4⟩ := pl
  constructor
  intro pins s σ H Q I want
  apply wpAny_Call_Name_kw (ld_glob I hg hm _ n1)
  apply PySem.W.callWith_KW0 (h₀ := X.base) I.ok.mod.kin kp n2 _ n4
  apply thn (hk.run pos pins s σ H _ I (len _ _ _ want))
  rintro ws s1 ⟨zs, H1, I1, rel, lz, want1⟩
  rw [n3]
  exact ⟨I1.kIn, (fnOk_at F hr).callKw I1.env0 (hb.to s1 ws I1.kIn (rel.length.symm.trans lz)) hx I1 (hb.rel rel) want1 fun s' u c => I1.after c⟩
end
end RK
/-! R4: dicts whose keys are nested tuples, that tell each key's place. -/
namespace RK
open PySem PySem.Spec PyProof.Rows L2
mutual
/-- the value is that key, by the abstract heap -/
inductive KeyAt (H : Hp) : NestedKey → V → Prop
  | none : KeyAt H .none .non
  | bl (b : Bool) : KeyAt H (.num (if b = true then 1 else 0)) (.bl b)
  | int (i : Int) : KeyAt H (.num i) (.int i)
  | tup {a : Addr} {xs : List V} {ks : List NestedKey} : H a = some (.tup xs) → KeysAt H ks xs → KeyAt H (.tup ks) (.ref a)
inductive KeysAt (H : Hp) : List NestedKey → List V → Prop
  | nil : KeysAt H [] []
  | cons {k : NestedKey} {v : V} {ks : List NestedKey} {vs : List V} : KeyAt H k v → KeysAt H ks vs → KeysAt H (k :: ks) (v :: vs)
end
/-- tuples stay -/
def Tups (H H' : Hp) : Prop := ∀ a xs, H a = some (.tup xs) → H' a = some (.tup xs)
theorem Tups.refl (H : Hp) : Tups H H := fun _ _ h => h
theorem Tups.trans {H H1 H2 : Hp} (a : Tups H H1) (b : Tups H1 H2) : Tups H H2 := fun c xs h => b c xs (a c xs h)
theorem Tups.of {H H' : Hp} (e : Same H H') : Tups H H' := fun a xs h => e a _ h
theorem Tups.new {H : Hp} {p : Addr} {o : HO} (h : H p = none) : Tups H (upd H p o) := fun a xs e => by rw [upd_ne (ne_of_none e h)]; exact e
theorem Tups.upd {H : Hp} {p : Addr} {o u : HO} (h : H p = some u) (hn : ∀ xs, u ≠ .tup xs) : Tups H (upd H p o) := fun a xs e => by
  rw [upd_ne (fun z => by rw [z, h] at e; exact hn xs (Option.some.inj e))]; exact e
mutual
theorem KeyAt.mono {H H' : Hp} (t : Tups H H') : ∀ {k : NestedKey} {v : V}, KeyAt H k v → KeyAt H' k v
  | _, _, .none => .none
  | _, _, .bl b => .bl b
  | _, _, .int i => .int i
  | _, _, .tup h k => .tup (t _ _ h) (KeysAt.mono t k)
theorem KeysAt.mono {H H' : Hp} (t : Tups H H') : ∀ {ks : List NestedKey} {vs : List V}, KeysAt H ks vs → KeysAt H' ks vs
  | _, _, .nil => .nil
  | _, _, .cons h k => .cons (KeyAt.mono t h) (KeysAt.mono t k)
end
section
variable {X : Cx} {s : Shared} {H : Hp} {σ : L2.St} {pins : List (Addr × Obj)}
mutual
theorem KeyAt.is {P : Program} {w : World} {H : Hp} {h : Heap} (ok : HOk P w H h) : ∀ {k : NestedKey} {v : V} {u : Value}, KeyAt H k v → RelV v u → NestedIs h k u
  | _, _, _, .none, r => by cases r; exact .none
  | _, _, _, .bl b, r => by cases r; exact .bool rfl
  | _, _, _, .int i, r => by obtain ⟨t, rfl⟩ := r; exact .int i t
  | _, _, _, .tup (a := a) (xs := xs) e k, r => by
    cases r
    obtain ⟨_, its, rv, o, h1, h2, n, h3⟩ := (show ObjOk P w H h a (.tup xs) from ok a _ e)
    exact .tup h1 h2 h3 (by simpa using KeysAt.are ok k rv)
theorem KeysAt.are {P : Program} {w : World} {H : Hp} {h : Heap} (ok : HOk P w H h) : ∀ {ks : List NestedKey} {vs : List V} {us : List Value}, KeysAt H ks vs → Vals vs us → NestedAll h ks us
  | _, _, _, .nil, .nil => .nil
  | _, _, _, .cons k t, .cons r q => .cons (KeyAt.is ok k r) (KeysAt.are ok t q)
end
/-- the dict's own object -/
def ND0 (P : Program) (w : World) (h : Heap) (a : Addr) (xs : List (NestedKey × Addr × Value)) : Prop :=
  ∃ o es ep, h.get? a = some o ∧ o.ExactDict ∧ o.data = .dict es ep ∧ es.toList = xs.map (entryOfKey (nestedKind P w))
def NDO (P : Program) (w : World) (a : Addr) (xs : List (NestedKey × Addr × Value)) : HO := .ext fun h => ND0 P w h a xs
theorem ndo_new {P : Program} {w : World} {H : Hp} {h : Heap} {a : Addr} {xs : List (NestedKey × Addr × Value)} (R : ND0 P w h a xs) : ObjOk P w H h a (NDO P w a xs) := by
  obtain ⟨o, es, ep, ho, r⟩ := R
  refine ⟨⟨o, es, ep, ho, r⟩, ⟨o, ho⟩, fun h1 h2 p k => ?_⟩
  obtain ⟨o', es', ep', ho', r'⟩ := p
  exact ⟨o', es', ep', k o' ho', r'⟩
/-- at a stands a dict that tells the place of each of these keys -/
structure NDict (P : Program) (w : World) (H : Hp) (a : Addr) (ks : List NestedKey) : Prop where
  ex : ∃ xs : List (NestedKey × Addr × Value), H a = some (NDO P w a xs) ∧ (a == sysModules) = false ∧ xs.length ≤ 1000 ∧ xs.map (·.1) = ks ∧ ks.Nodup ∧ (∀ x ∈ xs, KeyAt H x.1 (.ref x.2.1) ∧ x.1.depth ≤ 8) ∧ ∀ i x, xs[i]? = some x → ∃ t, x.2.2 = Value.int (i : Nat) t
theorem NDict.at {P : Program} {w : World} {H H' : Hp} {a : Addr} {ks : List NestedKey} (d : NDict P w H a ks) (t : Tups H H') (e : H' a = H a) : NDict P w H' a ks := by
  obtain ⟨xs, h1, h2, h3, h4, h5, h6, h7⟩ := d.ex
  exact ⟨xs, e.trans h1, h2, h3, h4, h5, fun x hx => ⟨(h6 x hx).1.mono t, (h6 x hx).2⟩, h7⟩
theorem NDict.ob {P : Program} {w : World} {H : Hp} {a : Addr} {ks : List NestedKey} (d : NDict P w H a ks) : ∃ φ, H a = some (.ext φ) := by
  obtain ⟨xs, h1, _⟩ := d.ex
  exact ⟨_, h1⟩
theorem nd_of {xs : List (NestedKey × Addr × Value)} (I : L2.Inv X pins σ H s) {a : Addr} (h1 : H a = some (NDO X.prog X.w a xs)) (h5 : (xs.map (·.1)).Nodup) (h6 : ∀ x ∈ xs, KeyAt H x.1 (.ref x.2.1) ∧ x.1.depth ≤ 8) : s.heap.DictOfH (nestedKind X.prog X.w) a xs := by
  obtain ⟨⟨o, es, ep, ho, hx, hd, he⟩, _⟩ := (show ObjOk X.prog X.w H s.heap a (NDO X.prog X.w a xs) from I.hok a _ h1)
  exact ⟨o, es, ep, ho, hx, hd, he, fun x hx => ⟨(h6 x hx).1.is I.hok rfl, (h6 x hx).2⟩, h5⟩
theorem atKey_none {xs : List (NestedKey × Addr × Value)} {k : NestedKey} : atKey xs k = none ↔ k ∉ xs.map (·.1) := by
  unfold atKey
  rw [Option.map_eq_none_iff, List.find?_eq_none]
  constructor
  · intro h hm
    obtain ⟨x, hx, e⟩ := List.mem_map.mp hm
    exact absurd (h x hx) (by simp [e])
  · intro h x hx
    simp
    intro e
    exact h (List.mem_map.mpr ⟨x, hx, e⟩)
theorem atKey_some {xs : List (NestedKey × Addr × Value)} (hn : (xs.map (·.1)).Nodup) {i : Nat} {x : NestedKey × Addr × Value} (h : xs[i]? = some x) : atKey xs x.1 = some x.2 := by
  cases e : atKey xs x.1 with
  | none => exact absurd (List.mem_map.mpr ⟨x, List.mem_of_getElem? h, rfl⟩) (atKey_none.mp e)
  | some p =>
    unfold atKey at e
    obtain ⟨y, hy, e2⟩ := Option.map_eq_some_iff.mp e
    have h1 := List.find?_some hy
    have h2 := List.mem_of_find?_eq_some hy
    obtain ⟨j, hj⟩ := List.mem_iff_getElem?.mp h2
    have e3 : y.1 = x.1 := by simpa using h1
    have e4 : j = i := nd_ix hn (i := j) (j := i) (x := x.1) (by rw [List.getElem?_map, hj]; simp [e3]) (by rw [List.getElem?_map, h]; rfl)
    subst e4
    rw [hj] at h
    cases h
    rw [e2]
def roomN (A : Around) : Prop := A.units + 16 < cLine
theorem roomN.in1 {A : Around} (h : roomN A) : (nestedKind X.prog X.w).room A.in1 := by
  unfold roomN at h
  show A.units + 1 + 8 < cLine
  omega
theorem roomN.here {A : Around} (h : roomN A) : (nestedKind X.prog X.w).room A := by
  unfold roomN at h
  show A.units + 8 < cLine
  omega
theorem roomN.of {A : Around} {k : Nat} (h : Room k A) : roomN A := by
  have := h.units
  unfold roomN
  omega
/-- y not in d -/
def tNotInN (P : Program) (w : World) (ty td : TE) : TE := fun σ H Q => ty σ H fun y H1 => td σ H1 fun x H2 => ∃ a ks k, x = .ref a ∧ NDict P w H2 a ks ∧ (∃ b, y = .ref b) ∧ KeyAt H2 k y ∧ k.depth ≤ 8 ∧ Q (.bl (decide (k ∉ ks))) H2
theorem pc_notInN {o i : Expr} {td ty : TE} (hu : roomN X.A) (hi : PE X i ty) (ho : PE X o td) : PC X .NotIn i o (tNotInN X.prog X.w ty td) := by
  refine ⟨fun pins s σ H Q I h => ?_⟩
  refine thn (hi.run pins s σ H _ I h) fun iv s1 ⟨y, H1, I1, ry, q1⟩ => thn (ho.run pins s1 σ H1 _ I1 q1) fun u s2 ⟨x, H2, I2, rx, a, ks, k, ex, d, ⟨b, eb⟩, hk, hdp, q2⟩ => ?_
  subst ex eb
  obtain rfl : u = Value.ref a := rx
  obtain rfl : iv = Value.ref b := ry
  obtain ⟨xs, h1, h2, h3, h4, h5, h6, h7⟩ := d.ex
  subst h4
  refine wpAny_notIn_heap (knd := nestedKind X.prog X.w) hu.in1 ⟨hk.is I2.hok rfl, hdp⟩ h2 (nd_of I2 h1 h5 h6) ⟨.bl _, H2, I2.tok _, rfl, ?_⟩
  have e : (!(atKey xs k).isSome) = decide (k ∉ xs.map (·.1)) := by
    cases e : atKey xs k with
    | none => rw [decide_eq_true (atKey_none.mp e)]; rfl
    | some p =>
      rw [decide_eq_false (fun h => by rw [atKey_none.mpr h] at e; cases e)]; rfl
  rw [e]
  exact q2
/-- d[y] -/
def tGetN (P : Program) (w : World) (td ty : TE) : TE := fun σ H Q => td σ H fun x H1 => ty σ H1 fun y H2 => ∃ a ks k i, x = .ref a ∧ NDict P w H2 a ks ∧ (∃ b, y = .ref b) ∧ KeyAt H2 k y ∧ k.depth ≤ 8 ∧ ks[i]? = some k ∧ Q (.int (i : Nat)) H2
theorem pe_getN {o i : Expr} {td ty : TE} {pos : Pos} (hu : roomN X.A) (ho : PE X o td) (hi : PE X i ty) (hs : NoSl i) : PE X (.Subscript o i pos) (tGetN X.prog X.w td ty) := by
  refine ⟨fun pins s σ H Q I h => ?_⟩
  refine subD_of PySem.F.slot_dict_getitem.lookup hs (thn (ho.run pins s σ H _ I h) fun u s1 ⟨x, H1, I1, rx, q1⟩ => thn (hi.run pins s1 σ H1 _ I1 q1) fun iv s2 ⟨y, H2, I2, ry, a, ks, k, i, ex, d, ⟨b, eb⟩, hk, hdp, hi, q2⟩ => ?_)
  subst ex eb
  obtain rfl : u = Value.ref a := rx
  obtain rfl : iv = Value.ref b := ry
  obtain ⟨xs, h1, h2, h3, h4, h5, h6, h7⟩ := d.ex
  subst h4
  have dd := nd_of I2 h1 h5 h6
  rw [List.getElem?_map] at hi
  obtain ⟨x, hx, ek⟩ := Option.map_eq_some_iff.mp hi
  subst ek
  obtain ⟨t, et⟩ := h7 i x hx
  refine ⟨dd.typeIs, wpAny_getItem_heap (knd := nestedKind X.prog X.w) hu.in1 ⟨hk.is I2.hok rfl, hdp⟩ dd (atKey_some h5 hx) ⟨.int (i : Nat), H2, I2.tok _, ⟨t, et⟩, q2⟩⟩
theorem nd_put {P : Program} {w : World} {H : Hp} {a b : Addr} {xs : List (NestedKey × Addr × Value)} {k : NestedKey} {r : Value} {t : Tok} (h2 : (a == sysModules) = false) (h3 : xs.length < 1000) (h5 : (xs.map (·.1)).Nodup) (h6 : ∀ x ∈ xs, KeyAt H x.1 (.ref x.2.1) ∧ x.1.depth ≤ 8)
    (h7 : ∀ i x, xs[i]? = some x → ∃ t, x.2.2 = Value.int (i : Nat) t) (hk : KeyAt H k (.ref b)) (hdp : k.depth ≤ 8) (hn : k ∉ xs.map (·.1)) (hr : r = Value.int (xs.length : Nat) t) (ha : ∃ u, H a = some u ∧ ∀ ys, u ≠ .tup ys) :
    NDict P w (upd H a (NDO P w a (xs ++ [(k, b, r)]))) a (xs.map (·.1) ++ [k]) := by
  obtain ⟨u, hu, hnu⟩ := ha
  have tt : Tups H (upd H a (NDO P w a (xs ++ [(k, b, r)]))) := Tups.upd hu hnu
  refine ⟨_, upd_same, h2, by simp; omega, by simp, ?_, fun x hx => ?_, fun i x hx => ?_⟩
  · rw [List.nodup_append]
    refine ⟨h5, by simp, fun y hy z hz e => ?_⟩
    simp at hz
    subst hz e
    exact hn hy
  · rcases List.mem_append.mp hx with hx | hx
    · exact ⟨(h6 x hx).1.mono tt, (h6 x hx).2⟩
    · simp at hx
      subst hx
      exact ⟨hk.mono tt, hdp⟩
  · by_cases hi : i < xs.length
    · rw [List.getElem?_append_left hi] at hx
      exact h7 i x hx
    · by_cases hi2 : i = xs.length
      · subst hi2
        rw [List.getElem?_append_right (Nat.le_refl _)] at hx
        simp at hx
        subst hx
        exact ⟨t, hr⟩
      · rw [List.getElem?_eq_none (by simp; omega)] at hx
        cases hx
/-- d[y] = v, a new key, its place -/
def sPutN (P : Program) (w : World) (td ty tv : TE) : TS := fun D σ H => tv σ H fun v H1 => td σ H1 fun x H2 => ty σ H2 fun y H3 => ∃ a ks k, x = .ref a ∧ NDict P w H3 a ks ∧ (∃ b, y = .ref b) ∧ KeyAt H3 k y ∧ k.depth ≤ 8 ∧ k ∉ ks ∧ ks.length < 1000 ∧ v = .int (ks.length : Nat) ∧
  ∀ o, (∀ xs, o ≠ .tup xs) → NDict P w (upd H3 a o) a (ks ++ [k]) → D.nx σ (upd H3 a o)
theorem ps_putN {o i value : Expr} {pos pos' : Pos} {td ty tv : TE} (hu : roomN X.A) (ho : PE X o td) (hi : PE X i ty) (hv : PE X value tv) (hs : swapsWith value (some (.Subscript o i pos')) pos.line X.env = pure false) :
    PS X (.Assign [.Subscript o i pos'] value pos) (sPutN X.prog X.w td ty tv) := by
  refine ⟨fun pins s σ H D I h => ?_⟩
  refine wpAny_Assign_Subscript (thn (hv.run pins s σ H _ I h) fun r s1 ⟨v, H1, I1, rv, q1⟩ => thn (ho.run pins s1 σ H1 _ I1 q1) fun u s2 ⟨x, H2, I2, rx, q2⟩ => thn (hi.run pins s2 σ H2 _ I2 q2) fun iv s3 ⟨y, H3, I3, ry, a, ks, k, ex, d, ⟨b, eb⟩, hk, hdp, hn, hl, ev, q3⟩ => ?_) hs
  subst ex eb ev
  obtain rfl : u = Value.ref a := rx
  obtain rfl : iv = Value.ref b := ry
  obtain ⟨t, rfl⟩ := rv
  obtain ⟨xs, h1, h2, h3, h4, h5, h6, h7⟩ := d.ex
  subst h4
  rw [List.length_map] at hl
  refine wpAny_setItem_heap (knd := nestedKind X.prog X.w) (hsz := by rw [sizeLine_eq]; omega) hu.in1 ⟨hk.is I3.hok rfl, hdp⟩ (nd_of I3 h1 h5 h6) fun h' hm' hs' => ?_
  rw [storedH_new (atKey_none.mpr hn)] at hm'
  obtain ⟨o', es', ep', ho', hx', hd', he', _, _⟩ := hm'
  have I4 := d_write (t' := s3.toks + (nestedKind X.prog X.w).draws k) I3 (a := a) (ob := NDO X.prog X.w a (xs ++ [(k, b, Value.int (((xs.map (·.1)).length : Nat) : Int) t)])) (by rw [h1]; exact True.intro) hs' ⟨o', ho'⟩ (ndo_new ⟨o', es', ep', ho', hx', hd', he'⟩)
  exact ⟨σ, _, I4, q3 _ (fun xs z => nomatch z) (nd_put h2 hl h5 h6 h7 hk hdp hn (by rw [List.length_map]) ⟨_, h1, fun ys z => nomatch z⟩)⟩
/-- {k: 0} -/
def tOneN (P : Program) (w : World) (tk tv : TE) : TE := fun σ H Q => ∀ p, H p = none → ∀ o0, (∀ xs, o0 ≠ HO.tup xs) → tk σ (upd H p o0) fun y H1 => tv σ H1 fun z H2 => H2 p = some o0 ∧ ∃ k, (∃ b, y = .ref b) ∧ KeyAt H2 k y ∧ k.depth ≤ 8 ∧ z = .int 0 ∧
  ∀ o, (∀ xs, o ≠ .tup xs) → NDict P w (upd H2 p o) p [k] → Q (.ref p) (upd H2 p o)
theorem pe_oneN {kx vx : Expr} {pos : Pos} {tk tv : TE} (hu : roomN X.A) (hk : PE X kx tk) (hv : PE X vx tv) (hshape : (evalEachOpt [some kx] X.env).zip ((evalEach [vx] X.env).map fun v => do let x ← v; standAt pos; pure x) = ([(eval kx X.env, do let x ← eval vx X.env; standAt pos; pure x)] : List (Sem Value × Sem Value)).map fun p => (some p.1, p.2) := by rfl) :
    PE X (.Dict [some kx] [vx] pos) (tOneN X.prog X.w tk tv) := by
  constructor
  intro pins s σ H Q I q
  obtain ⟨D, hD⟩ : ∃ D, s.heap.objs.size = D := ⟨_, rfl⟩
  have hn : H D = none := hD ▸ I.hok.fresh (Nat.le_refl _)
  have I1 : Inv X pins σ (upd H D (NDO X.prog X.w D [])) { s with heap := s.heap.push { cls := .type "dict", data := .dict #[] } } :=
    I.laid (a := D) (o := NDO X.prog X.w D []) (t' := s.toks) (fun _ _ q => Heap.get?_push_of_some _ q) (Nat.le_of_eq hD) (by
      subst hD
      exact ndo_new ⟨_, #[], 0, Heap.get?_push_size _ rfl, ⟨rfl, rfl, rfl⟩, rfl, rfl⟩)
  have hsys : (D == sysModules) = false := by
    have := I.big
    rw [hD] at this
    exact beq_eq_false_iff_ne.mpr (Nat.ne_of_gt this)
  rw [arm_eval_Dict, hshape, dictDisplay_pairs _ (by simp) (by simp)]
  refine wpAny_bind (wpAny_standAt (wpAny_bind (wpAny_subDictH (knd := nestedKind X.prog X.w) (Q := fun d s' => wpAny (model X.prog X.w) X.A (pure (Value.ref d)) _ _ s') hu.here (by simp) ?_)))
  unfold evalPairs
  refine wpAny_bind (thn (hk.run pins _ σ _ _ I1 (q D hn _ (fun xs z => nomatch z))) fun kv s2 ⟨y, H2, I2, ry, q2⟩ => ?_)
  refine wpAny_bind (wpAny_holding (wpAny_bind (thn (hv.run pins s2 σ H2 _ I2 q2) fun vv s3 ⟨z, H3, I3, rz, e, k, ⟨b, eb⟩, hk, hdp, ez, q3⟩ => ?_)))
  subst eb ez
  obtain rfl : kv = Value.ref b := ry
  obtain ⟨t, rfl⟩ := rz
  refine wpAny_bind (wpAny_standAt (wpAny_pure (wpAny_bind (wpAny_holding ?_))))
  unfold evalPairs
  refine wpAny_pure (wpAny_pure ⟨[(k, b, Value.int 0 t)], ⟨rfl, rfl, ⟨hk.is I3.hok rfl, hdp⟩, trivial⟩, ?_, fun h' tk hm' hs' => wpAny_pure ?_⟩)
  · rw [hD]
    exact nd_of I3 e List.nodup_nil (fun x hx => nomatch hx)
  · rw [hD] at hm' hs' ⊢
    obtain ⟨o', es', ep', ho', hx', hd', he', _, _⟩ := hm'
    have I4 := d_write (t' := tk) I3 (a := D) (ob := NDO X.prog X.w D [(k, b, Value.int 0 t)]) (by rw [e]; exact True.intro) hs' ⟨o', ho'⟩ (ndo_new ⟨o', es', ep', ho', hx', hd', he'⟩)
    exact ⟨.ref D, _, I4, rfl, q3 _ (fun xs z => nomatch z) (nd_put (xs := []) hsys (by simp) (by simp) (fun x hx => nomatch hx) (fun i x hx => by simp at hx) hk hdp (by simp) rfl ⟨_, e, fun ys z => nomatch z⟩)⟩
end
end RK
/-! R5: sorted(set) of tuples of ints, any ints, any lengths but nought: the same tuples in some order. -/
namespace RK
open PySem PySem.Spec PyProof.Rows L2
/-- a list that is a mapped one but for the order comes of one in that order -/
theorem perm_unmap {α β : Type} (f : α → β) {m l : List β} (h : m.Perm l) : ∀ {L : List α}, L.map f = l → ∃ L1 : List α, L1.Perm L ∧ L1.map f = m := by
  induction h with
  | nil =>
    rintro L e
    exact ⟨L, .refl L, e⟩
  | cons x _ ih =>
    rintro L e
    cases L with
    | nil => cases e
    | cons a L =>
      cases e
      obtain ⟨L1, p, e1⟩ := ih rfl
      exact ⟨a :: L1, p.cons a, by rw [List.map_cons, e1]⟩
  | swap x y t =>
    rintro L e
    match L, e with
    | a :: b :: L, e =>
      cases e
      exact ⟨b :: a :: L, List.Perm.swap a b L, rfl⟩
  | trans _ _ ih1 ih2 =>
    rintro L e
    obtain ⟨L1, p1, e1⟩ := ih2 e
    obtain ⟨L2, p2, e2⟩ := ih1 e1
    exact ⟨L2, p2.trans p1, e2⟩
section
variable {prog : Program} {w : World} {A : Around} {E : Value → Shared → Prop} {s : Shared}
/-- two ints -/
def TwoInts (e : Value × Value) : Prop := ∃ p t q u, e = (.int p t, .int q u)
/-- pairs of ints compared from the left: some answer comes -/
theorem lex_answer (fin : Bool) : ∀ (l : List (Value × Value)) (i : Nat), (∀ e ∈ l, TwoInts e) → ∃ b : Bool, PySem.W.KatLex prog w A true fin (fun r s' => s' = s ∧ r = b) l i s
  | [], _, _ => ⟨fin, PySem.W.kat_nil ⟨rfl, rfl⟩⟩
  | e :: l, i, h => by
    obtain ⟨p, t, q, u, rfl⟩ := h e List.mem_cons_self
    obtain ⟨b, rest⟩ := lex_answer fin l (i + 1) fun e m => h e (List.mem_cons_of_mem _ m)
    by_cases c : p = q
    · exact ⟨b, PySem.W.kat_cons (wpAny_eqBool_int (by rw [beq_iff_eq.mpr c]; exact PySem.W.kat_yes rest))⟩
    · exact ⟨decide (p < q), PySem.W.kat_cons (wpAny_eqBool_int (by rw [beq_eq_false_iff_ne.mpr c]; exact PySem.W.kat_no (TS.oneLt_ints _ ⟨rfl, rfl⟩)))⟩
/-- the values are tuples of ints, none of them empty -/
def IntTups (h : Heap) (vs : List Value) : Prop := ∀ v ∈ vs, ∃ n ns, TS.TupInts h v (n :: ns)
theorem IntTups.keeps {h h' : Heap} {vs : List Value} (x : IntTups h vs) (k : ∀ b o, h.get? b = some o → o.cls = .type "tuple" → h'.get? b = some o) : IntTups h' vs := fun v m => by
  obtain ⟨n, ns, y⟩ := x v m
  exact ⟨n, ns, y.keeps k⟩
theorem IntTups.heads {h : Heap} : ∀ {vs : List Value}, IntTups h vs → ∃ fs, PySem.W.KatTups h vs fs ∧ fs.length = vs.length ∧ ∀ f ∈ fs, ∃ n t, f = .int n t := by
  intro vs
  induction vs with
  | nil => exact fun _ => ⟨[], .nil, rfl, nofun⟩
  | cons v vs ih =>
    intro x
    obtain ⟨fs, tups, len, nums⟩ := ih fun u m => x u (List.mem_cons_of_mem v m)
    obtain ⟨n, ns, a, items, rfl, ⟨o, at_a, cls, ep, dt⟩, are⟩ := x v List.mem_cons_self
    obtain ⟨its⟩ := items
    cases are with
    | cons _ t _ => exact ⟨.int n t :: fs, .cons at_a cls dt rfl tups, congrArg (· + 1) len, List.forall_mem_cons.mpr ⟨⟨n, t, rfl⟩, nums⟩⟩
theorem IntTups.total {vs : List Value} (x : IntTups s.heap vs) : Srt.Tot prog w A s (tuples' true) fun p => p.1 ∈ vs := by
  rintro ⟨v, _⟩ ⟨u, _⟩ (hv : v ∈ vs) (hu : u ∈ vs)
  obtain ⟨_, _, a, xs, rfl, ⟨o1, g1, _, n1, d1⟩, are1⟩ := x v hv
  obtain ⟨_, _, b, ys, rfl, ⟨o2, g2, _, n2, d2⟩, are2⟩ := x u hu
  have two : ∀ e ∈ xs.toList.zip ys.toList, TwoInts e := by
    rintro ⟨p, q⟩ m
    obtain ⟨m1, m2⟩ := List.of_mem_zip m
    obtain ⟨i, t, rfl⟩ := are1.all p m1
    obtain ⟨j, k, rfl⟩ := are2.all q m2
    exact ⟨i, t, j, k, rfl⟩
  obtain ⟨ans, lex⟩ := lex_answer (prog := prog) (w := w) (A := A) (s := s) (decide (xs.size < ys.size)) _ 0 two
  exact ⟨ans, PySem.W.kat_lt g1 d1 g2 d2 lex⟩
theorem IntTups.sortable {a : Addr} {vs : List Value} (x : IntTups s.heap vs) (some_ : vs ≠ []) (no : ∀ o, s.heap.get? a = some o → o.cls ≠ .type "tuple") : Srt.Sortable prog w A s a vs := by
  intro h1 kept
  have y : IntTups h1 vs := x.keeps fun b o e c => kept b o (by rintro rfl; exact no o e c) e
  obtain ⟨fs, tups, len, nums⟩ := y.heads
  have pos : 0 < fs.length := by
    rw [len]
    exact List.length_pos_iff.mpr some_
  refine ⟨tuples' true, fun Q E q => PySem.W.kat_kind (T := .type "int") tups pos ?_ rfl q, y.total⟩
  intro f m
  obtain ⟨n, t, rfl⟩ := nums f m
  exact PySem.W.Looks.now
/-- sorted(a), a a set of such tuples -/
theorem sorted_tset {a : Addr} {L : List (Addr × List Int)} {es : Array (Int × Value)} {ep : Nat} {t : SetTable} {Q : Value → Shared → Prop} (R : SetTR prog w s.heap a L es ep t) (calm : A.handled = none) (full : ∀ p ∈ L, p.2 ≠ [])
    (want : ∀ s1 p out c, (∀ b o, s.heap.get? b = some o → s1.heap.get? b = some o) → s1.gens = s.gens → s1.os = s.os → s.heap.objs.size ≤ p → s1.heap.get? p = some (seqObj "list" out c) → out.toList.Perm (L.map fun q => Value.ref q.1) → Q (.ref p) s1) :
    wpAny (model prog w) A (call (.builtin "sorted") [.ref a]) Q E s := by
  obtain ⟨o, at_a, exact_, data⟩ := R.ob
  have few := R.few
  have small : es.size < scanBound := by
    rw [R.size]
    exact Nat.lt_trans few (by decide)
  have vals : es.toList.map (·.2) = L.map fun q => Value.ref q.1 := by
    rw [R.rows, rowsOf, List.map_map]
    rfl
  apply Calls.call_function_entry kind_sorted plain_sorted entry_sorted (args_sorted1 _)
  -- the count of arguments, the values, a list of them, its sort
  apply wpAny_bind
  apply wpAny_pure
  apply wpAny_bind
  apply collect_set (A := A.in1) calm ⟨o, at_a, exact_.1, data⟩ R.fits small R.tab.ris R.led
  intro s1 vs old1 size1 gens1 os1 perm
  rw [vals] at perm
  have lvs : vs.length < 64 := by
    have := perm.length_eq
    rw [List.length_map] at this
    omega
  have fits : vs.length ≤ sizeLine := by
    rw [sizeLine_eq]
    omega
  apply wpAny_bind
  refine wpAny_newList ?_ fits
  have here : (s1.heap.push (seqObj "list" vs.toArray 0)).get? s1.heap.objs.size = some (seqObj "list" vs.toArray 0) := Heap.get?_push_size _ rfl
  have tups : IntTups (s1.heap.push (seqObj "list" vs.toArray 0)) vs := fun v m => by
    obtain ⟨q, hq, rfl⟩ := List.mem_map.mp (perm.subset m)
    have y := tupInts_of (isT_keep (R.tup q hq) fun b u e => Heap.get?_push_of_some (seqObj "list" vs.toArray 0) (old1 b u e))
    cases z : q.2 with
    | nil => exact absurd z (full q hq)
    | cons n ns => exact ⟨n, ns, z ▸ y⟩
  have sort : 2 ≤ vs.length → Srt.Sortable prog w A.in1.in1 { s1 with heap := s1.heap.push (seqObj "list" vs.toArray 0) } s1.heap.objs.size vs := fun two =>
    tups.sortable (by rintro rfl; exact absurd two (by decide)) fun o e => by
      cases e.symm.trans here
      exact fun c => absurd (Value.type.inj c) (by decide)
  apply wpAny_bind
  apply wpAny_holding
  refine wpAny_call_entry slot_list_sort ⟨_, here, rfl⟩ entry_list_sort (Srt.list_sort_any here fits sort fun out p => ⟨_, rfl, ?_⟩) (args_list_sort _)
  obtain ⟨c, at_p⟩ := sortedHeap_at (out := out.toArray) here
  refine wpAny_pure ⟨_, rfl, want _ _ out.toArray c (fun b u e => ?_) gens1 os1 size1 at_p (p.trans perm)⟩
  have old := old1 b u e
  have lt := Heap.lt_size old
  show (sortedHeap (s1.heap.push (seqObj "list" vs.toArray 0)) s1.heap.objs.size vs out.toArray).get? b = some u
  rw [sortedHeap_old (Nat.ne_of_lt lt) (Nat.lt_of_lt_of_le lt (by rw [Heap.size_push]; exact Nat.le_succ _)), Heap.get?_push_of_some _ old]
end
def rSortedM (K : PySem.W.Frag) (P : Program) (w : World) : List V → Hp → VK → Prop := fun vs H Q => ∃ (a : Addr) (L : List (Addr × List Int)), vs = [V.ref a] ∧ H a = some (SetTO P w a L) ∧ (∀ p ∈ L, SqT K H p.1 (p.2.map V.int) ∧ p.2 ≠ []) ∧
  ∀ (L' : List (Addr × List Int)) (p : Addr), L'.Perm L → (L'.map (·.2)).Nodup → L'.length < 64 → H p = none → Q (.ref p) (upd H p (.lst (L'.map fun q => V.ref q.1)))
theorem cr_sortedM {X : Cx} (calm : X.calm = true) : CallR X (.builtin "sorted") (rSortedM X.K X.prog X.w) := by
  rintro pins s σ H _ us Q I rel ⟨a, L, rfl, at_a, tups, want⟩
  obtain ⟨es, ep, t, R⟩ := ((I.hok a _ at_a).1 : SetT0 X.prog X.w s.heap a L).full fun p hp => I.isT (tups p hp).1
  rw [Vals.ref1 rel]
  apply sorted_tset R (I.ok.hd calm) fun p hp => (tups p hp).2
  rintro ⟨h1, g1, d1, k1, o1⟩ p ⟨out⟩ c old (rfl : g1 = s.gens) (rfl : o1 = s.os) new at_p perm
  obtain ⟨L1, perm1, rfl⟩ := perm_unmap _ perm rfl
  have few : L1.length < 64 := perm1.length_eq ▸ R.few
  have fresh : H p = none := I.hok.fresh new
  have born : ObjOk X.prog X.w (upd H p (.lst (L1.map fun q => V.ref q.1))) h1 p (.lst (L1.map fun q => V.ref q.1)) := ⟨by rw [List.length_map, sizeLine_eq]; omega, _, c, vals_of_refs L1, at_p⟩
  have I1 := I.call (ch := []) (g' := s.gens) (d' := d1) (t' := k1) (Un.laid old new fresh) (I.hok.laid old new born) I.bare nofun
  exact ⟨.ref p, _, I1, rfl, want L1 p perm1 ((perm1.map (·.2)).nodup_iff.mpr R.nd) few fresh⟩
end RK
/-! R6: dict comprehensions, whatever a store means; those whose keys are nested tuples and whose values are their places. -/
namespace RK
open PySem PySem.Spec PyProof.Rows L2
/-- what holds in each block of a comprehension -/
abbrev InBlk (X : Cx) (scope : Scope) (φ : Cx → Prop) : Prop := ∀ s H C cl fp, φ (X.blk s H scope (compEnvC scope cl C X.env) fp)
/-- an iterator's turns from the heap H0 on: one x H goal is what the item x asks at H for goal to hold behind the turn -/
abbrev Turns (J : It) (H0 : Hp) (fin : Hp → Prop) (one : V → Hp → (Hp → Prop) → Prop) : Prop :=
  ∃ W : Nat → Nat → Hp → Prop, (∃ m, W 0 m H0) ∧ ∀ i m H, W i m H → (J.stop i H ∧ fin H) ∨ (J.go i H ∧ ∃ Nx : Hp → Prop, (∀ H1, Nx H1 → ∃ m', m' < m ∧ W (i + 1) m' H1) ∧ ∀ x H1, J.yld i H x H1 → one x H1 Nx)
/-- the turns of a walk of n items, by an invariant -/
theorem turns_walk {J : It} {n : Nat} {G : Hp → Prop} {Y : Nat → Hp → V → Hp → Prop} {H0 : Hp} {fin : Hp → Prop} {one : V → Hp → (Hp → Prop) → Prop} (wk : Walk J n G Y) (Pv : Nat → Hp → Prop) (first : Pv 0 H0) (known : ∀ i H, i ≤ n → Pv i H → G H)
    (step : ∀ i x H H', i < n → Pv i H → Y i H x H' → one x H' (Pv (i + 1))) (last : ∀ H, Pv n H → fin H) : Turns J H0 fin one := by
  refine ⟨fun i m H => Pv i H ∧ i + m = n, ⟨n, first, n.zero_add⟩, ?_⟩
  rintro i m H ⟨p, e⟩
  have g := known i H (by omega) p
  cases m with
  | zero =>
    cases e
    exact .inl ⟨wk.stops H g, last H p⟩
  | succ m =>
    have lt : i < n := by omega
    exact .inr ⟨wk.goes i H lt g, Pv (i + 1), fun _ p' => ⟨m, Nat.lt_succ_self m, p', by omega⟩, fun x H' y => step i x H H' lt p (wk.yields i H x H' lt g y)⟩
/-- what d[y] = z asks in a block, by put -/
def Puts (put : Addr → V → V → Hp → (Hp → Prop) → Prop) (Y : Cx) : Prop := ∀ {pins σ H s E D y z u r Nx} {Q : Unit → Shared → Prop}, L2.Inv Y pins σ H s → RelV y u → RelV z r → put D y z H Nx →
  (∀ s' H', L2.Inv Y pins σ H' s' → Nx H' → Q () s') → wpAny (model Y.prog Y.w) Y.A (dictSet D u r) Q E s
section
variable {X : Cx} {kx vx tg iter : Expr} {ifs : List Expr} {scope : Scope} {own : List (Str × Nat)} {pos : Pos} {wi : TI} {g : TG} {tt : TT} {tk tv : TE} {put : Addr → V → V → Hp → (Hp → Prop) → Prop}
section
variable {s3 : Shared} {H3 : Hp} {ce : Env} {fp : List Addr} {J : It} {it D : Addr} {tn : Nat → Heap → Prop} {σ : L2.St} {vs : List Nat}
/-- the block between two turns -/
structure Between (X : Cx) (s3 : Shared) (H3 : Hp) (scope : Scope) (ce : Env) (fp : List Addr) (tn : Nat → Heap → Prop) (σ : L2.St) (i : Nat) (H : Hp) (s : Shared) : Prop where
  inv : L2.Inv (X.blk s3 H3 scope ce fp) [] σ H s
  at_ : tn i s.heap
  bare : ∀ b ∈ fp, H b = none
theorem Between.foot {i : Nat} {H : Hp} {s : Shared} (B : Between X s3 H3 scope ce fp tn σ i H s) : ∀ b ∈ fp, FpOk (X.blk s3 H3 scope ce fp) [] H b := by
  intro b hb
  obtain ⟨e1, e2⟩ := B.inv.ok.exf b hb
  refine ⟨B.bare b hb, e1, B.inv.ok.exfs b hb, Or.inl hb, e2, ?_⟩
  intro p (hp : p ∈ ([] : List (Addr × Obj)))
  exact nomatch hp
theorem Between.again (T : Turn X.prog X.w X.K tg J fp it tn) {i : Nat} {σ1 : L2.St} {H : Hp} {s s1 : Shared} (t : tn i s.heap) (same : wipe σ1 vs = wipe σ vs) (I : L2.Inv (X.blk s3 H3 scope ce fp) ([] ++ pinsAt fp s.heap) σ1 H s1) :
    Between X s3 H3 scope ce fp tn (wipe σ vs) i H s1 := by
  have pin : ∀ {b o}, b ∈ fp → s.heap.get? b = some o → s1.heap.get? b = some o ∧ H b = none := fun {b o} hb e => by
    obtain ⟨p1, p2, _⟩ := I.pin (b, o) (List.mem_append_right _ (List.mem_append_right _ (mem_pinsAt hb e)))
    exact ⟨p1, p2⟩
  have lens : (wipe σ vs).length = σ1.length := by
    rw [← same]
    exact wipe_length σ1 vs
  constructor
  · exact I.unpinned.weak lens fun j v e => (wipe_some (same ▸ e)).1
  · exact T.keep i _ _ t fun b hb o e => (pin hb e).1
  · intro b hb
    obtain ⟨o, e, _⟩ := T.obj i _ t b hb
    exact (pin hb e).2
/-- the block's loop -/
theorem block_loop {R : Result → Shared → Prop} {fin : Hp → Prop} {W : Nat → Nat → Hp → Prop} {i m : Nat} {H : Hp} {s : Shared} (calm : X.calm = true) (T : Turn X.prog X.w X.K tg J fp it tn)
    (pg : PG (X.blk s3 H3 scope ce fp) tg g) (pt : PTs (X.blk s3 H3 scope ce fp) ifs tt) (pk : PE (X.blk s3 H3 scope ce fp) kx tk) (pv : PE (X.blk s3 H3 scope ce fp) vx tv) (pp : Puts put (X.blk s3 H3 scope ce fp))
    (turns : ∀ i m H, W i m H → (J.stop i H ∧ fin H) ∨ (J.go i H ∧ ∃ Nx : Hp → Prop, (∀ H1, Nx H1 → ∃ m', m' < m ∧ W (i + 1) m' H1) ∧ ∀ x H1, J.yld i H x H1 → g x (wipe σ vs) H1 fun σ2 H2 => wipe σ2 vs = wipe σ vs ∧ tt σ2 H2 fun b H3 =>
      if b = true then tk σ2 H3 fun y H4 => tv σ2 H4 fun z H5 => put D y z H5 Nx else Nx H3))
    (leave : ∀ H s, L2.Inv (X.blk s3 H3 scope ce fp) [] (wipe σ vs) H s → fin H → R (.ok .next) s) (B : Between X s3 H3 scope ce fp tn (wipe σ vs) i H s) (w : W i m H) :
    codeAny (model X.prog X.w) X.A (.compLoop (.DictComp kx vx [⟨tg, iter, ifs, 0⟩] scope pos) 0 (.ref it) (.ref D) ce) R s := by
  apply compLoop_anyD (fun m s => ∃ i H, Between X s3 H3 scope ce fp tn (wipe σ vs) i H s ∧ W i m H) _ m ⟨i, H, B, w⟩
  clear B w i m H s
  rintro m s ⟨i, H, B, w⟩
  obtain ⟨stop, f⟩ | ⟨go, Nx, lower, item⟩ := turns i m H w
  · apply thnF (T.done (X.blk s3 H3 scope ce fp) rfl rfl rfl calm i [] s _ H (fun _ _ => False) B.inv B.foot B.at_ stop)
    rintro _ s1 ⟨rfl, I1⟩
    exact leave H s1 I1 f
  · apply thnF (T.item (X.blk s3 H3 scope ce fp) rfl rfl rfl calm i [] s _ H (fun _ _ => False) B.inv B.foot B.at_ go)
    rintro _ s1 ⟨u, rfl, told⟩
    apply thnF told
    rintro _ s2 ⟨x, H2, I2, rx, y, t2, bare⟩
    have B2 : Between X s3 H3 scope ce fp tn (wipe σ vs) (i + 1) H2 s2 := ⟨I2, t2, bare⟩
    have held := I2.pinned B2.foot (T.obj _ _ t2)
    -- the turn's end, wherever it comes
    have turned : ∀ {σ1 H1 s'}, wipe σ1 vs = wipe σ vs → L2.Inv (X.blk s3 H3 scope ce fp) ([] ++ pinsAt fp s2.heap) σ1 H1 s' → Nx H1 → ∃ m', m' < m ∧ ∃ i H, Between X s3 H3 scope ce fp tn (wipe σ vs) i H s' ∧ W i m' H := fun {σ1 H1 s'} same I nx => by
      obtain ⟨m', lt, w'⟩ := lower H1 nx
      exact ⟨m', lt, i + 1, H1, Between.again T t2 same I, w'⟩
    apply thnF (pg.run _ s2 _ H2 x u _ held rx (item x H2 y))
    rintro _ s4 ⟨σ1, H4, I4, same, q4⟩
    apply thnF (pt.run _ s4 σ1 H4 _ I4 q4)
    rintro (_ | _) s5 ⟨H5, I5, q5⟩
    · exact turned same I5 q5
    · apply thnF (pk.run _ s5 σ1 H5 _ I5 q5)
      rintro key s6 ⟨yk, H6, I6, rk, q6⟩
      apply thnF (pv.run _ s6 σ1 H6 _ I6 q6)
      rintro val s7 ⟨yv, H7, I7, rv, q7⟩
      exact pp I7 rk rv q7 fun s' H' I' nx => turned same I' nx
end
/-- what is asked of a dict comprehension: o0 the new dict's own word -/
def tDcG (o0 : Addr → HO) (put : Addr → V → V → Hp → (Hp → Prop) → Prop) (wi : TI) (g : TG) (tt : TT) (tk tv : TE) (vs : List Nat) : TE := fun σ H Q => wi σ H fun J H1 => ∀ D, H1 D = none → sysModules < D →
  Turns J (upd H1 D (o0 D)) (fun H => Q (.ref D) H) fun x H2 Nx => g x (wipe σ vs) H2 fun σ3 H3 => wipe σ3 vs = wipe σ vs ∧ tt σ3 H3 fun b H4 => if b = true then tk σ3 H4 fun y H5 => tv σ3 H5 fun z H6 => put D y z H6 Nx else Nx H4
theorem pe_dcG {o0 : Addr → HO} (calm : X.calm = true) (nd : X.N.Nodup) (hi : PI X tg iter wi) (ok : BlkOk X.N X.env.scope scope own) (hg : InBlk X scope fun Y => PG Y tg g) (ht : InBlk X scope fun Y => PTs Y ifs tt) (hk : InBlk X scope fun Y => PE Y kx tk)
    (hv : InBlk X scope fun Y => PE Y vx tv) (born : ∀ (H : Hp) (h : Heap), ObjOk X.prog X.w (upd H h.objs.size (o0 h.objs.size)) (h.push { cls := .type "dict", data := .dict #[] }) h.objs.size (o0 h.objs.size)) (hp : InBlk X scope (Puts put))
    (hs : ∀ x, foldedSetIterable iter X.env x = pure x) : PE X (.DictComp kx vx [⟨tg, iter, ifs, 0⟩] scope pos) (tDcG o0 put wi g tt tk tv (own.map (·.2))) := by
  constructor
  intro pins s σ H Q I want
  rw [arm_eval_DictComp]
  have clo : closureFor scope X.env = pure (cloFrom X.env.cells scope.names []) := closure_ok fun y hy e => by
    have z := ok.free y hy e
    exact z.elim (fun z => I.ok.has _ (Or.inl z)) fun z => I.ok.has _ (Or.inr z)
  apply wpAny_comprehension_free (use := none) rfl hs clo ok.kind (fun y hy e => (ok.uniq y hy).trans (congrArg some e))
  apply thn (hi.run pins s σ H _ I want)
  intro _ s1 iters
  apply thn iters
  rintro _ s2 ⟨it, fp, tn, J, H2, rfl, I2, T, t2, feet, q⟩
  refine wpAny_newObj_type ?_
  apply newEnv_comp
  have fresh : H2 s2.heap.objs.size = none := I2.hok.fresh (Nat.le_refl _)
  obtain ⟨W, ⟨m, w0⟩, turns⟩ := q _ fresh I2.big
  -- the heap with the new dict
  have I3 : L2.Inv X pins σ (upd H2 s2.heap.objs.size (o0 s2.heap.objs.size)) { s2 with heap := s2.heap.push { cls := .type "dict", data := .dict #[] } } :=
    I2.laid (t' := s2.toks) (fun _ _ e => Heap.get?_push_of_some _ e) (Nat.le_refl _) (born H2 s2.heap)
  have below : ∀ b ∈ fp, b < s2.heap.objs.size := fun b hb => by
    obtain ⟨_, e, _⟩ := T.obj 0 _ t2 b hb
    exact Heap.lt_size e
  have feet3 : ∀ b ∈ fp, FpOk X pins (upd H2 s2.heap.objs.size (o0 s2.heap.objs.size)) b := fun b hb => by
    obtain ⟨z, rest⟩ := feet b hb
    exact ⟨(upd_ne (Nat.ne_of_lt (below b hb))).trans z, rest⟩
  have I4 := block_start I3 ok nd fun b hb => ⟨feet3 b hb, Nat.lt_of_lt_of_le (below b hb) (Nat.le_of_lt (by rw [Heap.size_push]; exact Nat.lt_succ_self _))⟩
  have t3 : tn 0 (s2.heap.push { cls := .type "dict", data := .dict #[] }) := T.keep 0 _ _ t2 fun _ _ _ e => Heap.get?_push_of_some _ e
  have t4 : tn 0 (pushCells ((s2.heap.push { cls := .type "dict", data := .dict #[] }).push { cls := .type "dict", data := .dict #[] }) scope.names) := T.keep 0 _ _ t3 fun _ _ _ e => pushCells_keeps _ _ _ _ (Heap.get?_push_of_some _ e)
  have loop := block_loop (pos := pos) (iter := iter) (R := compPost (model X.prog X.w) X.A X.xe none (EP X pins σ Q) (.ref s2.heap.objs.size) (s2.heap.push { cls := .type "dict", data := .dict #[] }).objs.size) calm T (hg _ _ _ _ _) (ht _ _ _ _ _) (hk _ _ _ _ _) (hv _ _ _ _ _) (hp _ _ _ _ _) turns ?_ ⟨I4, t4, fun b hb => (feet3 b hb).1⟩ w0
  · exact codeAny_compStart_dict loop (T.self X.A 0 _ _ _ t4 loop)
  · intro H5 s5 I5 f
    have I6 : L2.Inv X pins σ H5 s5 := I3.call' (ch := fp) I5.os I5.base I5.hok I5.bare fun b hb => by
      obtain ⟨_, a1, a2, a3, a4, a5⟩ := feet3 b hb
      exact ⟨a3, a1, a4, a5⟩
    obtain ⟨names, ns, _⟩ := I5.loc
    obtain ⟨a0, a1, _, a3, a4, a5⟩ := I3.fpOk (Nat.le_refl _) I5.free
    exact ⟨names, ns, fun h7 but => ⟨.ref s2.heap.objs.size, H5, I6.turned (t' := s5.toks) (fun b o ne e => (but.2 b ne).trans e) a0 a1 a3 a4 a5, rfl, f⟩⟩
/-! ### keys: nested tuples; values: their places -/
end
theorem nd_empty {P : Program} {w : World} {H : Hp} {D : Addr} (h : (D == sysModules) = false) : NDict P w (upd H D (NDO P w D [])) D [] :=
  ⟨⟨[], upd_same, h, by simp, rfl, List.nodup_nil, fun x (hx : x ∈ []) => absurd hx (by simp), fun i x hx => by simp at hx⟩⟩
theorem nd_born {P : Program} {w : World} {H : Hp} {D : Addr} (h : sysModules < D) : NDict P w (upd H D (NDO P w D [])) D [] := nd_empty (beq_eq_false_iff_ne.mpr (Nat.ne_of_gt h))
def NPut (P : Program) (w : World) (D : Addr) (y z : V) (H : Hp) (Nx : Hp → Prop) : Prop := ∃ ks k, NDict P w H D ks ∧ (∃ b, y = .ref b) ∧ KeyAt H k y ∧ k.depth ≤ 8 ∧ k ∉ ks ∧ ks.length < 1000 ∧ z = .int (ks.length : Nat) ∧
  ∀ o, (∀ xs, o ≠ HO.tup xs) → NDict P w (upd H D o) D (ks ++ [k]) → Nx (upd H D o)
theorem puts_N {Y : Cx} (room : roomN Y.A) : Puts (NPut Y.prog Y.w) Y := by
  rintro pins σ H s E D _ _ u r Nx Q I ru rr ⟨ks, k, d, ⟨b, rfl⟩, key, deep, new, few, rfl, next⟩ done
  cases ru
  obtain ⟨t, rfl⟩ := rr
  obtain ⟨xs, at_D, notSys, _, rfl, nodup, keys, places⟩ := d.ex
  rw [List.length_map] at few
  apply wpAny_dictSet_heap (knd := nestedKind Y.prog Y.w) (hsz := by rw [sizeLine_eq]; omega) room.here ⟨key.is I.hok rfl, deep⟩ (nd_of I at_D nodup keys)
  intro h1 now but
  rw [storedH_new (atKey_none.mpr new)] at now
  obtain ⟨o1, es, ep, e1, exact1, data1, ents, _, _⟩ := now
  have I1 := d_write (t' := s.toks + (nestedKind Y.prog Y.w).draws k) I (a := D) (ob := NDO Y.prog Y.w D (xs ++ [(k, b, Value.int (((xs.map (·.1)).length : Nat) : Int) t)])) (by rw [at_D]; trivial) but ⟨o1, e1⟩ (ndo_new ⟨o1, es, ep, e1, exact1, data1, ents⟩)
  exact done _ _ I1 (next _ nofun (nd_put notSys few nodup keys places key deep new (by rw [List.length_map]) ⟨_, at_D, nofun⟩))
section
variable {X : Cx} {kx vx tg iter : Expr} {ifs : List Expr} {scope : Scope} {own : List (Str × Nat)} {pos : Pos} {wi : TI} {g : TG} {tt : TT} {tk tv : TE}
def tDcN (P : Program) (w : World) : TI → TG → TT → TE → TE → List Nat → TE := tDcG (fun D => NDO P w D []) (NPut P w)
theorem pe_dcN (calm : X.calm = true) (room : roomN X.A) (nd : X.N.Nodup) (hi : PI X tg iter wi) (ok : BlkOk X.N X.env.scope scope own) (hg : InBlk X scope fun Y => PG Y tg g) (ht : InBlk X scope fun Y => PTs Y ifs tt) (hk : InBlk X scope fun Y => PE Y kx tk)
    (hv : InBlk X scope fun Y => PE Y vx tv) (hs : ∀ x, foldedSetIterable iter X.env x = pure x := by intro _; rfl) : PE X (.DictComp kx vx [⟨tg, iter, ifs, 0⟩] scope pos) (tDcN X.prog X.w wi g tt tk tv (own.map (·.2))) :=
  pe_dcG calm nd hi ok hg ht hk hv (fun H h => ndo_new ⟨_, #[], 0, Heap.get?_push_size _ rfl, ⟨rfl, rfl, rfl⟩, rfl, rfl⟩) (fun _ _ _ _ _ => @puts_N (X.blk _ _ _ _ _) room) hs
end
end RK
/-! R7: promises of defs that are kept where no repr is under way; repr of a list of two bools. -/
namespace RK
open PySem PySem.Spec PyProof.Rows L2
/-- a promise at each place with room, no repr under way -/
structure FnOkG (P : Program) (w : World) (K : PySem.W.Frag) (mg : Str → Option Value) (base : Heap) (CX : CXT) (k : Nat) (f : Addr) (fd : FuncData) (ps : List Str) (sp : Sp) : Prop where
  count : ∀ {vs H Q E}, sp vs H Q E → vs.length = ps.length
  kept : ∀ {A : Around}, Room k A → A.guards = some [] → KeptAt P w K mg base CX f fd ps sp A
/-- the place in a def's body -/
abbrev bodyA (A : Around) (d : DefA) (K : PySem.W.Frag) (s : Shared) (cdv : Value) : Around := A.deeper (envOfC d.qual (defScope d.st) s.heap.objs.size (d.addr K) cdv)
def flowVal : Flow → Value
  | .ret v => v
  | _ => .none
theorem flow_end {X : Cx} {P : Program} {w : World} {out : List Env} {H0 : Hp} {s0 s' : Shared} {Q : VK} {fl : Flow}
    (back : ∀ {σ H v u}, L2.Inv X [] σ H s' → RelV v u → Q v H → CE out P w H0 s0 Q u s') (h : SP X [] { nx := fun _ H => Q .non H, rt := Q } fl s') : CE out P w H0 s0 Q (flowVal fl) s' := by
  match fl, h with
  | .ret _, ⟨_, _, _, J, rv, q⟩ => exact back J rv q
  | .next, ⟨_, _, J, q⟩ => exact back (v := .non) J rfl q
  | .brk, ⟨_, _, _, no⟩ => exact no.elim
  | .cont, ⟨_, _, _, no⟩ => exact no.elim
/-- one place: a def of the text by its body -/
theorem KeptAt.body {P : Program} {w : World} {K : PySem.W.Frag} {mg : Str → Option Value} {base : Heap} {k : Nat} {d : DefA} {fd : FuncData} {N ps : List Str} {sp : Sp} {A : Around} (F : FnP K d.name d.qual d.st (d.addr K) fd) (S : FnScope N ps (defScope d.st))
    (count : ∀ {vs H Q E}, sp vs H Q E → vs.length = ps.length) (room : Room (k + 1) A)
    (walk : ∀ (cdv : Value) (out : List Env) (s : Shared) (H : Hp) (vs : List V) (Q : VK) (E : XK), Room k (bodyA A d K s cdv) → sp vs H Q E →
      ∃ t, PSs (cxOf CX0 P w K mg base N d.qual (defScope d.st) (d.addr K) cdv A out s H E) (defBody d.st) t ∧ t { nx := fun _ H' => Q .non H', rt := Q } (L2.start N vs) H) :
    KeptAt P w K mg base CX0 (d.addr K) fd ps sp A := by
  intro out s H given us vs Q E world binds rel want
  obtain ⟨_, _, _, _, _, _, _, cdv, _, _, rfl, found, code, _⟩ := F.ex
  obtain ⟨t, steps, ends⟩ := walk cdv out s H vs Q E (room.deeper _) want
  have old : ∀ b o, base.get? b = some o → s.heap.get? b = some o := fun b o z => (world.bs b o z).1
  have top : K.In s.heap := world.mod.kin.keeps old
  apply codeAny_call_function room.depth (top _ _ found) rfl S.co S.gen rfl (PySem.W.codeRec_of top code)
  apply binds
  apply wpAny_newFunctionEnv_cells S.kind
  · intro y hy
    have hp := S.par y.1 (List.of_mem_zip (show (y.1, y.2) ∈ _ from hy)).1
    exact hp.imp id fun c => ⟨c, PySem.W.cellsFrom_some _ _ _ (.inl c)⟩
  · intro env ee s1 inn
    cases ee
    refine ⟨(world.mod.nolimit.keeps old).keeps inn.toInCall.keep, codeAny_func (wpAny_mono (steps.run [] s1 _ H _ (inv_start S room.hd world (count want) rel inn) ends) ?_ fun _ _ z => z)⟩
    intro fl s2 z
    have z2 : CE out P w H s Q (flowVal fl) s2 := flow_end (fun {σ H' v u} J rv q => ⟨v, H', J.os, J.bare, J.base, J.hok, rv, q⟩) z
    cases fl <;> exact z2
theorem pe_callG {X : Cx} {CX : CXT} {k : Nat} {f : Addr} {fd : FuncData} {ps : List Str} {sp : Sp} {E : XK} {x : Str} {p pos : Pos} {e : Expr} {es : List Expr} {t : TA} (F : FnOkG X.prog X.w X.K X.mg X.base CX k f fd ps sp) (hr : Room k X.A) (quiet : X.A.guards = some []) (hg : Gl X x) (hm : X.mg x = some (.ref f))
    (kp : PySem.W.keepIn X.K (.ref f) = true) (hb : Binds X.K fd ps []) (hx : Passes CX X E) (ha : PA X (e :: es) t) (pl : Plainly X x e es pos) : PE X (.Call (.Name x p) (e :: es) [] pos) (tCall sp [] E t) := by
  obtain ⟨n1, n2, n3⟩ := pl
  constructor
  intro pins s σ H Q I want
  apply wpAny_Call_Name_kw (ld_glob I hg hm _ n1)
  apply PySem.W.callWith_K (h₀ := X.base) I.ok.mod.kin kp (thn (ha.run pos pins s σ H _ I want) _) n2 n3
  rintro us s1 ⟨vs, H1, I1, rel, want1⟩
  rw [List.append_nil] at want1
  exact ⟨I1.kIn, (F.kept hr quiet).call I1.env0 (rel.length.symm.trans (F.count want1)) hb hx I1 rel want1 fun s' u c => I1.after c⟩
/-! ### the end: the law's def at the heap behind the top -/
section
variable {P : Program} {w : World} {K : PySem.W.Frag} {mg mb : Str → Option Value} {h : Heap} {H : Hp} {a : Addr} {its : Array Value}
/-- H tracks the script's list at most -/
structure Script (K : PySem.W.Frag) (h : Heap) (H : Hp) (a : Addr) (its : Array Value) : Prop where
  list : h.get? a = some { cls := .type "list", data := .seq its }
  lone : ∀ b, b ≠ a → H b = none
  own : H a = none ∨ K.lookup a = none
theorem Script.frag (S : Script K h H a its) (t : K.In h) : K.In (hidT h H) := by
  intro b o e
  apply hidT_get (t b o e)
  by_cases n : b = a
  · subst n
    exact S.own.resolve_right (by rw [e]; exact nofun)
  · exact S.lone b n
theorem Script.ns (S : Script K h H a its) {b : Addr} {m : Str → Option Value} (n : h.Ns b m) : (hidT h H).Ns b m := by
  obtain ⟨o, es, ep, e, dt, rest⟩ := n
  refine ⟨o, es, ep, hidT_get e (S.lone b ?_), dt, rest⟩
  rintro rfl
  have z := e.symm.trans S.list
  cases z
  exact nomatch dt
theorem Script.env {s : Shared} (S : Script K s.heap H a its) (t : K.In s.heap) (n : s.heap.Ns mainGlobals mg) (nb : s.heap.Ns builtinsNs mb) (boot : ∀ x : Str, x ≠ "__name__" → mb x = bootBuiltins x) (lim : s.heap.NoLimit) (gens : s.gens = #[]) (ok : HOk P w H s.heap) :
    Env0 P w K mg (hidT s.heap H) callerA [] s H where
  frames := rfl
  mod := ⟨S.frag t, S.ns n, ⟨mb, S.ns nb, boot⟩, lim.imp fun _ z => ⟨S.ns z.1, z.2⟩⟩
  bs := fun _ _ => of_hidT
  bsz := Nat.le_of_eq (hidT_size _ _)
  funs := trivial
  frf := nofun
  hok := ok
  bare := .of_eq gens
/-- what was there is there, and as it was: the list is frozen -/
theorem ce_still {s s' : Shared} {u : Value} (S : Script K s.heap H a its) (fz : H a = none ∨ ∃ o xs, H a = some (.frz o (.lst xs))) (ok : HOk P w H s.heap) (c : CE [] P w H s (fun v _ => v = .bl true) u s') :
    u = .bool true ∧ OldK s.heap s'.heap ∧ s'.os = s.os ∧ AllBare s'.gens := by
  obtain ⟨_, H', os, bare, un, ok', rel, rfl⟩ := c
  refine ⟨rel, OldK.of_keep fun b o e => ?_, os, bare⟩
  have loose : H b = none → s'.heap.get? b = some o := fun n => un.keep b o e n nofun nofun
  by_cases n : b = a
  · subst n
    rcases fz with n | ⟨o1, xs, f⟩
    · exact loose n
    · have was := (ok b _ f).1
      have is := (ok' b _ (un.frzs b o1 _ f)).1
      rw [e] at was
      rw [Option.some.inj was]
      exact is
  · exact loose (S.lone b n)
end
theorem walk_ofEG {l : PySem.W.OpenLaw} {most k : Nat} {q : Program} {loose : List Str} {XP : (Str → Option Value) → Heap → Prop} {YP : World → Heap → Prop} {d : DefRec} {CX : CXT} {x : Str} (hmost : l.most = some most) (small : most ≤ sizeLine) (nodef : d.params.defaults = []) (room : Room k callerA)
    (F : ∀ (w : World) (mg : Str → Option Value) (fa : Addr) (h : Heap), YP w h → h.Ns mainGlobals mg → mg d.name = some (.ref fa) → ∃ (K : PySem.W.Frag) (fd : FuncData) (sp : Sp), K.In h ∧ (∀ (s : Shared) (u : Value), BindsTo s fd ⟨[u], []⟩ [(x, u)]) ∧
        (∀ (H : Hp) (a : Addr) (ns : List Int), ns.length ≤ most → SqL K H a (ns.map V.int) → sp [.ref a] H (fun v _ => v = .bl true) fun _ _ _ => False) ∧ ∀ base : Heap, K.In base → base.Ns mainGlobals mg → FnOkG l.prog w K mg base CX k fa fd [x] sp)
    (noX : ∀ (H : Hp) (s : Shared) (e : Value) (s' : Shared), ¬ CX [] H s (fun _ _ _ => False) e s') : PySem.W.WalkO q loose XP YP l.row.toRowW d [] (fun f vs => PySem.call f vs) := by
  apply Att.attach_call hmost nodef
  intro w s0 s1 mg mb fa _ _ _ _ a vs ns G Y _ _ _ named script nums few gens
  obtain ⟨K, fd, sp, top, binds, law, FF⟩ := F w mg fa _ Y G.T.g named
  have rel : Vals (ns.map V.int) vs := vals_ints nums
  -- whatever H tracks
  have run : ∀ H : Hp, Script K s1.heap H a vs.toArray → (H a = none ∨ ∃ o xs, H a = some (.frz o (.lst xs))) → HOk l.prog w H s1.heap → SqL K H a (ns.map V.int) →
      codeAny (model l.prog w) callerA (.call (.ref fa) ⟨[.ref a], []⟩) (fun r s' => r = .ok (.ret (.bool true)) ∧ OldK s1.heap s'.heap ∧ s'.os = s1.os ∧ AllBare s'.gens) s1 := by
    intro H S fz ok sq
    have e0 := S.env (P := l.prog) (w := w) top G.T.g G.T.b G.T.builtins G.T.nolimit gens ok
    refine codeAny_mono ((FF _ e0.mod.kin e0.mod.glob).kept room rfl [] s1 H _ [.ref a] [.ref a] _ _ e0 (binds s1 (.ref a)) (.cons rfl .nil) (law H a ns few sq)) ?_
    intro r s' c
    match r, c with
    | .error e, c => exact (noX H s1 e s' c).elim
    | .ok (.ret u), c =>
      obtain ⟨rfl, rest⟩ := ce_still S fz ok c
      exact ⟨rfl, rest⟩
    | .ok .next, c => exact c.elim
    | .ok .brk, c => exact c.elim
    | .ok .cont, c => exact c.elim
  have len : vs.length ≤ sizeLine := by
    have := nums.length
    omega
  by_cases n : K.lookup a = none
  · -- a list of the machine's: it is tracked, frozen
    refine run (upd (fun _ => none) a (.frz { cls := .type "list", data := .seq vs.toArray } (.lst (ns.map V.int)))) ⟨script, fun b ne => upd_ne ne, .inr n⟩ (.inr ⟨_, _, upd_same⟩) ?_ (.inl (.inr ⟨_, upd_same⟩))
    intro b u e
    by_cases z : b = a
    · subst z
      rw [upd_same] at e
      cases e
      exact ⟨script, by rw [rel.length]; exact len, vs, _, rel, script⟩
    · rw [upd_ne z] at e
      cases e
  · obtain ⟨o, z⟩ := Option.ne_none_iff_exists'.mp n
    have oe := (top a o z).symm.trans script
    cases oe
    exact run (fun _ => none) ⟨script, fun _ _ => rfl, .inl rfl⟩ (.inl rfl) nofun (.inr ⟨_, vs.toArray, _, z, rfl, rfl, rfl, by simpa using len, by simpa using rel⟩)
/-! ### repr -/
theorem reads_bls (h : Heap) (bs : List Bool) : ∀ us : List Value, Vals (bs.map V.bl) us → ReadsAll h us (bs.map PyData.bool) [] := by
  induction bs with
  | nil =>
    intro us r
    cases r
    exact .nil
  | cons b bs ih =>
    intro us r
    cases r with
    | cons r1 rest =>
      cases r1
      exact .cons (as := []) (bs := []) (.bool b) (ih _ rest)
/-- repr of a list of bools -/
def reprBs (bs : List Bool) : Str := (PyData.list (bs.map PyData.bool)).shown
theorem two_depth : ∀ b c : Bool, (PyData.list ([b, c].map PyData.bool)).depth ≤ 6 := by decide
theorem two_short : ∀ b c : Bool, (PyData.list ([b, c].map PyData.bool)).shown.length ≤ sizeLine := by decide +kernel
theorem call_reprBs {X : Cx} (quiet : X.A.guards = some []) (hu : X.A.units + 8 < cLine) : CallR X (.builtin "repr") (fun xs H Q => ∃ a b c, xs = [.ref a] ∧ SqL X.K H a [V.bl b, V.bl c] ∧ Q (.str (reprBs [b, c])) H) := by
  rintro pins s σ H _ us Q I rel ⟨a, b, c, rfl, sq, want⟩
  obtain ⟨items, vals, at_list, _⟩ := I.list sq
  obtain ⟨o, here, cls, n, dt⟩ := at_list.isList
  have two : ReadsAll s.heap items ([b, c].map PyData.bool) [] := reads_bls s.heap [b, c] items vals
  have rd : Reads s.heap (.ref a) (.list ([b, c].map PyData.bool)) [a] := .list here cls dt (by rwa [List.toList_toArray])
  have dp := two_depth b c
  rw [Vals.ref1 rel]
  apply repr_of_reads' rd rfl nofun quiet (by omega) (fun _ _ z => z) _ (two_short b c)
  exact fun h' u tk old => ⟨.str (reprBs [b, c]), H, I.kept (t' := tk) old, ⟨u, rfl⟩, want⟩
theorem call_reprB {X : Cx} : CallR X (.builtin "repr") (fun xs H Q => ∃ b, xs = [.bl b] ∧ Q (.str (if b = true then "True" else "False")) H) := by
  rintro pins s σ H _ us Q I rel ⟨b, rfl, want⟩
  obtain ⟨u, rfl, r⟩ := vals1 rel
  cases r
  exact PySem.P.repr_of_bool ⟨.str _, H, I.tok _, ⟨_, rfl⟩, want⟩
end RK
/-! R8: x = {k: v for ..}, x a local name. -/
namespace RK
open PySem PySem.Spec PyProof.Rows L2
theorem ps_setDc {X : Cx} {i : Nat} {y : Str} {py : Pos} {kx vx tg iter : Expr} {ifs : List Expr} {scope : Scope} {own : List (Str × Nat)} {pos spos : Pos} {wi : TI} {g : TG} {tt : TT} {tk tv : TE} (calm : X.calm = true) (nd : X.N.Nodup) (slot : X.N[i]? = some y) (local_ : X.env.scope.names.lookup y = some .local)
    (swaps : swapsWith (.DictComp kx vx [⟨tg, iter, ifs, 0⟩] scope pos) (some (.Name y py)) spos.line X.env = pure true) (hi : PI X tg iter wi) (ok : BlkOk X.N X.env.scope scope own) (hg : InBlk X scope fun Y => PG Y tg g) (ht : InBlk X scope fun Y => PTs Y ifs tt) (hk : InBlk X scope fun Y => PE Y kx tk)
    (hv : InBlk X scope fun Y => PE Y vx tv) (hs : ∀ x, foldedSetIterable iter X.env x = pure x := by intro _; rfl) : PS X (.Assign [.Name y py] (.DictComp kx vx [⟨tg, iter, ifs, 0⟩] scope pos) spos) (tAsg (tDc wi g tt tk tv (own.map (·.2))) (gName i)) := by
  constructor
  intro pins s σ H D I (want : tDc wi g tt tk tv (own.map (·.2)) σ H fun x H1 => gName i x σ H1 D.nx)
  have made : wpAny (model X.prog X.w) X.A (comprehension (.DictComp kx vx [⟨tg, iter, ifs, 0⟩] scope pos) scope X.env (firstIterPos [⟨tg, iter, ifs, 0⟩] pos) newDict false (eval iter X.env) (some (assign (.Name y py) X.env))) (fun _ s' => SP X pins D .next s') X.xe s := by
    apply dc_core calm nd I hi ok hg ht hk hv hs want
    intro L C s1 names H1 I1 next ns free
    -- the store, then the block's names are let go
    obtain ⟨a0, a1, _, a3, a4, a5⟩ := free
    apply wpAny_assign_Name
    apply store_ok2 (v := V.ref L) I1 nd slot (Or.inl local_) rfl _ (Or.inr local_)
    rintro s2 I2 ⟨c, but, where_⟩
    have ne : C ≠ c := where_.elim (fun z => by rw [z]; exact a1) fun z e => a4 y c z e.symm
    exact ⟨names, ns.sameBut but ne, fun h3 but3 => ⟨_, H1, I2.turned (t' := s2.toks) (fun b o z e => (but3.2 b z).trans e) a0 a1 a3 a4 a5, next⟩⟩
  rw [exec_Assign_Name_used _ _ _ _ swaps]
  exact wpAny_bind (wpAny_standAt (wpAny_bind (wpAny_bind (thn made fun _ _ z => wpAny_pure (wpAny_pure z)))))
end RK
/-! W0: the facts of the top, calls of the text's defs, what stands in the heap. -/
namespace RK
open PySem PySem.Spec PyProof.Rows L2
/-- a def keeps its promise -/
structure Fn (P : Program) (w : World) (K : PySem.W.Frag) (mg : Str → Option Value) (base : Heap) (k : Nat) (d : DefA) (ps : List Str) (sp : Sp) : Prop where
  ex : ∃ fd, FnOk P w K mg base CX0 k (d.addr K) fd ps sp ∧ Binds K fd ps [] ∧ FnP K d.name d.qual d.st (d.addr K) fd
structure FnG (P : Program) (w : World) (K : PySem.W.Frag) (mg : Str → Option Value) (base : Heap) (k : Nat) (d : DefA) (ps : List Str) (sp : Sp) : Prop where
  ex : ∃ fd, FnOkG P w K mg base CX0 k (d.addr K) fd ps sp ∧ Binds K fd ps [] ∧ FnP K d.name d.qual d.st (d.addr K) fd
/-- the facts of the top -/
structure Gs (K : PySem.W.Frag) (mg : Str → Option Value) : Prop where
  says : SaysA okL fnL K
  glo : ∀ x ∈ glos1 ++ glos2, mg x = some (.ref (He.ga K x))
  fre : ∀ x ∈ frees, mg x = none
  i1 : ∃ t, mg "MOST_SIGNS" = some (.int 8 t)
  i2 : ∃ t, mg "MOST_STANDS" = some (.int 200 t)
  i3 : ∃ t, mg "MOST_ROW" = some (.int 200 t)
  al : ∃ t, mg "ALPHABET" = some (.str "abcdefgh" t)
  rd : okC K "Reader" = true
  wt : okC K "Watcher" = true
  rs : PropOf K (He.ga K "Reader") "signs" (prA K (He.ga K "Reader") "signs") (prG K (He.ga K "Reader") "signs")
  ra : PropOf K (He.ga K "Reader") "arrows" (prA K (He.ga K "Reader") "arrows") (prG K (He.ga K "Reader") "arrows")
  re : PropOf K (He.ga K "Reader") "ends" (prA K (He.ga K "Reader") "ends") (prG K (He.ga K "Reader") "ends")
  ws : PropOf K (He.ga K "Watcher") "signs" (prA K (He.ga K "Watcher") "signs") (prG K (He.ga K "Watcher") "signs")
  wa : PropOf K (He.ga K "Watcher") "arrows" (prA K (He.ga K "Watcher") "arrows") (prG K (He.ga K "Watcher") "arrows")
  wm : PropOf K (He.ga K "Watcher") "marks" (prA K (He.ga K "Watcher") "marks") (prG K (He.ga K "Watcher") "marks")
  eq : Meth K (He.ga K "Reader") "__eq__" (He.ma K (He.ga K "Reader") "__eq__")
  ln : Meth K (He.ga K "Watcher") "__len__" (He.ma K (He.ga K "Watcher") "__len__")
theorem gs_of {K : PySem.W.Frag} {h : Heap} {mg : Str → Option Value} (X : K.In h) (G : h.Ns mainGlobals mg) (c : SaysA okL fnL K) : Gs K mg := by
  have z := c.more
  unfold okL at z
  obtain ⟨g1, z⟩ := He.ba z
  obtain ⟨g2, z⟩ := He.ba z
  obtain ⟨f1, y⟩ := He.ba z
  obtain ⟨z, y⟩ := He.ba y
  obtain ⟨a1, z⟩ := He.ba z
  obtain ⟨a2, z⟩ := He.ba z
  obtain ⟨a3, a4⟩ := He.ba z
  obtain ⟨c1, y⟩ := He.ba y
  obtain ⟨c1, c2⟩ := He.ba c1
  obtain ⟨p, y⟩ := He.ba y
  obtain ⟨q, m⟩ := He.ba y
  obtain ⟨p1, p⟩ := He.ba p
  obtain ⟨p2, p3⟩ := He.ba p
  obtain ⟨q1, q⟩ := He.ba q
  obtain ⟨q2, q3⟩ := He.ba q
  obtain ⟨m1, m2⟩ := He.ba m
  refine ⟨c, fun x hx => ?_, fun x hx => He.free_ok X G (List.all_eq_true.mp f1 x hx), He.int_ok X G a1, He.int_ok X G a2, He.int_ok X G a3, He.str_ok X G a4, c1, c2, propB_ok p1, propB_ok p2, propB_ok p3, propB_ok q1, propB_ok q2, propB_ok q3, He.meth_ok m1, He.meth_ok m2⟩
  rcases List.mem_append.mp hx with hx | hx
  · exact He.glo_ok X G (List.all_eq_true.mp g1 x hx)
  · exact He.glo_ok X G (List.all_eq_true.mp g2 x hx)
structure ClsOk (K : PySem.W.Frag) (C : Addr) : Prop where
  cl : Cls K C
  na : NoAttr K C "parts"
  mkr : Mk K C (He.ma K C "__init__")
  kept : PySem.W.keepIn K (.ref C) = true
  isi : isiB K C = true
  ne : PySem.W.findIn K (.ref C) "__ne__" = some (some (.builtin "object.__ne__"))
theorem okC_ok {K : PySem.W.Frag} {x : Str} (c : okC K x = true) : ClsOk K (He.ga K x) := by
  unfold okC at c
  obtain ⟨c1, c⟩ := He.ba c
  obtain ⟨c2, c⟩ := He.ba c
  obtain ⟨c3, c⟩ := He.ba c
  obtain ⟨c4, c⟩ := He.ba c
  obtain ⟨c5, c6⟩ := He.ba c
  exact ⟨He.cls_ok c1, He.noat_ok c2, He.mkr_ok c3, He.keep_ok c4, c5, He.eqO_ok c6⟩
section
variable {K : PySem.W.Frag} {mg : Str → Option Value}
abbrev CR_ (K : PySem.W.Frag) : Addr := He.ga K "Reader"
abbrev CW_ (K : PySem.W.Frag) : Addr := He.ga K "Watcher"
theorem Gs.rc (G : Gs K mg) : ClsOk K (CR_ K) := okC_ok G.rd
theorem Gs.wc (G : Gs K mg) : ClsOk K (CW_ K) := okC_ok G.wt
theorem Gs.g (G : Gs K mg) {x : Str} (h : (glos1 ++ glos2).elem x = true := by decide +kernel) : mg x = some (.ref (He.ga K x)) := G.glo x (List.mem_of_elem_eq_true h)
theorem Gs.f (G : Gs K mg) {x : Str} (h : frees.elem x = true := by decide +kernel) : mg x = none := G.fre x (List.mem_of_elem_eq_true h)
end
section
variable {X : Cx} {k : Nat} {d : DefA} {ps : List Str} {sp : Sp} {x m : Str} {p pos apos : Pos} {e o : Expr} {es : List Expr} {ta : TE} {t : TA}
theorem pe_fn (F : Fn X.prog X.w X.K X.mg X.base k d ps sp) (hr : Room k X.A) (hg : Gl X x) (hm : X.mg x = some (.ref (d.addr X.K)))
    (ha : PA X (e :: es) t) (pl : Plainly X x e es pos := by exact ⟨by decide, by rfl, by rfl⟩) :
    PE X (.Call (.Name x p) (e :: es) [] pos) (tCall sp [] E0 t) := by
  obtain ⟨fd, F, b, fp⟩ := F.ex
  exact pe_call F hr hg hm fp.kp b .nil pass0 ha pl.1 pl.2.1 pl.2.2
theorem pe_fnG (F : FnG X.prog X.w X.K X.mg X.base k d ps sp) (hr : Room k X.A) (hgd : X.A.guards = some []) (hg : Gl X x) (hm : X.mg x = some (.ref (d.addr X.K)))
    (ha : PA X (e :: es) t) (pl : Plainly X x e es pos := by exact ⟨by decide, by rfl, by rfl⟩) :
    PE X (.Call (.Name x p) (e :: es) [] pos) (tCall sp [] E0 t) := by
  obtain ⟨fd, F, b, fp⟩ := F.ex
  exact pe_callG F hr hgd hg hm fp.kp b pass0 ha pl
/-- a property of an instance -/
theorem pe_pr {C q : Addr} {f : Str} (F : Fn X.prog X.w X.K X.mg X.base k d ps sp) (hr : Room (k + 1) X.A) (c : Cls X.K C) (hp : PropOf X.K C f q (d.addr X.K)) (he : PE X e ta) (hab : attributeBase e f X.env (eval e X.env) = eval e X.env := by rfl) : PE X (.Attribute e f pos) (tProp C sp [] E0 ta) := by
  obtain ⟨fd, F, b, fp⟩ := F.ex
  exact pe_prop he c hp F hr b .nil pass0 hab
theorem pe_mk {C : Addr} (M : Mk X.K C (d.addr X.K)) (F : Fn X.prog X.w X.K X.mg X.base k d ps sp) (hr : Room (k + 1) X.A) (hg : Gl X x) (hm : X.mg x = some (.ref C))
    (ha : PA X (e :: es) t) (pl : Plainly X x e es pos := by exact ⟨by decide, by rfl, by rfl⟩) :
    PE X (.Call (.Name x p) (e :: es) [] pos) (tMake C sp [] E0 t) := by
  obtain ⟨fd, F, b, fp⟩ := F.ex
  exact pe_make M F hr hg hm b .nil pass0 ha pl.1 pl.2.1 pl.2.2
end
/-- a walk of a body, and what it comes to -/
theorem both {X : Cx} {body : List Stmt} {D : Ends} {σ : L2.St} {H : Hp} {t : TS} (h : PSs X.nox body t) (k : t D σ H) : ∃ t, PSs X body t ∧ t D σ H := ⟨t, h.nox, k⟩
section
variable {P : Program} {w : World} {K : PySem.W.Frag} {mg : Str → Option Value} {base : Heap}
/-- THE RULE for the text's defs -/
theorem fn_mk (G : Gs K mg) (i : Nat) {d : DefA} {N ps : List Str} {k : Nat} {sp : Sp} (hi : fnL[i]? = some d) (S : FnScope N ps (defScope d.st)) (len : ∀ vs H Q E, sp vs H Q E → vs.length = ps.length)
    (hb : ∀ (kV doc pm : Value) (an : Option Addr) (cdv ct : Value) (us : List Value), us.length = ps.length → bindArgs (PySem.W.fnOf d.name d.qual (defArgs d.st) (defBody d.st) (defScope d.st) .none kV doc pm an cdv ct) ⟨us, []⟩ = pure (ps.zip us))
    (hbody : ∀ (cdv : Value) (A : Around) (outer : List Env) (s : Shared) (H : Hp) (vs : List V) (Q : VK) (E : XK), Room k (bodyA A d K s cdv) → sp vs H Q E →
      ∃ t, PSs (cxOf CX0 P w K mg base N d.qual (defScope d.st) (d.addr K) cdv A outer s H E) (defBody d.st) t ∧ t { nx := fun _ H' => Q .non H', rt := Q } (start N vs) H) : Fn P w K mg base (k + 1) d ps sp := by
  obtain ⟨fd, F⟩ := G.says.def_ i hi
  exact ⟨fd, F.ok S len hbody, F.bindsN hb, F⟩
theorem Fn.mono {j k : Nat} {d : DefA} {ps : List Str} {sp : Sp} (F : Fn P w K mg base j d ps sp) (h : j ≤ k) : Fn P w K mg base k d ps sp := by
  obtain ⟨fd, F, r⟩ := F.ex
  exact ⟨fd, F.mono h, r⟩
end
/-! ### built-in names -/
theorem bo_len : bootBuiltins "len" = some (.builtin "len") := by decide +kernel
theorem bo_isi : bootBuiltins "isinstance" = some (.builtin "isinstance") := by decide +kernel
theorem bo_all : bootBuiltins "all" = some (.builtin "all") := by decide +kernel
theorem bo_any : bootBuiltins "any" = some (.builtin "any") := by decide +kernel
theorem bo_sorted : bootBuiltins "sorted" = some (.builtin "sorted") := by decide +kernel
theorem bo_abs : bootBuiltins "abs" = some (.builtin "abs") := by decide +kernel
theorem bo_divmod : bootBuiltins "divmod" = some (.builtin "divmod") := by decide +kernel
theorem bo_repr : bootBuiltins "repr" = some (.builtin "repr") := by decide +kernel
theorem bo_max : bootBuiltins "max" = some (.builtin "max") := by decide +kernel
theorem bo_min : bootBuiltins "min" = some (.builtin "min") := by decide +kernel
theorem bo_int : bootBuiltins "int" = some (.type "int") := by decide +kernel
theorem bo_bool : bootBuiltins "bool" = some (.type "bool") := by decide +kernel
theorem bo_tuple : bootBuiltins "tuple" = some (.type "tuple") := by decide +kernel
theorem bo_str : bootBuiltins "str" = some (.type "str") := by decide +kernel
theorem bo_list : bootBuiltins "list" = some (.type "list") := by decide +kernel
theorem bo_set : bootBuiltins "set" = some (.type "set") := by decide +kernel
/-! ### what stands in the heap -/
def onv : Option Nat → V
  | none => .non
  | some n => .int (n : Int)
def nv (n : Nat) : V := .int (n : Int)
/-- the text of a word -/
def txt (w : List Nat) : Str := ⟨(w.map (97 + ·)).toArray⟩
def RowAt (H : Hp) (v : V) (r : List (Option Nat)) : Prop := ∃ a, v = .ref a ∧ H a = some (.tup (r.map onv))
def ArrAt (H : Hp) (v : V) (A : RR.Arr) : Prop := ∃ a rs, v = .ref a ∧ H a = some (.tup rs) ∧ rs.length = A.length ∧ ∀ (i : Nat) (x : V) (r : List (Option Nat)), rs[i]? = some x → A[i]? = some r → RowAt H x r
def NatsAt (H : Hp) (v : V) (E : List Nat) : Prop := ∃ a, v = .ref a ∧ H a = some (.tup (E.map nv))
/-- an instance of the class at C with these parts -/
def InsAt (C : Addr) (H : Hp) (v : V) (k : Nat) (A : RR.Arr) (E : List Nat) : Prop := ∃ a dx t x y, v = .ref a ∧ H a = some (.ins C dx [("parts", .ref t)]) ∧ H t = some (.tup [nv k, x, y]) ∧ ArrAt H x A ∧ NatsAt H y E
section
variable {H H' : Hp} {v : V}
theorem same_tups (e : Same H H') : Tups H H' := fun a xs h => e a _ h
theorem RowAt.mono {r : List (Option Nat)} (t : Tups H H') (h : RowAt H v r) : RowAt H' v r := let ⟨a, e, q⟩ := h; ⟨a, e, t _ _ q⟩
theorem NatsAt.mono {E : List Nat} (t : Tups H H') (h : NatsAt H v E) : NatsAt H' v E := let ⟨a, e, q⟩ := h; ⟨a, e, t _ _ q⟩
theorem ArrAt.mono {A : RR.Arr} (t : Tups H H') (h : ArrAt H v A) : ArrAt H' v A :=
  let ⟨a, rs, e, q, l, z⟩ := h; ⟨a, rs, e, t _ _ q, l, fun i x r h1 h2 => (z i x r h1 h2).mono t⟩
theorem InsAt.mono {C : Addr} {k : Nat} {A : RR.Arr} {E : List Nat} (e : Same H H') (h : InsAt C H v k A E) : InsAt C H' v k A E :=
  let ⟨a, dx, t, x, y, e1, e2, e3, e4, e5⟩ := h; ⟨a, dx, t, x, y, e1, e _ _ e2, e _ _ e3, e4.mono (same_tups e), e5.mono (same_tups e)⟩
theorem same_new {p : Addr} {o : HO} (h : H p = none) : Same H (upd H p o) := fun a u e => by
  rw [upd_ne (ne_of_none e h)]; exact e
/-- what H does not track may change -/
theorem same_mut {p : Addr} {o : HO} (e : Same H H') (h : H p = none) : Same H (upd H' p o) := fun a u ha => by
  rw [upd_ne (ne_of_none ha h)]
  exact e a u ha
theorem sqT {K : PySem.W.Frag} {a : Addr} {xs : List V} (h : H a = some (.tup xs)) : SqT K H a xs := Or.inl (Or.inl h)
theorem sqL {K : PySem.W.Frag} {a : Addr} {xs : List V} (h : H a = some (.lst xs)) : SqL K H a xs := Or.inl (Or.inl h)
end
end RK
/-! W00: comprehensions told by what each item is; small steps. -/
namespace RK
open PySem PySem.Spec PyProof.Rows L2
/-- how a heap may go on; F: the places that keep what stands there -/
structure Grow (R : Hp → Hp → Prop) (F : Addr → Prop) : Prop where
  refl : ∀ H, R H H
  trans : ∀ {H H1 H2}, R H H1 → R H1 H2 → R H H2
  keep : ∀ {H H' a o}, R H H' → F a → H a = some o → H' a = some o
  wr : ∀ {H1 H D o}, R H1 H → H1 D = none → R H1 (upd H D o)
theorem grow_same : Grow Same (fun _ => True) := ⟨Same.refl, fun a b => a.trans b, fun e _ h => e _ _ h, fun e h => same_mut e h⟩
/-- all but what stands at v -/
def SameV (v : Addr) (H H' : Hp) : Prop := ∀ a o, a ≠ v → H a = some o → H' a = some o
theorem grow_v (v : Addr) : Grow (SameV v) (· ≠ v) := ⟨fun _ _ _ _ h => h, fun a b c o n h => b c o n (a c o n h), fun e n h => e _ _ n h, fun e h a o n ha => by
  rw [upd_ne (ne_of_none ha h)]
  exact e a o n ha⟩
theorem Same.v {H H' : Hp} (e : Same H H') (v : Addr) : SameV v H H' := fun a o _ h => e a o h
theorem small {n : Nat} (h : n ≤ 100000) : n < sizeLine := Nat.lt_of_le_of_lt h (by decide)
/-- the item y goes to the end of the list at D -/
abbrev addTo (D : Addr) (te : TE) (σ : L2.St) (H : Hp) (Nx : Hp → Prop) : Prop := te σ H fun y H1 => ∃ acc, H1 D = some (.lst acc) ∧ acc.length < sizeLine ∧ Nx (upd H1 D (.lst (acc ++ [y])))
/-- a turn of a list comprehension -/
abbrev lcOne (g : TG) (tt : TT) (te : TE) (vs : List Nat) (σ : L2.St) (D : Addr) (x : V) (H : Hp) (Nx : Hp → Prop) : Prop := g x (wipe σ vs) H fun σ1 H1 => wipe σ1 vs = wipe σ vs ∧ tt σ1 H1 fun b H2 => if b = true then addTo D te σ1 H2 Nx else Nx H2
section
variable {R : Hp → Hp → Prop} {F : Addr → Prop} {J : It} {n : Nat} {G : Hp → Prop} {Y : Nat → Hp → V → Hp → Prop}
/-- [e for x in it]: each item by Rel -/
theorem lc_rel (gr : Grow R F) (wk : Walk J n G Y) {g : TG} {te : TE} {vs : List Nat} {σ : L2.St} {H1 : Hp} {D : Addr} {Qd : Hp → Prop} (hn : n ≤ 10000) (hD : H1 D = none) (hF : F D) (Rel : Nat → V → Hp → Prop)
    (hRel : ∀ i x H H', R H H' → Rel i x H → Rel i x H') (hRelD : ∀ i x H o, Rel i x H → (∃ acc, H D = some (.lst acc)) → Rel i x (upd H D (.lst o))) (hG : ∀ H, R H1 H → G H)
    (hs : ∀ i x H H', i < n → R H1 H → Y i H x H' → ∀ Kt : V → Hp → Prop, (∀ y H4, R H H4 → Rel i y H4 → Kt y H4) → g x (wipe σ vs) H' fun σ2 H2 => wipe σ2 vs = wipe σ vs ∧ te σ2 H2 Kt)
    (hd : ∀ xs H, R H1 H → H D = some (.lst xs) → xs.length = n → (∀ i x, xs[i]? = some x → Rel i x H) → Qd H) :
    Turns J (upd H1 D (.lst [])) Qd (lcOne g tYes te vs σ D) := by
  refine turns_walk wk (fun i H => R H1 H ∧ ∃ xs, H D = some (.lst xs) ∧ xs.length = i ∧ ∀ j x, xs[j]? = some x → Rel j x H) ⟨gr.wr (gr.refl _) hD, [], upd_same, rfl, fun j x h => by simp at h⟩ (fun i H _ p => hG H p.1) ?_ fun H p => ?_
  · intro i x H H' hi p y
    obtain ⟨e1, xs, hx, hl, hr⟩ := p
    have z := hs i x H H' hi e1 y (fun y H4 => ∃ acc, H4 D = some (.lst acc) ∧ acc.length < sizeLine ∧ (R H1 (upd H4 D (.lst (acc ++ [y]))) ∧ ∃ xs, upd H4 D (.lst (acc ++ [y])) D = some (.lst xs) ∧ xs.length = i + 1 ∧ ∀ j x, xs[j]? = some x → Rel j x (upd H4 D (.lst (acc ++ [y]))))) fun y H4 e4 r4 => ?_
    · exact z
    · have h4 := gr.keep e4 hF hx
      refine ⟨xs, h4, small (by omega), gr.wr (gr.trans e1 e4) hD, xs ++ [y], upd_same, by simp [hl], fun j x hj => ?_⟩
      by_cases hji : j < xs.length
      · rw [List.getElem?_append_left hji] at hj
        exact hRelD _ _ _ _ (hRel _ _ _ _ e4 (hr j x hj)) ⟨_, h4⟩
      · have : j = xs.length := by
          have := (List.getElem?_eq_some_iff.mp hj).1
          simp at this
          omega
        subst this
        rw [List.getElem?_append_right (Nat.le_refl _)] at hj
        simp at hj
        subst hj
        rw [hl]
        exact hRelD _ _ _ _ r4 ⟨_, h4⟩
  · obtain ⟨e1, xs, hx, hl, hr⟩ := p
    exact hd xs H e1 hx hl hr
/-- [f(i) for .. if ..]: which ones by Rb -/
theorem lc_fil (gr : Grow R F) (wk : Walk J n G Y) {g : TG} {tt : TT} {te : TE} {vs : List Nat} {σ : L2.St} {H1 : Hp} {D : Addr} {Qd : Hp → Prop} (hn : n ≤ 10000) (hD : H1 D = none) (hF : F D) (Rb : Nat → Bool → Prop) (f : Nat → V)
    (hG : ∀ H, R H1 H → G H)
    (hs : ∀ i x H H', i < n → R H1 H → Y i H x H' → 
      g x (wipe σ vs) H' fun σ2 H2 => wipe σ2 vs = wipe σ vs ∧ ∀ Kb : Bool → Hp → Prop, (∀ b H3, R H H3 → Rb i b → (b = true → ∀ Kx : V → Hp → Prop, (∀ H5, R H H5 → Kx (f i) H5) → te σ2 H3 Kx) → Kb b H3) → tt σ2 H2 Kb)
    (hg : ∀ x σ H (A B : L2.St → Hp → Prop), (∀ σ' H', A σ' H' → B σ' H') → g x σ H A → g x σ H B)
    (hd : ∀ (p : Nat → Bool) H, R H1 H → (∀ i, i < n → Rb i (p i)) → H D = some (.lst (((List.range n).filter p).map f)) → Qd H) :
    Turns J (upd H1 D (.lst [])) Qd (lcOne g tt te vs σ D) := by
  refine turns_walk wk (fun i H => R H1 H ∧ ∃ p : Nat → Bool, (∀ j, j < i → Rb j (p j)) ∧ H D = some (.lst (((List.range i).filter p).map f))) ⟨gr.wr (gr.refl _) hD, fun _ => true, fun j h => absurd h (by omega), by simp [upd_same]⟩ (fun i H _ p => hG H p.1) ?_ fun H p => ?_
  · intro i x H H' hi p y
    obtain ⟨e1, p, hp, hx⟩ := p
    refine hg _ _ _ _ _ (fun σ2 H2 z => ⟨z.1, z.2 _ fun b H3 e3 rb kx => ?_⟩) (hs i x H H' hi e1 y)
    have ext : ∀ b, ((List.range i).filter p).map f = ((List.range i).filter (fun j => if j = i then b else p j)).map f := fun b => by
      congr 1
      refine List.filter_congr fun j hj => ?_
      have : j < i := List.mem_range.mp hj
      rw [if_neg (by omega)]
    cases b with
    | true =>
      refine iteT (kx rfl _ fun H5 e5 => ⟨_, gr.keep e5 hF hx, small (by
        have := List.length_filter_le p (List.range i)
        rw [List.length_map]; rw [List.length_range] at this; omega), gr.wr (gr.trans e1 e5) hD, fun j => if j = i then true else p j, fun j hj => ?_, ?_⟩)
      · by_cases h : j = i
        · subst h; simp; exact rb
        · simp [h]; exact hp j (by omega)
      · rw [upd_same, List.range_succ, List.filter_append, List.map_append, ← ext true]
        simp
    | false =>
      refine iteF ⟨gr.trans e1 e3, fun j => if j = i then false else p j, fun j hj => ?_, ?_⟩
      · by_cases h : j = i
        · subst h; simp; exact rb
        · simp [h]; exact hp j (by omega)
      · rw [gr.keep e3 hF hx, List.range_succ, List.filter_append, List.map_append, ← ext false]
        simp
  · obtain ⟨e1, p, hp, hx⟩ := p
    exact hd p H e1 hp hx
end
theorem sqT_mono {K : PySem.W.Frag} {H H' : Hp} {a : Addr} {xs : List V} (e : Same H H') (h : SqT K H a xs) : SqT K H' a xs := Evl.ex_t e h
theorem sqL_mono {K : PySem.W.Frag} {H H' : Hp} {a : Addr} {xs : List V} (e : Same H H') (h : SqL K H a xs) : SqL K H' a xs := Evl.ex_l e h
theorem call_lenK {X : Cx} {K : PySem.W.Frag} (e : X.K = K) : CallR X (.builtin "len") (Evl.rLenS K) := by
  subst e
  exact call_len_seq
section
variable {X : Cx} {K : PySem.W.Frag}
theorem call_isiE (e : X.K = K) : CallR X (.builtin "isinstance") (rIsi K) := by
  subst e
  exact call_isi
theorem op_inK (e : X.K = K) : OpR X (compareOp .In) (rIn K false) := by
  subst e
  exact op_in_seq
theorem op_notInK (e : X.K = K) : OpR X (compareOp .NotIn) (rIn K true) := by
  subst e
  exact op_notIn_seq
theorem op_eqDK (hu : X.A.units + 64 < cLine) (e : X.K = K) : OpR X (compareOp .Eq) (rEqD K) := by
  subst e
  exact op_eqD hu
theorem op_neDK (hu : X.A.units + 64 < cLine) (e : X.K = K) : OpR X (compareOp .NotEq) (rNeD K) := by
  subst e
  exact op_neD hu
theorem ix_listK (e : X.K = K) : IxR X (rIxL K) := by
  subst e
  exact ix_list
theorem ix_tupK (e : X.K = K) : IxR X (rIxT K) := by
  subst e
  exact ix_tup
theorem sl_listK (e : X.K = K) : L2.SlR X (rSlL K) := by
  subst e
  exact sl_list
theorem sl_tupK (e : X.K = K) : L2.SlR X (rSlT K) := by
  subst e
  exact sl_tup
theorem pi_enumK {e : Expr} {ta : TA} {p pos tpos : Pos} {elts : List Expr} {kk : Nat} (ek : X.K = K) (hg : Gl X "enumerate") (hm : X.mg "enumerate" = none) (ha : PA X [e] ta) (hs : starEach [e] X.env = [(false, eval e X.env)] := by rfl) :
    PI X (.Tuple elts kk tpos) (.Call (.Name "enumerate" p) [e] [] pos) (iEnum K ta) := by
  subst ek
  exact pi_enum hg hm ha hs
theorem pi_enumTK {e : Expr} {ta : TA} {p pos tpos : Pos} {elts : List Expr} {kk : Nat} (ek : X.K = K) (hg : Gl X "enumerate") (hm : X.mg "enumerate" = none) (ha : PA X [e] ta) (hs : starEach [e] X.env = [(false, eval e X.env)] := by rfl) :
    PI X (.Tuple elts kk tpos) (.Call (.Name "enumerate" p) [e] [] pos) (iEnumT K ta) := by
  subst ek
  exact pi_enumT hg hm ha hs
theorem cr_allK (hc : X.calm = true) (e : X.K = K) : CallR X (.builtin "all") (rAll K) := by
  subst e
  exact cr_all hc
theorem cr_anyK (hc : X.calm = true) (e : X.K = K) : CallR X (.builtin "any") (rAny K) := by
  subst e
  exact cr_any hc
theorem op_repK (e : X.K = K) : OpR X (binaryOp .Mult) (rRepA K) := by
  subst e
  exact op_repA
/-- how o.m(e, ..) is written: plainly, on one line -/
abbrev MethodAs (X : Cx) (o : Expr) (m : Str) (apos : Pos) (e : Expr) (es : List Expr) (cpos : Pos) : Prop :=
  attributeBase o m X.env (eval o X.env) = eval o X.env ∧ ((backTo cpos (starEach (e :: es) X.env)).all (!·.1) && (backToKw cpos (keywordEach [] X.env)).all (·.1.isSome) && decide (es.length + 1 < 30)) = true ∧ (apos.endLine == cpos.line) = true ∧
  starEach (e :: es) X.env = (false, eval e X.env) :: starEach es X.env ∧ (backTo cpos (starEach es X.env)).any (·.1) = false
theorem pe_bmK {o e : Expr} {es : List Expr} {to : TE} {t : TA} {m : Str} {apos cpos : Pos} {T id : String} {r : V → List V → Hp → VK → Prop} (ek : X.K = K) (pa : PlainAttrs T) (slot : Slot T m id) (ty : typeOf (.builtin id) = pure (.type "method_descriptor")) (rule : MtR X id r) (ho : PE X o to) (ha : PA X (e :: es) t)
    (w : MethodAs X o m apos e es cpos := by exact ⟨by rfl, by rfl, by rfl, by rfl, by rfl⟩) : PE X (.Call (.Attribute o m apos) (e :: es) [] cpos) (tBM K T r to t) := by
  subst ek
  exact pe_bm pa slot ty rule ho ha w.1 w.2.1 w.2.2.1 w.2.2.2.1 w.2.2.2.2
theorem pe_bm0K {o : Expr} {to : TE} {m : Str} {apos cpos : Pos} {T id : String} {r : V → List V → Hp → VK → Prop} (ek : X.K = K) (pa : PlainAttrs T) (slot : Slot T m id) (ty : typeOf (.builtin id) = pure (.type "method_descriptor")) (rule : MtR X id r) (ho : PE X o to)
    (w : attributeBase o m X.env (eval o X.env) = eval o X.env ∧ (apos.endLine == cpos.line) = true := by exact ⟨by rfl, by rfl⟩) : PE X (.Call (.Attribute o m apos) [] [] cpos) (tBM0 K T r to) := by
  subst ek
  exact pe_bm0 pa slot ty rule ho w.1 w.2
theorem pe_fldK {e : Expr} {ta : TE} {f : Str} {pos : Pos} (ek : X.K = K) (he : PE X e ta) (hb : attributeBase e f X.env (eval e X.env) = eval e X.env) : PE X (.Attribute e f pos) (tFld K ta f) := by
  subst ek
  exact pe_fld he hb
theorem ps_fldK {o value : Expr} {ta tv : TE} {f : Str} {pos pos' : Pos} (ek : X.K = K) (ha : PE X o ta) (hv : PE X value tv) (hs : swapsWith value (some (.Attribute o f pos')) pos.line X.env = pure false) : PS X (.Assign [.Attribute o f pos'] value pos) (sFld K ta tv f) := by
  subst ek
  exact ps_fld ha hv hs
theorem pa_starK {e : Expr} {es : List Expr} {te : TE} {t : TA} {p : Pos} (ek : X.K = K) (he : PE X e te) (hr : PA X es t) (hs : starEach (.Starred e p :: es) X.env = (true, eval e X.env) :: starEach es X.env := by rfl) : PA X (.Starred e p :: es) (StX.tStar K te t) := by
  subst ek
  exact StX.pa_star he hr hs
def rTupOf (K : PySem.W.Frag) : List V → Hp → VK → Prop := fun xs H Q => ∃ p ys, xs = [.ref p] ∧ ((SqL K H p ys ∧ ∀ l, H l = none → Q (.ref l) (upd H l (.tup ys))) ∨ (SqT K H p ys ∧ Q (.ref p) H))
theorem call_tupleK (e : X.K = K) : CallR X (.type "tuple") (rTupOf K) := by
  subst e
  exact call_tuple_of
theorem call_listK (e : X.K = K) : CallR X (.type "list") (Evl.rListS K) := by
  subst e
  exact call_list_of
theorem pg_tupK {es : List Expr} {k : Nat} {t : TGs} {n : Nat} {pos : Pos} (ek : X.K = K) (hc : X.calm = true) (h : PGs X es t)
    (w : (assignEach es X.env).length = n ∧ (assignEach es X.env).findIdx? (·.1) = none := by exact ⟨by rfl, by rfl⟩) : PG X (.Tuple es k pos) (gTup K n t) := by
  subst ek
  exact pg_tup hc h w.1 w.2
theorem pe_lenSetK {a : Expr} {ta : TE} {p p2 q pos : Pos} {e1 e2 : Expr} (ek : X.K = K) (h : PE X e1 (tLenSet X.K ta)) : PE X e1 (tLenSet K ta) := by
  subst ek
  exact h
end
theorem pi_tupK {X : Cx} {K : PySem.W.Frag} {tg l : Expr} {tl : TE} (e : X.K = K) (hl : PE X l tl) : PI X tg l (iTup K tl) := by
  subst e
  exact pi_tup hl
theorem pi_listK {X : Cx} {K : PySem.W.Frag} {tg l : Expr} {tl : TE} (e : X.K = K) (hl : PE X l tl) : PI X tg l (iList K tl) := by
  subst e
  exact pi_list hl
/-- [c for row in a for goal in row], the same value at each turn -/
theorem lc2_tup {K : PySem.W.Frag} {a : Addr} {xs : List V} (r q : Nat) {te : TE} {vs vs1 : List Nat} {σ : L2.St} {H1 : Hp} {D : Addr} {Qd : Hp → Prop} (c : V) (b : Nat) (hb : xs.length * b ≤ 10000) (hD : H1 D = none) (hx : SqT K H1 a xs)
    (hw : ∀ v, wipe ((wipe σ vs).set r (some v)) vs = wipe σ vs) (hw1 : ∀ v u, wipe ((wipe ((wipe σ vs).set r (some v)) vs1).set q (some u)) vs1 = wipe ((wipe σ vs).set r (some v)) vs1) (hr : ∀ v, ((wipe σ vs).set r (some v))[r]? = some (some v))
    (hs : ∀ (i : Nat) (v : V), xs[i]? = some v → ∃ (p : Addr) (ys : List V), v = V.ref p ∧ SqT K H1 p ys ∧ ys.length ≤ b ∧ ∀ (j : Nat) (y : V), ys[j]? = some y → ∀ H, Same H1 H → ∀ Kt : V → Hp → Prop, (∀ H7, Same H H7 → Kt c H7) → te ((wipe ((wipe σ vs).set r (some v)) vs1).set q (some y)) H Kt)
    (hd : ∀ m H, Same H1 H → H D = some (.lst (List.replicate m c)) → Qd H) :
    Turns (Itt K a) (upd H1 D (.lst [])) Qd fun x H2 Nx => gName r x (wipe σ vs) H2 fun σ2 H3 => wipe σ2 vs = wipe σ vs ∧ tYes σ2 H3 fun b H4 => if b = true then iTup K (tVar r) σ2 H4 fun J1 H5 => Turns J1 H5 Nx (lcOne (gName q) tYes te vs1 σ2 D) else Nx H4 := by
  refine ⟨fun i m H => m = xs.length - i ∧ i ≤ xs.length ∧ Same H1 H ∧ ∃ m, m ≤ i * b ∧ H D = some (.lst (List.replicate m c)), ⟨xs.length, by simp, Nat.zero_le _, same_new hD, 0, by simp, upd_same⟩, ?_⟩
  rintro i m H ⟨rfl, hi, e1, m, hm, hl⟩
  by_cases hlt : i < xs.length
  · refine .inr ⟨⟨xs, xs[i], sqT_mono e1 hx, by simp [hlt]⟩, fun H => Same H1 H ∧ ∃ m, m ≤ (i + 1) * b ∧ H D = some (.lst (List.replicate m c)), fun H' p' => ⟨xs.length - (i + 1), by omega, rfl, hlt, p'⟩, fun x H' y => ?_⟩
    obtain ⟨e, y⟩ := y
    subst e
    have hxi := y xs (sqT_mono e1 hx)
    obtain ⟨p, ys, rfl, hp, hlen, step⟩ := hs i x hxi
    refine ⟨hw _, ?_⟩
    simp only [tYes, if_true]
    refine ⟨_, hr _, p, rfl, ⟨ys, sqT_mono e1 hp⟩, ?_⟩
    refine ⟨fun j k H => k = ys.length - j ∧ j ≤ ys.length ∧ Same H1 H ∧ ∃ m, m ≤ i * b + j ∧ H D = some (.lst (List.replicate m c)), ⟨ys.length, by simp, Nat.zero_le _, e1, m, hm, hl⟩, ?_⟩
    rintro j k H ⟨rfl, hj, e2, m2, hm2, hl2⟩
    by_cases hjl : j < ys.length
    · refine .inr ⟨⟨ys, ys[j], sqT_mono e2 hp, by simp [hjl]⟩, fun H => Same H1 H ∧ ∃ m, m ≤ i * b + (j + 1) ∧ H D = some (.lst (List.replicate m c)), fun H' p' => ⟨ys.length - (j + 1), by omega, rfl, hjl, p'⟩, fun x H' y => ?_⟩
      obtain ⟨e, y⟩ := y
      subst e
      have hyj := y ys (sqT_mono e2 hp)
      refine ⟨hw1 _ _, ?_⟩
      simp only [if_true]
      refine (step j x hyj _ e2 _ fun H7 e7 => ⟨_, e7 _ _ hl2, small ?_, same_mut (e2.trans e7) hD, m2 + 1, by omega, ?_⟩)
      · rw [List.length_replicate]
        have h1 : i * b + b ≤ xs.length * b := by
          rw [← Nat.succ_mul]
          exact Nat.mul_le_mul_right b hlt
        omega
      · rw [upd_same, ← List.replicate_succ']
    · have e : j = ys.length := by omega
      subst e
      refine .inl ⟨⟨ys, sqT_mono e2 hp, Nat.le_refl _⟩, e2, m2, ?_, hl2⟩
      rw [Nat.succ_mul]
      omega
  · have e : i = xs.length := by omega
    subst e
    exact .inl ⟨⟨xs, sqT_mono e1 hx, Nat.le_refl _⟩, hd m H e1 hl⟩
end RK
/-! W1: numbers, goals, stands by the program. -/
namespace RK
open PySem PySem.Spec PyProof.Rows L2
section
variable {P : Program} {w : World} {K : PySem.W.Frag} {mg : Str → Option Value} {base : Heap}
def sp_is_number (K : PySem.W.Frag) : Sp := fun vs H Q _ => ∃ i lo hi : Int, vs = [.int i, .int lo, .int hi] ∧ Q (.bl (decide (lo ≤ i) && decide (i ≤ hi))) H
theorem ok_is_number (G : Gs K mg) : Fn P w K mg base 1 d_is_number p_is_number (sp_is_number K) := by
  refine fn_mk G 0 rfl sc_is_number (fun vs H Q E h => by obtain ⟨_, _, _, rfl, _⟩ := h; rfl) (fun _ _ _ _ _ _ us hl => match us, hl with | [_, _, _], _ => rfl) (fun cdv A outer s H vs Q E hr h => ?_)
  have hu1 := hu_of hr
  have hu64 := hr.units
  have hrN := roomN.of hr
  refine both (pss_one (ps_ret (pe_and (pe_callB (call_isiE rfl) rfl (G.f (x := "isinstance")) bo_isi (pa_cons (pv 0) (pa_cons (pe_bltn rfl (G.f (x := "int")) bo_int rfl (v := .ty "int")) pa_nil))) (pe_and (pe_not (pe_callB (call_isiE rfl) rfl (G.f (x := "isinstance")) bo_isi (pa_cons (pv 0) (pa_cons (pe_bltn rfl (G.f (x := "bool")) bo_bool rfl (v := .ty "bool")) pa_nil)))) (pe_one (pe_chain op_le op_le (pv 1) (pv 0) (pv 2))))))) ?_
  obtain ⟨i, lo, hi, rfl, q⟩ := h
  refine ⟨_, rfl, _, _, _, _, true, rfl, .ty _, .base (.int _), kit_ty (by decide +kernel), true, rfl, iteT ?_⟩
  refine ⟨_, rfl, _, _, _, _, false, rfl, .ty _, .base (.int _), kit_ty (by decide +kernel), false, rfl, true, rfl, iteT ?_⟩
  refine ⟨_, rfl, _, rfl, _, _, rfl, rfl, _, rfl, ?_⟩
  by_cases h : lo ≤ i
  · rw [decide_eq_true h] at q ⊢
    exact iteT ⟨_, rfl, _, _, rfl, rfl, q⟩
  · rw [decide_eq_false h] at q ⊢
    exact iteF q
def sp_is_goal (K : PySem.W.Frag) : Sp := fun vs H Q _ => ∃ (o : Option Nat) (n : Nat), vs = [onv o, nv n] ∧ (∀ q, o = some q → q < n) ∧ Q (.bl true) H
theorem ok_is_goal (G : Gs K mg) (h_is_number : Fn P w K mg base 1 d_is_number p_is_number (sp_is_number K)) : Fn P w K mg base 2 d_is_goal p_is_goal (sp_is_goal K) := by
  refine fn_mk G 1 rfl sc_is_goal (fun vs H Q E h => by obtain ⟨_, _, rfl, _⟩ := h; rfl) (fun _ _ _ _ _ _ us hl => match us, hl with | [_, _], _ => rfl) (fun cdv A outer s H vs Q E hr h => ?_)
  have hu1 := hu_of hr
  have hu64 := hr.units
  have hrN := roomN.of hr
  refine both (pss_one (ps_ret (pe_or (pe_cmp (pc_isN (pv 0))) (pe_one (pe_fn h_is_number (hr.mono (by decide)) rfl (G.g (x := "is_number")) (pa_cons (pv 0) (pa_cons pe_int (pa_cons (pe_op op_sub (pv 1) pe_int) pa_nil)))))))) ?_
  obtain ⟨o, n, rfl, ho, q⟩ := h
  refine ⟨_, rfl, _, rfl, ?_⟩
  cases o with
  | none => exact iteT q
  | some k =>
    have := ho k rfl
    refine iteF ⟨_, rfl, _, rfl, _, _, rfl, rfl, k, 0, (n : Int) - 1, rfl, ?_⟩
    rw [decide_eq_true (by omega), decide_eq_true (by omega)]
    exact q
def sp_is_signs (K : PySem.W.Frag) : Sp := fun vs H Q _ => ∃ k : Nat, vs = [nv k] ∧ (1 ≤ k ∧ k ≤ 8) ∧ Q (.bl true) H
theorem ok_is_signs (G : Gs K mg) (h_is_number : Fn P w K mg base 1 d_is_number p_is_number (sp_is_number K)) : Fn P w K mg base 2 d_is_signs p_is_signs (sp_is_signs K) := by
  refine fn_mk G 5 rfl sc_is_signs (fun vs H Q E h => by obtain ⟨_, rfl, _⟩ := h; rfl) (fun _ _ _ _ _ _ us hl => match us, hl with | [_], _ => rfl) (fun cdv A outer s H vs Q E hr h => ?_)
  have hu1 := hu_of hr
  have hu64 := hr.units
  have hrN := roomN.of hr
  obtain ⟨_, gi1⟩ := G.i1
  refine both (pss_one (ps_ret (pe_fn h_is_number (hr.mono (by decide)) rfl (G.g (x := "is_number")) (pa_cons (pv 0) (pa_cons pe_int (pa_cons (pe_glob rfl gi1 ⟨_, rfl⟩ (v := .int 8)) pa_nil)))))) ?_
  obtain ⟨k, rfl, hk, q⟩ := h
  refine ⟨_, rfl, k, 1, 8, rfl, ?_⟩
  rw [decide_eq_true (by omega), decide_eq_true (by omega)]
  exact q
def sp_check_signs (K : PySem.W.Frag) : Sp := fun vs H Q _ => ∃ k : Nat, vs = [nv k] ∧ (1 ≤ k ∧ k ≤ 8) ∧ Q .non H
theorem ok_check_signs (G : Gs K mg) (h_is_signs : Fn P w K mg base 2 d_is_signs p_is_signs (sp_is_signs K)) : Fn P w K mg base 3 d_check_signs p_check_signs (sp_check_signs K) := by
  refine fn_mk G 6 rfl sc_check_signs (fun vs H Q E h => by obtain ⟨_, rfl, _⟩ := h; rfl) (fun _ _ _ _ _ _ us hl => match us, hl with | [_], _ => rfl) (fun cdv A outer s H vs Q E hr h => ?_)
  have hu1 := hu_of hr
  have hu64 := hr.units
  have hrN := roomN.of hr
  refine both (pss_one (ps_if (pt_not (pt_val (pe_fn h_is_signs (hr.mono (by decide)) rfl (G.g (x := "is_signs")) (pa_cons (pv 0) pa_nil)))) pss_never pss_nil)) ?_
  obtain ⟨k, rfl, hk, q⟩ := h
  exact ⟨_, rfl, k, rfl, hk, true, rfl, iteF q⟩
end
end RK
/-! W2: arrows, stands, rows as they are checked. -/
namespace RK
open PySem PySem.Spec PyProof.Rows L2
section
variable {P : Program} {w : World} {K : PySem.W.Frag} {mg : Str → Option Value} {base : Heap}
theorem atE {α : Type} {xs : List α} {i : Int} {j : Nat} {v : α} (e : i = (j : Int)) (h : xs[j]? = some v) : atI xs i = some v := by
  subst e
  exact atI_nat h
theorem all_tt (m : Nat) : List.replicate m (V.bl true) = (List.replicate m true).map V.bl := by simp
theorem all_id (m : Nat) : (List.replicate m true).all id = true := by simp [List.all_eq_true]
theorem ArrAt.row {H : Hp} {rs : List V} {A : RR.Arr} (l : rs.length = A.length) (z : ∀ (i : Nat) (x : V) (r : List (Option Nat)), rs[i]? = some x → A[i]? = some r → RowAt H x r) {i : Nat} {x : V} (hi : rs[i]? = some x) : ∃ r, A[i]? = some r ∧ RowAt H x r := by
  have h := (List.getElem?_eq_some_iff.mp hi).1
  exact ⟨A[i]'(by omega), by simp [show i < A.length by omega], z i x _ hi (by simp [show i < A.length by omega])⟩
def sp_are_arrows (K : PySem.W.Frag) : Sp := fun vs H Q _ => ∃ (v : V) (k : Nat) (A : RR.Arr), vs = [v, nv k] ∧ ArrAt H v A ∧ RR.ArrOk k A ∧ A.length ≤ 200 ∧ k ≤ 8 ∧ ∀ H', Same H H' → Q (.bl true) H'
theorem ok_are_arrows (G : Gs K mg) (h_is_goal : Fn P w K mg base 2 d_is_goal p_is_goal (sp_is_goal K)) : Fn P w K mg base 3 d_are_arrows p_are_arrows (sp_are_arrows K) := by
  refine fn_mk G 2 rfl sc_are_arrows (fun vs H Q E h => by obtain ⟨_, _, _, rfl, _⟩ := h; rfl) (fun _ _ _ _ _ _ us hl => match us, hl with | [_, _], _ => rfl) (fun cdv A outer s H vs Q E hr h => ?_)
  have hu1 := hu_of hr
  have hu64 := hr.units
  have hrN := roomN.of hr
  obtain ⟨_, gi2⟩ := G.i2
  refine both (pss_cons (ps_if (PW.pt (pw_or (pt_not (pt_val (pe_callB (call_isiE rfl) rfl (G.f (x := "isinstance")) bo_isi (pa_cons (pv 0) (pa_cons (pe_bltn rfl (G.f (x := "tuple")) bo_tuple rfl (v := .ty "tuple")) pa_nil))))) (pw_or1 (pt_not (pt_chain op_le op_le pe_int (pe_callB (call_lenK rfl) rfl (G.f (x := "len")) bo_len (pa_cons (pv 0) pa_nil)) (pe_glob rfl gi2 ⟨_, rfl⟩ (v := .int 200))))))) (pss_one (ps_ret pe_bl)) pss_nil)
      (pss_cons (ps_if (pt_not (pt_val (pe_callB (cr_allK rfl rfl) rfl (G.f (x := "all")) bo_all (pa_cons (pe_lc rfl sc_are_arrows.nd (pi_tupK rfl (pv 0)) (blkOk_by (own := [("row", 2)]) (by first | (show blkC n_are_arrows (defScope s_are_arrows) _ _ = true; decide +kernel) | rfl)) (fun _ _ _ _ _ => (pg_name sc_are_arrows.nd (i := 2) rfl (by first | exact .inl rfl | exact .inr rfl | exact .inr (.inl rfl) | exact .inr (.inr rfl)))) (fun _ _ _ _ _ => pts_nil) (fun _ _ _ _ _ => (pe_and (pe_callB (call_isiE rfl) rfl (G.f (x := "isinstance")) bo_isi (pa_cons (pv 2) (pa_cons (pe_bltn rfl (G.f (x := "tuple")) bo_tuple rfl (v := .ty "tuple")) pa_nil))) (pe_one (pe_cmpR op_eq (pe_callB (call_lenK rfl) rfl (G.f (x := "len")) bo_len (pa_cons (pv 2) pa_nil)) (pv 1) (nomark _)))))) pa_nil)))) (pss_one (ps_ret pe_bl)) pss_nil)
      (pss_one (ps_ret (pe_callB (cr_allK rfl rfl) rfl (G.f (x := "all")) bo_all (pa_cons (pe_lc2 rfl sc_are_arrows.nd (pi_tupK rfl (pv 0)) (blkOk_by (own := [("row", 2), ("goal", 3)]) (by first | (show blkC n_are_arrows (defScope s_are_arrows) _ _ = true; decide +kernel) | rfl)) (show ∀ i ∈ ([3] : List Nat), i ∈ _ from by decide) (fun _ _ _ _ _ => (pg_name sc_are_arrows.nd (i := 2) rfl (by first | exact .inl rfl | exact .inr rfl | exact .inr (.inl rfl) | exact .inr (.inr rfl)))) (fun _ _ _ _ _ => pts_nil) (fun _ _ _ _ _ => (pi_tupK rfl (pv 2))) (fun _ _ _ _ _ => (pg_name sc_are_arrows.nd (i := 3) rfl (by first | exact .inl rfl | exact .inr rfl | exact .inr (.inl rfl) | exact .inr (.inr rfl)))) (fun _ _ _ _ _ => pts_nil) (fun _ _ _ _ _ => (pe_fn h_is_goal (hr.mono (by decide)) rfl (G.g (x := "is_goal")) (pa_cons (pv 3) (pa_cons (pe_callB (call_lenK rfl) rfl (G.f (x := "len")) bo_len (pa_cons (pv 0) pa_nil)) pa_nil))))) pa_nil)))))) ?_
  obtain ⟨v, k, A, rfl, ⟨a, rs, rfl, ha, hl, hz⟩, ok, h200, hk8, q⟩ := h
  have p1 := ok.pos
  refine ⟨_, rfl, _, _, _, _, true, rfl, .ty _, .base (.tup ha), kit_ty (by decide +kernel), true, rfl, iteF ?_⟩
  refine ⟨_, rfl, a, rs, rfl, .inr (sqT ha), _, _, rfl, rfl, true, congrArg V.bl (decide_eq_true (by omega)), iteT ⟨_, _, rfl, rfl, true, congrArg V.bl (decide_eq_true (by omega)), iteF ?_⟩⟩
  refine ⟨_, rfl, a, rfl, ⟨rs, sqT ha⟩, fun D hD => ?_⟩
  refine lc_rel grow_same walk_tup (by omega) hD trivial (fun _ x _ => x = .bl true) (fun _ _ _ _ _ h => h) (fun _ _ _ _ h _ => h) (fun H e => sqT_mono e (sqT ha)) ?_ ?_
  · rintro i x H1 _ hi e1 ⟨rfl, hx⟩ Kt hK
    obtain ⟨r, hr, b, rfl, hb⟩ := ArrAt.row hl hz hx
    have hb1 := e1 _ _ hb
    refine ⟨rfl, _, rfl, _, _, _, _, true, rfl, .ty _, .base (.tup hb1), kit_ty (by decide +kernel), true, rfl, iteT ?_⟩
    refine ⟨_, rfl, b, _, rfl, .inr (sqT hb1), _, rfl, rfl, hK _ _ (Same.refl _) ?_⟩
    rw [List.length_map, ok.wid r (List.mem_of_getElem? hr)]
    exact congrArg V.bl (decide_eq_true rfl)
  · intro xs H1 e1 hx hlen hall
    have hxs : xs = (List.replicate xs.length true).map V.bl := by
      rw [← all_tt]
      exact List.eq_replicate_iff.mpr ⟨rfl, fun y hy => by obtain ⟨j, hj⟩ := List.mem_iff_getElem?.mp hy; exact hall j y hj⟩
    refine ⟨_, _, rfl, by rw [hxs] at hx; exact sqL hx, true, by rw [all_id], iteF ?_⟩
    refine ⟨_, rfl, a, rfl, ⟨rs, sqT_mono e1 (sqT ha)⟩, fun D2 hD2 => ?_⟩
    refine lc2_tup 2 3 (.bl true) 8 (by omega) hD2 (sqT_mono e1 (sqT ha)) (fun _ => rfl) (fun _ _ => rfl) (fun _ => rfl) ?_ ?_
    · intro i v hv
      obtain ⟨r, hr, b, rfl, hb⟩ := ArrAt.row hl hz hv
      have hm := List.mem_of_getElem? hr
      refine ⟨b, _, rfl, sqT_mono e1 (sqT hb), by rw [List.length_map, ok.wid r hm]; exact hk8, fun j y hy H2 e2 Kt hK => ?_⟩
      rw [List.getElem?_map] at hy
      obtain ⟨o, ho, rfl⟩ := Option.map_eq_some_iff.mp hy
      refine ⟨_, rfl, _, rfl, a, rs, rfl, .inr (sqT_mono (e1.trans e2) (sqT ha)), o, rs.length, rfl, fun q hq => ?_, hK _ (Same.refl _)⟩
      subst hq
      rw [hl]
      exact ok.rng r hm q (List.mem_of_getElem? ho)
    · intro m H2 e2 h2
      rw [all_tt] at h2
      refine ⟨_, _, rfl, sqL h2, ?_⟩
      rw [all_id]
      exact q _ (e1.trans e2)
def sp_are_stands (K : PySem.W.Frag) : Sp := fun vs H Q _ => ∃ (v : V) (n : Nat) (E : List Nat), vs = [v, nv n] ∧ NatsAt H v E ∧ E.Pairwise (· < ·) ∧ (∀ e ∈ E, e < n) ∧ E.length ≤ 1000 ∧ ∀ H', Same H H' → Q (.bl true) H'
theorem ok_are_stands (G : Gs K mg) (h_is_number : Fn P w K mg base 1 d_is_number p_is_number (sp_is_number K)) : Fn P w K mg base 2 d_are_stands p_are_stands (sp_are_stands K) := by
  refine fn_mk G 3 rfl sc_are_stands (fun vs H Q E h => by obtain ⟨_, _, _, rfl, _⟩ := h; rfl) (fun _ _ _ _ _ _ us hl => match us, hl with | [_, _], _ => rfl) (fun cdv A outer s H vs Q E hr h => ?_)
  have hu1 := hu_of hr
  have hu64 := hr.units
  have hrN := roomN.of hr
  refine both (pss_cons (ps_if (PW.pt (pw_or (pt_not (pt_val (pe_callB (call_isiE rfl) rfl (G.f (x := "isinstance")) bo_isi (pa_cons (pv 0) (pa_cons (pe_bltn rfl (G.f (x := "tuple")) bo_tuple rfl (v := .ty "tuple")) pa_nil))))) (pw_or1 (pt_not (pt_val (pe_callB (cr_allK rfl rfl) rfl (G.f (x := "all")) bo_all (pa_cons (pe_lc rfl sc_are_stands.nd (pi_tupK rfl (pv 0)) (blkOk_by (own := [("stand", 2)]) (by first | (show blkC n_are_stands (defScope s_are_stands) _ _ = true; decide +kernel) | rfl)) (fun _ _ _ _ _ => (pg_name sc_are_stands.nd (i := 2) rfl (by first | exact .inl rfl | exact .inr rfl | exact .inr (.inl rfl) | exact .inr (.inr rfl)))) (fun _ _ _ _ _ => pts_nil) (fun _ _ _ _ _ => (pe_fn h_is_number (hr.mono (by decide)) rfl (G.g (x := "is_number")) (pa_cons (pv 2) (pa_cons pe_int (pa_cons (pe_op op_sub (pv 1) pe_int) pa_nil)))))) pa_nil))))))) (pss_one (ps_ret pe_bl)) pss_nil)
      (pss_one (ps_ret (pe_callB (cr_allK rfl rfl) rfl (G.f (x := "all")) bo_all (pa_cons (pe_lc rfl sc_are_stands.nd (pi_range1 rfl (G.f (x := "range")) (pa_cons (pe_op op_sub (pe_callB (call_lenK rfl) rfl (G.f (x := "len")) bo_len (pa_cons (pv 0) pa_nil)) pe_int) pa_nil)) (blkOk_by (own := [("place", 3)]) (by first | (show blkC n_are_stands (defScope s_are_stands) _ _ = true; decide +kernel) | rfl)) (fun _ _ _ _ _ => (pg_name sc_are_stands.nd (i := 3) rfl (by first | exact .inl rfl | exact .inr rfl | exact .inr (.inl rfl) | exact .inr (.inr rfl)))) (fun _ _ _ _ _ => pts_nil) (fun _ _ _ _ _ => (pe_cmpR op_lt (pe_ix (ix_tupK rfl) (pv 0) (pv 3) (fun _ _ => rfl)) (pe_ix (ix_tupK rfl) (pv 0) (pe_op op_add (pv 3) pe_int) (fun _ _ => rfl)) (nomark _)))) pa_nil))))) ?_
  obtain ⟨v, n, E, rfl, ⟨a, rfl, ha⟩, asc, lt, h1000, q⟩ := h
  refine ⟨_, rfl, _, _, _, _, true, rfl, .ty _, .base (.tup ha), kit_ty (by decide +kernel), true, rfl, iteF ?_⟩
  refine ⟨_, rfl, a, rfl, ⟨_, sqT ha⟩, fun D hD => ?_⟩
  refine lc_rel grow_same walk_tup (by rw [List.length_map]; omega) hD trivial (fun _ x _ => x = .bl true) (fun _ _ _ _ _ h => h) (fun _ _ _ _ h _ => h) (fun H e => sqT_mono e (sqT ha)) ?_ ?_
  · rintro i x H1 _ hi e1 ⟨rfl, hx⟩ Kt hK
    rw [List.getElem?_map] at hx
    obtain ⟨e, he, rfl⟩ := Option.map_eq_some_iff.mp hx
    have hlt := lt e (List.mem_of_getElem? he)
    refine ⟨rfl, _, rfl, _, rfl, _, _, rfl, rfl, e, 0, (n : Int) - 1, rfl, hK _ _ (Same.refl _) ?_⟩
    rw [decide_eq_true (by omega), decide_eq_true (by omega)]
    rfl
  · intro xs H1 e1 hx hlen hall
    have hxs : xs = (List.replicate xs.length true).map V.bl := by
      rw [← all_tt]
      exact List.eq_replicate_iff.mpr ⟨rfl, fun y hy => by obtain ⟨j, hj⟩ := List.mem_iff_getElem?.mp hy; exact hall j y hj⟩
    refine ⟨_, _, rfl, by rw [hxs] at hx; exact sqL hx, true, by rw [all_id], iteF ?_⟩
    refine ⟨_, rfl, a, _, rfl, .inr (sqT_mono e1 (sqT ha)), _, _, rfl, rfl, _, rfl, by rw [List.length_map]; omega, by rw [List.length_map]; omega, fun D2 hD2 => ?_⟩
    refine lc_rel grow_same walk_range (by rw [List.length_map]; omega) hD2 trivial (fun _ x _ => x = .bl true) (fun _ _ _ _ _ h => h) (fun _ _ _ _ h _ => h) (fun _ _ => trivial) ?_ ?_
    · rintro i x H2 _ hi e2 ⟨rfl, rfl⟩ Kt hK
      rw [List.length_map] at hi
      have hi1 : i + 1 < E.length := by omega
      have ha2 := e2 _ _ (e1 _ _ ha)
      have g1 : (E.map nv)[i]? = some (nv E[i]) := by rw [List.getElem?_map, List.getElem?_eq_getElem (by omega)]; rfl
      have g2 : (E.map nv)[i + 1]? = some (nv E[i + 1]) := by rw [List.getElem?_map, List.getElem?_eq_getElem (by omega)]; rfl
      refine ⟨rfl, _, rfl, _, rfl, a, _, _, _, rfl, rfl, sqT ha2, atE (by omega) g1, ?_⟩
      refine ⟨_, rfl, _, rfl, _, _, rfl, rfl, a, _, _, _, rfl, rfl, sqT ha2, atE (by omega) g2, _, _, rfl, rfl, hK _ _ (Same.refl _) ?_⟩
      have := List.pairwise_iff_getElem.mp asc i (i + 1) (by omega) hi1 (by omega)
      exact congrArg V.bl (decide_eq_true (by omega))
    · intro ys H2 e2 hy hlen2 hall2
      have hys : ys = (List.replicate ys.length true).map V.bl := by
        rw [← all_tt]
        exact List.eq_replicate_iff.mpr ⟨rfl, fun y hy => by obtain ⟨j, hj⟩ := List.mem_iff_getElem?.mp hy; exact hall2 j y hj⟩
      refine ⟨_, _, rfl, by rw [hys] at hy; exact sqL hy, ?_⟩
      rw [all_id]
      exact q _ (e1.trans e2)
end
end RK
/-! W3: readers and watchers as objects. -/
namespace RK
open PySem PySem.Spec PyProof.Rows L2
/-! ### equal data -/
def onD : Option Nat → PyData
  | none => .none
  | some n => .int (n : Int)
def nD (n : Nat) : PyData := .int (n : Int)
def rowD (r : List (Option Nat)) : PyData := .tuple (r.map onD)
def arrD (A : RR.Arr) : PyData := .tuple (A.map rowD)
def natsD (E : List Nat) : PyData := .tuple (E.map nD)
def partD (k : Nat) (A : RR.Arr) (E : List Nat) : PyData := .tuple [nD k, arrD A, natsD E]
theorem lay_map {α : Type} (f : α → PyData) (h : ∀ x, (f x).canLay0 = true) : ∀ l : List α, PyData.canLayAll0 (l.map f) = true
  | [] => rfl
  | x :: l => by simp only [List.map_cons, PyData.canLayAll0, h x, lay_map f h l, Bool.and_self]
theorem dep_map {α : Type} (f : α → PyData) (n : Nat) (h : ∀ x, (f x).depth ≤ n) : ∀ l : List α, PyData.depthAll (l.map f) ≤ n
  | [] => Nat.zero_le _
  | x :: l => by
    simp only [List.map_cons, PyData.depthAll]
    exact Nat.max_le.mpr ⟨h x, dep_map f n h l⟩
theorem eqv_map {α : Type} [DecidableEq α] (f : α → PyData) (h : ∀ x y, PyData.eqv (f x) (f y) = decide (x = y)) : ∀ l m : List α, PyData.eqvAll (l.map f) (m.map f) = decide (l = m)
  | [], [] => by simp [PyData.eqvAll]
  | [], y :: m => by simp [PyData.eqvAll]
  | x :: l, [] => by simp [PyData.eqvAll]
  | x :: l, y :: m => by
    simp only [List.map_cons, PyData.eqvAll, h x y, eqv_map f h l m]
    by_cases e : x = y <;> by_cases e2 : l = m <;> simp [e, e2]
theorem nat_beq (a b : Nat) : ((a : Int) == (b : Int)) = decide (a = b) := by
  rw [Bool.eq_iff_iff]
  simp
  omega
theorem onD_lay (o : Option Nat) : (onD o).canLay0 = true := by cases o <;> rfl
theorem onD_dep (o : Option Nat) : (onD o).depth ≤ 0 := by cases o <;> exact Nat.le_refl _
theorem onD_eqv (o u : Option Nat) : PyData.eqv (onD o) (onD u) = decide (o = u) := by
  cases o with
  | none => cases u <;> simp [onD, PyData.eqv]
  | some a =>
    cases u with
    | none => simp [onD, PyData.eqv]
    | some b =>
      show ((a : Int) == (b : Int)) = _
      rw [nat_beq]
      simp
theorem rowD_lay (r : List (Option Nat)) : (rowD r).canLay0 = true := lay_map onD onD_lay r
theorem rowD_dep (r : List (Option Nat)) : (rowD r).depth ≤ 1 := Nat.succ_le_succ (dep_map onD 0 onD_dep r)
theorem rowD_eqv (r q : List (Option Nat)) : PyData.eqv (rowD r) (rowD q) = decide (r = q) := eqv_map onD onD_eqv r q
theorem arrD_lay (A : RR.Arr) : (arrD A).canLay0 = true := lay_map rowD rowD_lay A
theorem arrD_dep (A : RR.Arr) : (arrD A).depth ≤ 2 := Nat.succ_le_succ (dep_map rowD 1 rowD_dep A)
theorem arrD_eqv (A B : RR.Arr) : PyData.eqv (arrD A) (arrD B) = decide (A = B) := eqv_map rowD rowD_eqv A B
theorem nD_eqv (a b : Nat) : PyData.eqv (nD a) (nD b) = decide (a = b) := nat_beq a b
theorem natsD_lay (E : List Nat) : (natsD E).canLay0 = true := lay_map nD (fun _ => rfl) E
theorem natsD_dep (E : List Nat) : (natsD E).depth ≤ 1 := Nat.succ_le_succ (dep_map nD 0 (fun _ => Nat.le_refl _) E)
theorem natsD_eqv (E F : List Nat) : PyData.eqv (natsD E) (natsD F) = decide (E = F) := eqv_map nD nD_eqv E F
theorem partD_shaped (k : Nat) (A : RR.Arr) (E : List Nat) : SeqAt.shaped (partD k A E) = true := by
  unfold SeqAt.shaped
  have h1 : (partD k A E).canLay0 = true := by
    show ((nD k).canLay0 && ((arrD A).canLay0 && ((natsD E).canLay0 && true))) = true
    rw [arrD_lay, natsD_lay]
    rfl
  have h2 : (partD k A E).depth ≤ 64 := by
    show max (nD k).depth (max (arrD A).depth (max (natsD E).depth 0)) + 1 ≤ 64
    have a1 := arrD_dep A
    have a2 := natsD_dep E
    have a3 : (nD k).depth = 0 := rfl
    omega
  rw [h1, decide_eq_true h2]
  rfl
theorem partD_eqv (k k' : Nat) (A A' : RR.Arr) (E E' : List Nat) : PyData.eqv (partD k A E) (partD k' A' E') = decide (k = k' ∧ A = A' ∧ E = E') := by
  show (PyData.eqv (nD k) (nD k') && (PyData.eqv (arrD A) (arrD A') && (PyData.eqv (natsD E) (natsD E') && true))) = _
  rw [nD_eqv, arrD_eqv, natsD_eqv]
  by_cases a : k = k' <;> by_cases b : A = A' <;> by_cases c : E = E' <;> simp [a, b, c]
section
variable {K : PySem.W.Frag} {H : Hp}
theorem dp_on (o : Option Nat) : Dp K H (onv o) (onD o) := by
  cases o with
  | none => exact .non
  | some n => exact .int _
theorem dp_map {α : Type} (f : α → V) (g : α → PyData) (h : ∀ x, Dp K H (f x) (g x)) : ∀ l : List α, DpAll K H (l.map f) (l.map g)
  | [] => .nil
  | x :: l => .cons (h x) (dp_map f g h l)
theorem dp_row {v : V} {r : List (Option Nat)} (h : RowAt H v r) : Dp K H v (rowD r) := by
  obtain ⟨a, rfl, e⟩ := h
  exact .tup (sqT e) (dp_map onv onD dp_on r)
theorem dp_nats {v : V} {E : List Nat} (h : NatsAt H v E) : Dp K H v (natsD E) := by
  obtain ⟨a, rfl, e⟩ := h
  exact .tup (sqT e) (dp_map nv nD (fun _ => .int _) E)
theorem dp_rows : ∀ (rs : List V) (A : RR.Arr), rs.length = A.length → (∀ (i : Nat) (x : V) (r : List (Option Nat)), rs[i]? = some x → A[i]? = some r → RowAt H x r) → DpAll K H rs (A.map rowD)
  | [], [], _, _ => .nil
  | [], _ :: _, h, _ => by simp at h
  | _ :: _, [], h, _ => by simp at h
  | x :: rs, r :: A, h, z => .cons (dp_row (z 0 x r rfl rfl)) (dp_rows rs A (by simpa using h) fun i y q h1 h2 => z (i + 1) y q (by simpa using h1) (by simpa using h2))
theorem dp_arr {v : V} {A : RR.Arr} (h : ArrAt H v A) : Dp K H v (arrD A) := by
  obtain ⟨a, rs, rfl, e, l, z⟩ := h
  exact .tup (sqT e) (dp_rows rs A l z)
theorem dp_part {t : Addr} {k : Nat} {x y : V} {A : RR.Arr} {E : List Nat} (h : H t = some (.tup [nv k, x, y])) (ha : ArrAt H x A) (he : NatsAt H y E) : Dp K H (.ref t) (partD k A E) :=
  .tup (sqT h) (.cons (.int _) (.cons (dp_arr ha) (.cons (dp_nats he) .nil)))
theorem kit_self (C : Addr) : PySem.W.kitOne K (.ref C) (.ref C) = some true := by
  unfold PySem.W.kitOne
  rw [if_pos (beq_self_eq_true _)]
theorem tyx_ins {a C dx : Addr} {fs : List (Str × V)} (c : ClsOk K C) (h : H a = some (.ins C dx fs)) : TyX K H (.ref a) (.ref C) := .base (isi_ty c.isi c.cl h)
end
section
variable {P : Program} {w : World} {K : PySem.W.Frag} {mg : Str → Option Value} {base : Heap}
/-- the i-th part of an instance -/
def spPart (C : Addr) (i : Nat) : Sp := fun vs H Q _ => ∃ (a dx t : Addr) (xs : List V) (x : V), vs = [.ref a] ∧ H a = some (.ins C dx [("parts", .ref t)]) ∧ H t = some (.tup xs) ∧ xs[i]? = some x ∧ Q x H
abbrev sp_Reader_signs (K : PySem.W.Frag) : Sp := spPart (CR_ K) 0
abbrev sp_Reader_arrows (K : PySem.W.Frag) : Sp := spPart (CR_ K) 1
abbrev sp_Reader_ends (K : PySem.W.Frag) : Sp := spPart (CR_ K) 2
abbrev sp_Watcher_signs (K : PySem.W.Frag) : Sp := spPart (CW_ K) 0
abbrev sp_Watcher_arrows (K : PySem.W.Frag) : Sp := spPart (CW_ K) 1
abbrev sp_Watcher_marks (K : PySem.W.Frag) : Sp := spPart (CW_ K) 2
theorem ok_Reader_signs (G : Gs K mg) : Fn P w K mg base 1 d_Reader_signs p_Reader_signs (sp_Reader_signs K) := by
  refine fn_mk G 52 rfl sc_Reader_signs (fun vs H Q E h => by obtain ⟨_, _, _, _, _, rfl, _⟩ := h; rfl) (fun _ _ _ _ _ _ us hl => match us, hl with | [_], _ => rfl) (fun cdv A outer s H vs Q E hr h => ?_)
  have hu1 := hu_of hr
  have hu64 := hr.units
  have hrN := roomN.of hr
  refine both (pss_one (ps_ret (pe_ix (ix_tupK rfl) (pe_fldK rfl (pv 0) rfl) pe_int (fun _ _ => rfl)))) ?_
  obtain ⟨a, dx, t, xs, x, rfl, ha, ht, hx, q⟩ := h
  exact ⟨_, rfl, a, _, dx, _, _, rfl, ha, G.rc.cl, G.rc.na, rfl, t, xs, 0, x, rfl, rfl, sqT ht, atE (j := 0) rfl hx, q⟩
theorem ok_Reader_arrows (G : Gs K mg) : Fn P w K mg base 1 d_Reader_arrows p_Reader_arrows (sp_Reader_arrows K) := by
  refine fn_mk G 53 rfl sc_Reader_arrows (fun vs H Q E h => by obtain ⟨_, _, _, _, _, rfl, _⟩ := h; rfl) (fun _ _ _ _ _ _ us hl => match us, hl with | [_], _ => rfl) (fun cdv A outer s H vs Q E hr h => ?_)
  have hu1 := hu_of hr
  have hu64 := hr.units
  have hrN := roomN.of hr
  refine both (pss_one (ps_ret (pe_ix (ix_tupK rfl) (pe_fldK rfl (pv 0) rfl) pe_int (fun _ _ => rfl)))) ?_
  obtain ⟨a, dx, t, xs, x, rfl, ha, ht, hx, q⟩ := h
  exact ⟨_, rfl, a, _, dx, _, _, rfl, ha, G.rc.cl, G.rc.na, rfl, t, xs, 1, x, rfl, rfl, sqT ht, atE (j := 1) rfl hx, q⟩
theorem ok_Reader_ends (G : Gs K mg) : Fn P w K mg base 1 d_Reader_ends p_Reader_ends (sp_Reader_ends K) := by
  refine fn_mk G 54 rfl sc_Reader_ends (fun vs H Q E h => by obtain ⟨_, _, _, _, _, rfl, _⟩ := h; rfl) (fun _ _ _ _ _ _ us hl => match us, hl with | [_], _ => rfl) (fun cdv A outer s H vs Q E hr h => ?_)
  have hu1 := hu_of hr
  have hu64 := hr.units
  have hrN := roomN.of hr
  refine both (pss_one (ps_ret (pe_ix (ix_tupK rfl) (pe_fldK rfl (pv 0) rfl) pe_int (fun _ _ => rfl)))) ?_
  obtain ⟨a, dx, t, xs, x, rfl, ha, ht, hx, q⟩ := h
  exact ⟨_, rfl, a, _, dx, _, _, rfl, ha, G.rc.cl, G.rc.na, rfl, t, xs, 2, x, rfl, rfl, sqT ht, atE (j := 2) rfl hx, q⟩
theorem ok_Watcher_signs (G : Gs K mg) : Fn P w K mg base 1 d_Watcher_signs p_Watcher_signs (sp_Watcher_signs K) := by
  refine fn_mk G 57 rfl sc_Watcher_signs (fun vs H Q E h => by obtain ⟨_, _, _, _, _, rfl, _⟩ := h; rfl) (fun _ _ _ _ _ _ us hl => match us, hl with | [_], _ => rfl) (fun cdv A outer s H vs Q E hr h => ?_)
  have hu1 := hu_of hr
  have hu64 := hr.units
  have hrN := roomN.of hr
  refine both (pss_one (ps_ret (pe_ix (ix_tupK rfl) (pe_fldK rfl (pv 0) rfl) pe_int (fun _ _ => rfl)))) ?_
  obtain ⟨a, dx, t, xs, x, rfl, ha, ht, hx, q⟩ := h
  exact ⟨_, rfl, a, _, dx, _, _, rfl, ha, G.wc.cl, G.wc.na, rfl, t, xs, 0, x, rfl, rfl, sqT ht, atE (j := 0) rfl hx, q⟩
theorem ok_Watcher_arrows (G : Gs K mg) : Fn P w K mg base 1 d_Watcher_arrows p_Watcher_arrows (sp_Watcher_arrows K) := by
  refine fn_mk G 58 rfl sc_Watcher_arrows (fun vs H Q E h => by obtain ⟨_, _, _, _, _, rfl, _⟩ := h; rfl) (fun _ _ _ _ _ _ us hl => match us, hl with | [_], _ => rfl) (fun cdv A outer s H vs Q E hr h => ?_)
  have hu1 := hu_of hr
  have hu64 := hr.units
  have hrN := roomN.of hr
  refine both (pss_one (ps_ret (pe_ix (ix_tupK rfl) (pe_fldK rfl (pv 0) rfl) pe_int (fun _ _ => rfl)))) ?_
  obtain ⟨a, dx, t, xs, x, rfl, ha, ht, hx, q⟩ := h
  exact ⟨_, rfl, a, _, dx, _, _, rfl, ha, G.wc.cl, G.wc.na, rfl, t, xs, 1, x, rfl, rfl, sqT ht, atE (j := 1) rfl hx, q⟩
theorem ok_Watcher_marks (G : Gs K mg) : Fn P w K mg base 1 d_Watcher_marks p_Watcher_marks (sp_Watcher_marks K) := by
  refine fn_mk G 59 rfl sc_Watcher_marks (fun vs H Q E h => by obtain ⟨_, _, _, _, _, rfl, _⟩ := h; rfl) (fun _ _ _ _ _ _ us hl => match us, hl with | [_], _ => rfl) (fun cdv A outer s H vs Q E hr h => ?_)
  have hu1 := hu_of hr
  have hu64 := hr.units
  have hrN := roomN.of hr
  refine both (pss_one (ps_ret (pe_ix (ix_tupK rfl) (pe_fldK rfl (pv 0) rfl) pe_int (fun _ _ => rfl)))) ?_
  obtain ⟨a, dx, t, xs, x, rfl, ha, ht, hx, q⟩ := h
  exact ⟨_, rfl, a, _, dx, _, _, rfl, ha, G.wc.cl, G.wc.na, rfl, t, xs, 2, x, rfl, rfl, sqT ht, atE (j := 2) rfl hx, q⟩
def sp_Watcher_len (K : PySem.W.Frag) : Sp := fun vs H Q _ => ∃ (v : V) (k : Nat) (A : RR.Arr) (E : List Nat), vs = [v] ∧ InsAt (CW_ K) H v k A E ∧ Q (nv A.length) H
theorem ok_Watcher_len (G : Gs K mg) : Fn P w K mg base 1 d_Watcher_len p_Watcher_len (sp_Watcher_len K) := by
  refine fn_mk G 60 rfl sc_Watcher_len (fun vs H Q E h => by obtain ⟨_, _, _, _, rfl, _⟩ := h; rfl) (fun _ _ _ _ _ _ us hl => match us, hl with | [_], _ => rfl) (fun cdv A outer s H vs Q E hr h => ?_)
  have hu1 := hu_of hr
  have hu64 := hr.units
  have hrN := roomN.of hr
  refine both (pss_one (ps_ret (pe_callB (call_lenK rfl) rfl (G.f (x := "len")) bo_len (pa_cons (pe_ix (ix_tupK rfl) (pe_fldK rfl (pv 0) rfl) pe_int (fun _ _ => rfl)) pa_nil)))) ?_
  obtain ⟨v, k, A, E, rfl, ⟨a, dx, t, x, y, rfl, ha, ht, ⟨b, rs, rfl, hb, hl, _⟩, _⟩, q⟩ := h
  refine ⟨_, rfl, a, _, dx, _, _, rfl, ha, G.wc.cl, G.wc.na, rfl, t, _, 1, _, rfl, rfl, sqT ht, atE (j := 1) rfl rfl, b, rs, rfl, .inr (sqT hb), ?_⟩
  rw [hl]
  exact q
def sp_Reader_eq (K : PySem.W.Frag) : Sp := fun vs H Q _ => ∃ (v u : V) (k k' : Nat) (A A' : RR.Arr) (E E' : List Nat), vs = [v, u] ∧ InsAt (CR_ K) H v k A E ∧ InsAt (CR_ K) H u k' A' E' ∧ Q (.bl (decide (k = k' ∧ A = A' ∧ E = E'))) H
theorem ok_Reader_eq (G : Gs K mg) : Fn P w K mg base 1 d_Reader_eq p_Reader_eq (sp_Reader_eq K) := by
  refine fn_mk G 55 rfl sc_Reader_eq (fun vs H Q E h => by obtain ⟨_, _, _, _, _, _, _, _, rfl, _⟩ := h; rfl) (fun _ _ _ _ _ _ us hl => match us, hl with | [_, _], _ => rfl) (fun cdv A outer s H vs Q E hr h => ?_)
  have hu1 := hu_of hr
  have hu64 := hr.units
  have hrN := roomN.of hr
  refine both (pss_one (ps_ret (pe_and (pe_callB (call_isiE rfl) rfl (G.f (x := "isinstance")) bo_isi (pa_cons (pv 1) (pa_cons (pe_glob rfl (G.g (x := "Reader")) rfl (v := .ref (He.ga K "Reader"))) pa_nil))) (pe_one (pe_cmpR (op_eqDK hu64 rfl) (pe_fldK rfl (pv 0) rfl) (pe_fldK rfl (pv 1) rfl) (nomark _)))))) ?_
  obtain ⟨v, u, k, k', A, A', F, F', rfl, ⟨a, dx, t, x, y, rfl, ha, ht, h1, h2⟩, ⟨a', dx', t', x', y', rfl, ha', ht', h1', h2'⟩, q⟩ := h
  refine ⟨_, rfl, _, _, _, _, true, rfl, .own _, tyx_ins G.rc ha', kit_self _, true, rfl, iteT ?_⟩
  refine ⟨_, rfl, a, _, dx, _, _, rfl, ha, G.rc.cl, G.rc.na, rfl, _, rfl, a', _, dx', _, _, rfl, ha', G.rc.cl, G.rc.na, rfl, ?_⟩
  refine ⟨_, _, dp_part ht h1 h2, dp_part ht' h1' h2', partD_shaped _ _ _, partD_shaped _ _ _, ?_⟩
  rw [partD_eqv]
  exact q
/-- what an own __init__ leaves -/
def spInit (C : Addr) : Sp := fun vs H Q _ => ∃ (a dx : Addr) (vA vE : V) (k : Nat) (A : RR.Arr) (E : List Nat), vs = [.ref a, nv k, vA, vE] ∧ H a = some (.ins C dx []) ∧ ArrAt H vA A ∧ NatsAt H vE E ∧ (1 ≤ k ∧ k ≤ 8) ∧ RR.ArrOk k A ∧ A.length ≤ 200 ∧ E.Pairwise (· < ·) ∧ (∀ e ∈ E, e < A.length) ∧ E.length ≤ 1000 ∧
  ∀ H' t, SameV a H H' → H' a = some (.ins C dx [("parts", .ref t)]) → H' t = some (.tup [nv k, vA, vE]) → Q .non H'
abbrev sp_Reader_init (K : PySem.W.Frag) : Sp := spInit (CR_ K)
abbrev sp_Watcher_init (K : PySem.W.Frag) : Sp := spInit (CW_ K)
theorem init_end {a dx t C : Addr} {H H1 : Hp} {vA vE : V} {k : Nat} {Q : VK} (e : Same H H1) (ha : H a = some (.ins C dx [])) (ht : H1 t = none)
    (q : ∀ H' t, SameV a H H' → H' a = some (.ins C dx [("parts", .ref t)]) → H' t = some (.tup [nv k, vA, vE]) → Q .non H') :
    Q .non (upd (upd H1 t (.tup [nv k, vA, vE])) a (.ins C dx (putF "parts" (.ref t) []))) := by
  have hta : t ≠ a := fun z => by
    have := e _ _ ha
    rw [← z, ht] at this
    cases this
  refine q _ t (fun b o hb h => ?_) upd_same (by rw [upd_ne hta, upd_same])
  rw [upd_ne hb]
  exact same_new ht _ _ (e _ _ h)
theorem ok_Reader_init (G : Gs K mg) (h_check_signs : Fn P w K mg base 3 d_check_signs p_check_signs (sp_check_signs K)) (h_are_arrows : Fn P w K mg base 3 d_are_arrows p_are_arrows (sp_are_arrows K)) (h_are_stands : Fn P w K mg base 2 d_are_stands p_are_stands (sp_are_stands K)) : Fn P w K mg base 4 d_Reader_init p_Reader_init (sp_Reader_init K) := by
  refine fn_mk G 51 rfl sc_Reader_init (fun vs H Q E h => by obtain ⟨_, _, _, _, _, _, _, rfl, _⟩ := h; rfl) (fun _ _ _ _ _ _ us hl => match us, hl with | [_, _, _, _], _ => rfl) (fun cdv A outer s H vs Q E hr h => ?_)
  have hu1 := hu_of hr
  have hu64 := hr.units
  have hrN := roomN.of hr
  refine both (pss_cons (ps_expr (pe_fn h_check_signs (hr.mono (by decide)) rfl (G.g (x := "check_signs")) (pa_cons (pv 1) pa_nil)))
      (pss_cons (ps_if (pt_not (pt_val (pe_fn h_are_arrows (hr.mono (by decide)) rfl (G.g (x := "are_arrows")) (pa_cons (pv 2) (pa_cons (pv 1) pa_nil))))) pss_never pss_nil)
      (pss_cons (ps_if (pt_not (pt_val (pe_fn h_are_stands (hr.mono (by decide)) rfl (G.g (x := "are_stands")) (pa_cons (pv 3) (pa_cons (pe_callB (call_lenK rfl) rfl (G.f (x := "len")) bo_len (pa_cons (pv 2) pa_nil)) pa_nil))))) pss_never pss_nil)
      (pss_one (ps_fldK rfl (pv 0) (pe_tup (pa_cons (pv 1) (pa_cons (pv 2) (pa_cons (pv 3) pa_nil)))) rfl))))) ?_
  obtain ⟨a, dx, vA, vE, k, B, F, rfl, ha, hA, hE, hk, ok, h200, asc, lt, h1000, q⟩ := h
  refine ⟨_, rfl, k, rfl, hk, ?_⟩
  refine ⟨_, rfl, _, rfl, vA, k, B, rfl, hA, ok, h200, hk.2, fun H1 e1 => ⟨true, rfl, iteF ?_⟩⟩
  have hA1 := hA.mono (same_tups e1)
  obtain ⟨b, rs, rfl, hb, hl, hz⟩ := hA1
  refine ⟨_, rfl, _, rfl, b, rs, rfl, .inr (sqT hb), vE, B.length, F, by rw [← hl]; rfl, hE.mono (same_tups e1), asc, lt, h1000, fun H2 e2 => ⟨true, rfl, iteF ?_⟩⟩
  refine ⟨_, rfl, _, rfl, _, rfl, Evl.sz_of (show 3 ≤ 100000 by decide), fun t ht => ?_⟩
  refine ⟨_, rfl, a, _, dx, _, rfl, ?_, G.rc.cl, G.rc.na, by decide, init_end (e1.trans e2) ha ht q⟩
  exact same_new ht _ _ (e2 _ _ (e1 _ _ ha))
theorem ok_Watcher_init (G : Gs K mg) (h_check_signs : Fn P w K mg base 3 d_check_signs p_check_signs (sp_check_signs K)) (h_are_arrows : Fn P w K mg base 3 d_are_arrows p_are_arrows (sp_are_arrows K)) (h_are_stands : Fn P w K mg base 2 d_are_stands p_are_stands (sp_are_stands K)) : Fn P w K mg base 4 d_Watcher_init p_Watcher_init (sp_Watcher_init K) := by
  refine fn_mk G 56 rfl sc_Watcher_init (fun vs H Q E h => by obtain ⟨_, _, _, _, _, _, _, rfl, _⟩ := h; rfl) (fun _ _ _ _ _ _ us hl => match us, hl with | [_, _, _, _], _ => rfl) (fun cdv A outer s H vs Q E hr h => ?_)
  have hu1 := hu_of hr
  have hu64 := hr.units
  have hrN := roomN.of hr
  refine both (pss_cons (ps_expr (pe_fn h_check_signs (hr.mono (by decide)) rfl (G.g (x := "check_signs")) (pa_cons (pv 1) pa_nil)))
      (pss_cons (ps_if (pt_not (pt_val (pe_fn h_are_arrows (hr.mono (by decide)) rfl (G.g (x := "are_arrows")) (pa_cons (pv 2) (pa_cons (pv 1) pa_nil))))) pss_never pss_nil)
      (pss_cons (ps_if (pt_not (pt_val (pe_fn h_are_stands (hr.mono (by decide)) rfl (G.g (x := "are_stands")) (pa_cons (pv 3) (pa_cons (pe_callB (call_lenK rfl) rfl (G.f (x := "len")) bo_len (pa_cons (pv 2) pa_nil)) pa_nil))))) pss_never pss_nil)
      (pss_one (ps_fldK rfl (pv 0) (pe_tup (pa_cons (pv 1) (pa_cons (pv 2) (pa_cons (pv 3) pa_nil)))) rfl))))) ?_
  obtain ⟨a, dx, vA, vE, k, B, F, rfl, ha, hA, hE, hk, ok, h200, asc, lt, h1000, q⟩ := h
  refine ⟨_, rfl, k, rfl, hk, ?_⟩
  refine ⟨_, rfl, _, rfl, vA, k, B, rfl, hA, ok, h200, hk.2, fun H1 e1 => ⟨true, rfl, iteF ?_⟩⟩
  have hA1 := hA.mono (same_tups e1)
  obtain ⟨b, rs, rfl, hb, hl, hz⟩ := hA1
  refine ⟨_, rfl, _, rfl, b, rs, rfl, .inr (sqT hb), vE, B.length, F, by rw [← hl]; rfl, hE.mono (same_tups e1), asc, lt, h1000, fun H2 e2 => ⟨true, rfl, iteF ?_⟩⟩
  refine ⟨_, rfl, _, rfl, _, rfl, Evl.sz_of (show 3 ≤ 100000 by decide), fun t ht => ?_⟩
  refine ⟨_, rfl, a, _, dx, _, rfl, ?_, G.wc.cl, G.wc.na, by decide, init_end (e1.trans e2) ha ht q⟩
  exact same_new ht _ _ (e2 _ _ (e1 _ _ ha))
def sp_check_reader (K : PySem.W.Frag) : Sp := fun vs H Q _ => ∃ (a dx : Addr) (fs : List (Str × V)), vs = [.ref a] ∧ H a = some (.ins (CR_ K) dx fs) ∧ Q .non H
theorem ok_check_reader (G : Gs K mg) : Fn P w K mg base 1 d_check_reader p_check_reader (sp_check_reader K) := by
  refine fn_mk G 7 rfl sc_check_reader (fun vs H Q E h => by obtain ⟨_, _, _, rfl, _⟩ := h; rfl) (fun _ _ _ _ _ _ us hl => match us, hl with | [_], _ => rfl) (fun cdv A outer s H vs Q E hr h => ?_)
  have hu1 := hu_of hr
  have hu64 := hr.units
  have hrN := roomN.of hr
  refine both (pss_one (ps_if (pt_not (pt_val (pe_callB (call_isiE rfl) rfl (G.f (x := "isinstance")) bo_isi (pa_cons (pv 0) (pa_cons (pe_glob rfl (G.g (x := "Reader")) rfl (v := .ref (He.ga K "Reader"))) pa_nil))))) pss_never pss_nil)) ?_
  obtain ⟨a, dx, fs, rfl, ha, q⟩ := h
  exact ⟨_, rfl, _, _, _, _, true, rfl, .own _, tyx_ins G.rc ha, kit_self _, true, rfl, iteF q⟩
def sp_check_watcher (K : PySem.W.Frag) : Sp := fun vs H Q _ => ∃ (a dx : Addr) (fs : List (Str × V)), vs = [.ref a] ∧ H a = some (.ins (CW_ K) dx fs) ∧ Q .non H
theorem ok_check_watcher (G : Gs K mg) : Fn P w K mg base 1 d_check_watcher p_check_watcher (sp_check_watcher K) := by
  refine fn_mk G 22 rfl sc_check_watcher (fun vs H Q E h => by obtain ⟨_, _, _, rfl, _⟩ := h; rfl) (fun _ _ _ _ _ _ us hl => match us, hl with | [_], _ => rfl) (fun cdv A outer s H vs Q E hr h => ?_)
  have hu1 := hu_of hr
  have hu64 := hr.units
  have hrN := roomN.of hr
  refine both (pss_one (ps_if (pt_not (pt_val (pe_callB (call_isiE rfl) rfl (G.f (x := "isinstance")) bo_isi (pa_cons (pv 0) (pa_cons (pe_glob rfl (G.g (x := "Watcher")) rfl (v := .ref (He.ga K "Watcher"))) pa_nil))))) pss_never pss_nil)) ?_
  obtain ⟨a, dx, fs, rfl, ha, q⟩ := h
  exact ⟨_, rfl, _, _, _, _, true, rfl, .own _, tyx_ins G.wc ha, kit_self _, true, rfl, iteF q⟩
def sp_check_watchers (K : PySem.W.Frag) : Sp := fun vs H Q _ => ∃ (v u : V) (k : Nat) (A A' : RR.Arr) (E E' : List Nat), vs = [v, u] ∧ InsAt (CW_ K) H v k A E ∧ InsAt (CW_ K) H u k A' E' ∧ Q .non H
theorem ok_check_watchers (G : Gs K mg) (h_check_watcher : Fn P w K mg base 1 d_check_watcher p_check_watcher (sp_check_watcher K)) (h_Watcher_signs : Fn P w K mg base 1 d_Watcher_signs p_Watcher_signs (sp_Watcher_signs K)) : Fn P w K mg base 3 d_check_watchers p_check_watchers (sp_check_watchers K) := by
  refine fn_mk G 23 rfl sc_check_watchers (fun vs H Q E h => by obtain ⟨_, _, _, _, _, _, _, rfl, _⟩ := h; rfl) (fun _ _ _ _ _ _ us hl => match us, hl with | [_, _], _ => rfl) (fun cdv A outer s H vs Q E hr h => ?_)
  have hu1 := hu_of hr
  have hu64 := hr.units
  have hrN := roomN.of hr
  refine both (pss_cons (ps_expr (pe_fn h_check_watcher (hr.mono (by decide)) rfl (G.g (x := "check_watcher")) (pa_cons (pv 0) pa_nil)))
      (pss_cons (ps_expr (pe_fn h_check_watcher (hr.mono (by decide)) rfl (G.g (x := "check_watcher")) (pa_cons (pv 1) pa_nil)))
      (pss_one (ps_if (pt_cmpR op_ne (pe_pr h_Watcher_signs (hr.mono (by decide)) G.wc.cl G.ws (pv 0)) (pe_pr h_Watcher_signs (hr.mono (by decide)) G.wc.cl G.ws (pv 1)) (nomark _)) pss_never pss_nil)))) ?_
  obtain ⟨v, u, k, A, A', F, F', rfl, ⟨a, dx, t, x, y, rfl, ha, ht, h1, h2⟩, ⟨a', dx', t', x', y', rfl, ha', ht', h1', h2'⟩, q⟩ := h
  refine ⟨_, rfl, a, _, _, rfl, ha, ?_⟩
  refine ⟨_, rfl, a', _, _, rfl, ha', ?_⟩
  refine ⟨_, rfl, a, dx, _, rfl, ha, a, dx, t, _, _, rfl, ha, ht, rfl, ?_⟩
  refine ⟨_, rfl, a', dx', _, rfl, ha', a', dx', t', _, _, rfl, ha', ht', rfl, rfl, _, rfl, ?_⟩
  rw [decide_eq_true rfl]
  exact iteF q
end
end RK
/-! W4: rows read. -/
namespace RK
open PySem PySem.Spec PyProof.Rows L2
theorem q_tt {Q : VK} {H : Hp} {b : Bool} (h : b = true) (q : Q (.bl true) H) : Q (.bl b) H := by
  rw [h]
  exact q
/-! ### texts -/
theorem txt_size (u : List Nat) : (txt u).cps.size = u.length := by simp [txt]
theorem txt_len (u : List Nat) : (txt u).length = u.length := txt_size u
theorem txt_at {u : List Nat} {i c : Nat} (h : (txt u).cps[i]? = some c) : ∃ p, u[i]? = some p ∧ c = 97 + p := by
  unfold txt at h
  rw [List.getElem?_toArray, List.getElem?_map] at h
  obtain ⟨p, hp, e⟩ := Option.map_eq_some_iff.mp h
  exact ⟨p, hp, e.symm⟩
theorem sign_in : ∀ k : Nat, k ≤ 8 → ∀ p : Nat, p < k → decide (97 + p ∈ (cutS "abcdefgh" none (some (k : Int))).cps.toList) = true := by
  intro k hk p hp
  have key : ∀ k : Fin 9, ∀ p : Fin 8, p.val < k.val → decide (97 + p.val ∈ (cutS "abcdefgh" none (some ((k.val : Nat) : Int))).cps.toList) = true := by decide +kernel
  exact key ⟨k, by omega⟩ ⟨p, by omega⟩ hp
theorem sign_ix : ∀ p, p < 8 → Builtin.Str.occurrences "abcdefgh" ⟨#[97 + p]⟩ 0 ("abcdefgh" : Str).length 1 = [p] := by
  intro p hp
  have key : ∀ p : Fin 8, Builtin.Str.occurrences "abcdefgh" ⟨#[97 + p.val]⟩ 0 ("abcdefgh" : Str).length 1 = [p.val] := by decide +kernel
  exact key ⟨p, hp⟩
theorem cell {H : Hp} {rs : List V} {A : RR.Arr} {k : Nat} (l : rs.length = A.length) (z : ∀ (i : Nat) (x : V) (r : List (Option Nat)), rs[i]? = some x → A[i]? = some r → RowAt H x r) (ok : RR.ArrOk k A) {q p : Nat} (hq : q < A.length) (hp : p < k) :
    ∃ (b : Addr) (r : List (Option Nat)), rs[q]? = some (.ref b) ∧ A[q]? = some r ∧ H b = some (.tup (r.map onv)) ∧ r.length = k ∧ (r.map onv)[p]? = some (onv (RR.goalAt A q p)) := by
  have h1 : rs[q]? = some (rs[q]'(by omega)) := List.getElem?_eq_getElem (by omega)
  have h2 : A[q]? = some A[q] := List.getElem?_eq_getElem hq
  obtain ⟨b, e, hb⟩ := z q _ _ h1 h2
  have hw := ok.wid A[q] (List.getElem_mem hq)
  refine ⟨b, A[q], by rw [h1, e], h2, hb, hw, ?_⟩
  rw [List.getElem?_map, List.getElem?_eq_getElem (by omega)]
  show some (onv A[q][p]) = _
  unfold RR.goalAt
  simp [hq, show p < A[q].length by omega]
theorem run_take {A : RR.Arr} {s : Option Nat} {u : List Nat} {i p : Nat} (h : u[i]? = some p) : RR.run A s (u.take (i + 1)) = RR.step A (RR.run A s (u.take i)) p := by
  rw [take_next h, RR.run_append]
  rfl
theorem run_cut {A : RR.Arr} {s : Option Nat} {u : List Nat} {i : Nat} (h : RR.run A s (u.take i) = none) : RR.run A s u = none := by
  rw [← List.take_append_drop i u, RR.run_append, h, RR.run_none]
section
variable {P : Program} {w : World} {K : PySem.W.Frag} {mg : Str → Option Value} {base : Heap}
def sp_is_row (K : PySem.W.Frag) : Sp := fun vs H Q _ => ∃ (u : List Nat) (k : Nat), vs = [.str (txt u), nv k, .int 200] ∧ (∀ p ∈ u, p < k) ∧ k ≤ 8 ∧ u.length ≤ 200 ∧ ∀ H', Same H H' → Q (.bl true) H'
theorem ok_is_row (G : Gs K mg) : Fn P w K mg base 1 d_is_row p_is_row (sp_is_row K) := by
  refine fn_mk G 4 rfl sc_is_row (fun vs H Q E h => by obtain ⟨_, _, rfl, _⟩ := h; rfl) (fun _ _ _ _ _ _ us hl => match us, hl with | [_, _, _], _ => rfl) (fun cdv A outer s H vs Q E hr h => ?_)
  have hu1 := hu_of hr
  have hu64 := hr.units
  have hrN := roomN.of hr
  obtain ⟨_, gal⟩ := G.al
  refine both (pss_cons (ps_if (PW.pt (pw_or (pt_not (pt_val (pe_callB (call_isiE rfl) rfl (G.f (x := "isinstance")) bo_isi (pa_cons (pv 0) (pa_cons (pe_bltn rfl (G.f (x := "str")) bo_str rfl (v := .ty "str")) pa_nil))))) (pw_or1 (pt_not (pt_val (pe_callB (cr_allK rfl rfl) rfl (G.f (x := "all")) bo_all (pa_cons (pe_lc rfl sc_is_row.nd (pi_str (pv 0)) (blkOk_by (own := [("sign", 3)]) (by first | (show blkC n_is_row (defScope s_is_row) _ _ = true; decide +kernel) | rfl)) (fun _ _ _ _ _ => (pg_name sc_is_row.nd (i := 3) rfl (by first | exact .inl rfl | exact .inr rfl | exact .inr (.inl rfl) | exact .inr (.inr rfl)))) (fun _ _ _ _ _ => pts_nil) (fun _ _ _ _ _ => (pe_cmpR op_in_sign (pv 3) (pe_slice sl_str (pe_glob rfl gal ⟨_, rfl⟩ (v := .str "abcdefgh")) po_none (po_some (pv 1))) rfl))) pa_nil))))))) (pss_one (ps_ret pe_bl)) pss_nil)
      (pss_one (ps_ret (pe_or (pe_cmp (pc_isN (pv 2))) (pe_one (pe_cmpR op_le (pe_callB call_len rfl (G.f (x := "len")) bo_len (pa_cons (pv 0) pa_nil)) (pv 2) (nomark _))))))) ?_
  obtain ⟨u, k, rfl, hu, hk, h200, q⟩ := h
  refine ⟨_, rfl, _, _, _, _, true, rfl, .ty _, .base (.str _), kit_ty (by decide +kernel), true, rfl, iteF ?_⟩
  refine ⟨_, rfl, txt u, rfl, fun D hD => ?_⟩
  refine lc_rel grow_same walk_str (by rw [txt_size]; omega) hD trivial (fun _ x _ => x = .bl true) (fun _ _ _ _ _ h => h) (fun _ _ _ _ h _ => h) (fun _ _ => trivial) ?_ ?_
  · rintro i x H1 _ hi e1 ⟨rfl, c, hc, rfl⟩ Kt hK
    obtain ⟨p, hp, rfl⟩ := txt_at hc
    refine ⟨rfl, _, rfl, _, rfl, _, rfl, _, rfl, Evl.sz_of (show 8 ≤ 100000 by decide), _, _, rfl, rfl, hK _ _ (Same.refl _) ?_⟩
    rw [sign_in k hk p (hu p (List.mem_of_getElem? hp))]
  · intro xs H1 e1 hx hlen hall
    have hxs : xs = (List.replicate xs.length true).map V.bl := by
      rw [← all_tt]
      exact List.eq_replicate_iff.mpr ⟨rfl, fun y hy => by obtain ⟨j, hj⟩ := List.mem_iff_getElem?.mp hy; exact hall j y hj⟩
    refine ⟨_, _, rfl, by rw [hxs] at hx; exact sqL hx, true, by rw [all_id], iteF ?_⟩
    refine ⟨_, rfl, false, rfl, iteF ⟨_, rfl, _, u.length, rfl, ⟨Evl.sz_of (by rw [txt_len]; omega), (txt_len u).symm⟩, _, rfl, _, _, rfl, rfl, ?_⟩⟩
    exact q_tt (decide_eq_true (by omega)) (q _ e1)
def sp_check_row (K : PySem.W.Frag) : Sp := fun vs H Q _ => ∃ (u : List Nat) (k : Nat), vs = [.str (txt u), nv k] ∧ (∀ p ∈ u, p < k) ∧ k ≤ 8 ∧ u.length ≤ 200 ∧ ∀ H', Same H H' → Q .non H'
theorem ok_check_row (G : Gs K mg) (h_is_row : Fn P w K mg base 1 d_is_row p_is_row (sp_is_row K)) : Fn P w K mg base 2 d_check_row p_check_row (sp_check_row K) := by
  refine fn_mk G 8 rfl sc_check_row (fun vs H Q E h => by obtain ⟨_, _, rfl, _⟩ := h; rfl) (fun _ _ _ _ _ _ us hl => match us, hl with | [_, _], _ => rfl) (fun cdv A outer s H vs Q E hr h => ?_)
  have hu1 := hu_of hr
  have hu64 := hr.units
  have hrN := roomN.of hr
  obtain ⟨_, gi3⟩ := G.i3
  refine both (pss_one (ps_if (pt_not (pt_val (pe_fn h_is_row (hr.mono (by decide)) rfl (G.g (x := "is_row")) (pa_cons (pv 0) (pa_cons (pv 1) (pa_cons (pe_glob rfl gi3 ⟨_, rfl⟩ (v := .int 200)) pa_nil)))))) pss_never pss_nil)) ?_
  obtain ⟨u, k, rfl, hu, hk, h200, q⟩ := h
  exact ⟨_, rfl, _, rfl, u, k, rfl, hu, hk, h200, fun H1 e1 => ⟨true, rfl, iteF (q _ e1)⟩⟩
def sp_goal_by (K : PySem.W.Frag) : Sp := fun vs H Q _ => ∃ (v : V) (s : Option Nat) (u : List Nat) (k : Nat) (A : RR.Arr), vs = [v, onv s, .str (txt u)] ∧ ArrAt H v A ∧ RR.ArrOk k A ∧ (∀ p ∈ u, p < k) ∧ k ≤ 8 ∧ (∀ q, s = some q → q < A.length) ∧ Q (onv (RR.run A s u)) H
theorem ok_goal_by (G : Gs K mg) : Fn P w K mg base 1 d_goal_by p_goal_by (sp_goal_by K) := by
  refine fn_mk G 9 rfl sc_goal_by (fun vs H Q E h => by obtain ⟨_, _, _, _, _, rfl, _⟩ := h; rfl) (fun _ _ _ _ _ _ us hl => match us, hl with | [_, _, _], _ => rfl) (fun cdv A outer s H vs Q E hr h => ?_)
  have hu1 := hu_of hr
  have hu64 := hr.units
  have hrN := roomN.of hr
  obtain ⟨_, gal⟩ := G.al
  refine both (pss_cons (ps_for PassesOwn.never rfl (pi_str (pv 2)) (pg_name sc_goal_by.nd (i := 3) rfl (by first | exact .inl rfl | exact .inr rfl | exact .inr (.inl rfl) | exact .inr (.inr rfl))) (pss_cons (ps_if (pt_cmp (pc_isN (pv 1))) (pss_one (ps_ret pe_non)) pss_nil)
      (pss_one (ps_set (i := 1) sc_goal_by.nd rfl (by first | exact .inl rfl | exact .inr rfl | exact .inr (.inl rfl) | exact .inr (.inr rfl)) (pe_ix (ix_tupK rfl) (pe_ix (ix_tupK rfl) (pv 0) (pv 1) (fun _ _ => rfl)) (pe_m1 PySem.F.slot_str_index PySem.F.type_str_index mt_sindex (pe_glob rfl gal ⟨_, rfl⟩ (v := .str "abcdefgh")) (pv 3)) (fun _ _ => rfl))))))
      (pss_one (ps_ret (pv 1)))) ?_
  obtain ⟨v, s0, u, k, B, rfl, ⟨a, rs, rfl, ha, hl, hz⟩, ok, hu, hk, hs, q⟩ := h
  refine ⟨_, rfl, txt u, rfl, for_it walk_str (fun i σ' H' => H' = H ∧ ∃ z, σ' = [some (.ref a), some (onv (RR.run B s0 (u.take i))), some (.str (txt u)), z]) ⟨rfl, none, rfl⟩ (fun _ _ _ _ _ => trivial) ?_ ?_⟩
  · rintro i x σ' H' _ hi ⟨rfl, z, rfl⟩ ⟨rfl, c, hc, rfl⟩
    obtain ⟨p, hp, rfl⟩ := txt_at hc
    have hpk := hu p (List.mem_of_getElem? hp)
    cases e : RR.run B s0 (u.take i) with
    | none =>
      refine ⟨_, rfl, true, rfl, iteT ?_⟩
      rw [run_cut e] at q
      exact q
    | some r =>
      have hr := RR.run_lt ok (u.take i) s0 hs r e
      obtain ⟨b, row, h1, h2, h3, h4, h5⟩ := cell hl hz ok hr hpk
      refine ⟨_, rfl, false, rfl, iteF ⟨_, rfl, _, rfl, a, rs, _, _, rfl, rfl, sqT ha, atE rfl h1, ⟨_, rfl⟩, _, rfl, _, _, p, [], rfl, rfl, sign_ix p (by omega), b, _, _, _, rfl, rfl, sqT h3, atE rfl h5, rfl, some (.str ⟨#[97 + p]⟩), ?_⟩⟩
      rw [run_take hp, e]
      rfl
  · rintro σ' H' ⟨rfl, z, rfl⟩
    refine ⟨_, rfl, ?_⟩
    rw [txt_size, List.take_length]
    exact q
def sp_goal_of (K : PySem.W.Frag) : Sp := fun vs H Q _ => ∃ (v : V) (s : Option Nat) (p k : Nat) (A : RR.Arr), vs = [v, onv s, nv p] ∧ ArrAt H v A ∧ RR.ArrOk k A ∧ p < k ∧ (∀ q, s = some q → q < A.length) ∧ Q (onv (RR.step A s p)) H
theorem ok_goal_of (G : Gs K mg) : Fn P w K mg base 1 d_goal_of p_goal_of (sp_goal_of K) := by
  refine fn_mk G 20 rfl sc_goal_of (fun vs H Q E h => by obtain ⟨_, _, _, _, _, rfl, _⟩ := h; rfl) (fun _ _ _ _ _ _ us hl => match us, hl with | [_, _, _], _ => rfl) (fun cdv A outer s H vs Q E hr h => ?_)
  have hu1 := hu_of hr
  have hu64 := hr.units
  have hrN := roomN.of hr
  refine both (pss_one (ps_ret (pe_ifExp (pt_cmp (pc_isN (pv 1))) pe_non (pe_ix (ix_tupK rfl) (pe_ix (ix_tupK rfl) (pv 0) (pv 1) (fun _ _ => rfl)) (pv 2) (fun _ _ => rfl))))) ?_
  obtain ⟨v, s0, p, k, B, rfl, ⟨a, rs, rfl, ha, hl, hz⟩, ok, hp, hs, q⟩ := h
  cases s0 with
  | none => exact ⟨_, rfl, true, rfl, iteT q⟩
  | some r =>
    obtain ⟨b, row, h1, h2, h3, h4, h5⟩ := cell hl hz ok (hs r rfl) hp
    exact ⟨_, rfl, false, rfl, iteF ⟨_, rfl, _, rfl, a, rs, _, _, rfl, rfl, sqT ha, atE rfl h1, _, rfl, b, _, _, _, rfl, rfl, sqT h3, atE rfl h5, q⟩⟩
def sp_led_to (K : PySem.W.Frag) : Sp := fun vs H Q _ => ∃ (v : V) (u : List Nat) (k : Nat) (A : RR.Arr) (E : List Nat), vs = [v, .str (txt u)] ∧ InsAt (CR_ K) H v k A E ∧ RR.ArrOk k A ∧ (∀ p ∈ u, p < k) ∧ k ≤ 8 ∧ u.length ≤ 200 ∧ ∀ H', Same H H' → Q (onv (RR.run A (some 0) u)) H'
theorem ok_led_to (G : Gs K mg) (h_check_reader : Fn P w K mg base 1 d_check_reader p_check_reader (sp_check_reader K)) (h_check_row : Fn P w K mg base 2 d_check_row p_check_row (sp_check_row K)) (h_Reader_signs : Fn P w K mg base 1 d_Reader_signs p_Reader_signs (sp_Reader_signs K)) (h_goal_by : Fn P w K mg base 1 d_goal_by p_goal_by (sp_goal_by K)) (h_Reader_arrows : Fn P w K mg base 1 d_Reader_arrows p_Reader_arrows (sp_Reader_arrows K)) : Fn P w K mg base 3 d_led_to p_led_to (sp_led_to K) := by
  refine fn_mk G 17 rfl sc_led_to (fun vs H Q E h => by obtain ⟨_, _, _, _, _, rfl, _⟩ := h; rfl) (fun _ _ _ _ _ _ us hl => match us, hl with | [_, _], _ => rfl) (fun cdv A outer s H vs Q E hr h => ?_)
  have hu1 := hu_of hr
  have hu64 := hr.units
  have hrN := roomN.of hr
  refine both (pss_cons (ps_expr (pe_fn h_check_reader (hr.mono (by decide)) rfl (G.g (x := "check_reader")) (pa_cons (pv 0) pa_nil)))
      (pss_cons (ps_expr (pe_fn h_check_row (hr.mono (by decide)) rfl (G.g (x := "check_row")) (pa_cons (pv 1) (pa_cons (pe_pr h_Reader_signs (hr.mono (by decide)) G.rc.cl G.rs (pv 0)) pa_nil))))
      (pss_one (ps_ret (pe_fn h_goal_by (hr.mono (by decide)) rfl (G.g (x := "goal_by")) (pa_cons (pe_pr h_Reader_arrows (hr.mono (by decide)) G.rc.cl G.ra (pv 0)) (pa_cons pe_int (pa_cons (pv 1) pa_nil)))))))) ?_
  obtain ⟨v, u, k, B, F, rfl, ⟨a, dx, t, x, y, rfl, ha, ht, h1, h2⟩, ok, hu, hk, h200, q⟩ := h
  refine ⟨_, rfl, a, _, _, rfl, ha, ?_⟩
  refine ⟨_, rfl, _, rfl, a, dx, _, rfl, ha, a, dx, t, _, _, rfl, ha, ht, rfl, u, k, rfl, hu, hk, h200, fun H1 e1 => ?_⟩
  exact ⟨_, rfl, a, dx, _, rfl, e1 _ _ ha, a, dx, t, _, _, rfl, e1 _ _ ha, e1 _ _ ht, rfl, _, rfl, x, some 0, u, k, B, rfl, h1.mono (same_tups e1), ok, hu, hk, fun q e => by cases e; exact ok.pos, q _ e1⟩
theorem flat_nats (E : List Nat) : (E.map nv).all flatV = true := by simp [List.all_eq_true, nv, flatV]
theorem flat_on (o : Option Nat) : flatV (onv o) = true := by cases o <;> rfl
theorem in_nats (o : Option Nat) (E : List Nat) : inV (onv o) (E.map nv) = RR.isEnd E o := by
  unfold inV
  rw [List.any_map]
  cases o with
  | none =>
    rw [Bool.eq_iff_iff, List.any_eq_true]
    exact ⟨fun ⟨y, _, h⟩ => (by cases h), fun h => (by cases h)⟩
  | some q =>
    rw [Bool.eq_iff_iff, List.any_eq_true]
    constructor
    · rintro ⟨y, hy, h⟩
      have h2 : ((y : Int) == (q : Int)) = true := h
      rw [nat_beq] at h2
      have := of_decide_eq_true h2
      subst this
      exact decide_eq_true hy
    · intro h
      refine ⟨q, of_decide_eq_true h, ?_⟩
      show ((q : Int) == (q : Int)) = true
      rw [nat_beq]
      exact decide_eq_true rfl
def sp_says (K : PySem.W.Frag) : Sp := fun vs H Q _ => ∃ (v : V) (u : List Nat) (k : Nat) (A : RR.Arr) (E : List Nat), vs = [v, .str (txt u)] ∧ InsAt (CR_ K) H v k A E ∧ RR.ArrOk k A ∧ (∀ p ∈ u, p < k) ∧ k ≤ 8 ∧ u.length ≤ 200 ∧ ∀ H', Same H H' → Q (.bl (RR.lang A E (some 0) u)) H'
theorem ok_says (G : Gs K mg) (h_led_to : Fn P w K mg base 3 d_led_to p_led_to (sp_led_to K)) (h_Reader_ends : Fn P w K mg base 1 d_Reader_ends p_Reader_ends (sp_Reader_ends K)) : Fn P w K mg base 4 d_says p_says (sp_says K) := by
  refine fn_mk G 18 rfl sc_says (fun vs H Q E h => by obtain ⟨_, _, _, _, _, rfl, _⟩ := h; rfl) (fun _ _ _ _ _ _ us hl => match us, hl with | [_, _], _ => rfl) (fun cdv A outer s H vs Q E hr h => ?_)
  have hu1 := hu_of hr
  have hu64 := hr.units
  have hrN := roomN.of hr
  refine both (pss_one (ps_ret (pe_cmpR (op_inK rfl) (pe_fn h_led_to (hr.mono (by decide)) rfl (G.g (x := "led_to")) (pa_cons (pv 0) (pa_cons (pv 1) pa_nil))) (pe_pr h_Reader_ends (hr.mono (by decide)) G.rc.cl G.re (pv 0)) rfl))) ?_
  obtain ⟨v, u, k, B, F, rfl, ⟨a, dx, t, x, y, rfl, ha, ht, h1, h2⟩, ok, hu, hk, h200, q⟩ := h
  refine ⟨_, rfl, _, rfl, _, u, k, B, F, rfl, ⟨a, dx, t, x, y, rfl, ha, ht, h1, h2⟩, ok, hu, hk, h200, fun H1 e1 => ?_⟩
  obtain ⟨b, rfl, hb⟩ := h2.mono (same_tups e1)
  refine ⟨_, rfl, a, dx, _, rfl, e1 _ _ ha, a, dx, t, _, _, rfl, e1 _ _ ha, e1 _ _ ht, rfl, b, _, rfl, .inr (sqT hb), flat_on _, flat_nats _, ?_⟩
  show Q (.bl (inV (onv (RR.run B (some 0) u)) (F.map nv))) H1
  rw [in_nats]
  exact q _ e1
end
end RK
/-! W5: watchers that pass and watch; made objects. -/
namespace RK
open PySem PySem.Spec PyProof.Rows L2
section
variable {P : Program} {w : World} {K : PySem.W.Frag} {mg : Str → Option Value} {base : Heap}
/-- (None,) * k -/
theorem rep_none {H : Hp} {l : Addr} {k : Nat} {Q : VK} (hl : H l = some (.tup [.non])) (hk : 1 ≤ k ∧ k ≤ 8) (q : ∀ a H', Same H H' → H' a = some (.tup ((List.replicate k none).map onv)) → Q (.ref a) H') : rRepA K (.ref l) (nv k) H Q := by
  refine ⟨l, k, _, rfl, rfl, sqT hl, by simp, by simp, ?_⟩
  by_cases h : k = 1
  · subst h
    exact .inl ⟨rfl, q l H (Same.refl _) hl⟩
  · refine .inr ⟨by omega, by omega, fun p hp => q p _ (same_new hp) ?_⟩
    rw [upd_same, Int.toNat_natCast, List.map_replicate, List.flatten_replicate_singleton]
    rfl
/-- what an own __init__ left, seen from the caller -/
theorem made_at {C x dx t : Addr} {H1 H' : Hp} {vA vE : V} {k : Nat} {A : RR.Arr} {E : List Nat} (hx : H1 x = none) (hdx : H1 dx = none) (hA : ArrAt H1 vA A) (hE : NatsAt H1 vE E)
    (e : SameV x (upd (upd H1 dx (.own x)) x (.ins C dx [])) H') (h1 : H' x = some (.ins C dx [("parts", .ref t)])) (h2 : H' t = some (.tup [nv k, vA, vE])) : Same H1 H' ∧ InsAt C H' (.ref x) k A E := by
  have s : Same H1 H' := fun a o h => by
    have n1 : a ≠ x := ne_of_none h hx
    have n2 : a ≠ dx := ne_of_none h hdx
    exact e a o n1 (by rw [upd_ne n1, upd_ne n2]; exact h)
  exact ⟨s, x, dx, t, vA, vE, rfl, h1, h2, hA.mono (same_tups s), hE.mono (same_tups s)⟩
theorem new_ins {C x dx : Addr} {H1 : Hp} (hx : H1 x = none) (hdx : H1 dx = none) : Same H1 (upd (upd H1 dx (.own x)) x (.ins C dx [])) := fun a o h => by
  rw [upd_ne (ne_of_none h hx), upd_ne (ne_of_none h hdx)]
  exact h
theorem none_arr {H : Hp} {a b : Addr} {k : Nat} (ha : H a = some (.tup [.ref b])) (hb : H b = some (.tup ((List.replicate k none).map onv))) : ArrAt H (.ref a) [List.replicate k none] :=
  ⟨a, _, rfl, ha, rfl, fun i x r h1 h2 => by
    cases i with
    | zero =>
      cases h1
      cases h2
      exact ⟨b, rfl, hb⟩
    | succ i => simp at h1⟩
theorem none_ok (k : Nat) : RR.ArrOk k [List.replicate k none] := ⟨by simp, by simp, by simp⟩
def sp_no_rows (K : PySem.W.Frag) : Sp := fun vs H Q _ => ∃ k : Nat, vs = [nv k] ∧ (1 ≤ k ∧ k ≤ 8) ∧ ∀ H' r, Same H H' → InsAt (CR_ K) H' r k [List.replicate k none] [] → Q r H'
theorem ok_no_rows (G : Gs K mg) (h_check_signs : Fn P w K mg base 3 d_check_signs p_check_signs (sp_check_signs K)) (h_Reader_init : Fn P w K mg base 4 d_Reader_init p_Reader_init (sp_Reader_init K)) : Fn P w K mg base 6 d_no_rows p_no_rows (sp_no_rows K) := by
  refine fn_mk G 19 rfl sc_no_rows (fun vs H Q E h => by obtain ⟨_, rfl, _⟩ := h; rfl) (fun _ _ _ _ _ _ us hl => match us, hl with | [_], _ => rfl) (fun cdv A outer s H vs Q E hr h => ?_)
  have hu1 := hu_of hr
  have hu64 := hr.units
  have hrN := roomN.of hr
  refine both (pss_cons (ps_expr (pe_fn h_check_signs (hr.mono (by decide)) rfl (G.g (x := "check_signs")) (pa_cons (pv 0) pa_nil)))
      (pss_one (ps_ret (pe_mk (d := d_Reader_init) G.rc.mkr h_Reader_init (hr.mono (by decide)) rfl (G.g (x := "Reader")) (pa_cons (pv 0) (pa_cons (pe_tup (pa_cons (pe_op (op_repK rfl) (pe_tup (pa_cons pe_non pa_nil)) (pv 0)) pa_nil)) (pa_cons (pe_tup pa_nil) pa_nil))))))) ?_
  obtain ⟨k, rfl, hk, q⟩ := h
  refine ⟨_, rfl, k, rfl, hk, ?_⟩
  refine ⟨_, rfl, Evl.sz_of (show 1 ≤ 100000 by decide), fun l hl => ⟨_, rfl, rep_none upd_same hk fun b H1 e1 hb => ⟨Evl.sz_of (show 1 ≤ 100000 by decide), fun a ha => ⟨Evl.sz_of (show 0 ≤ 100000 by decide), fun c hc => ?_⟩⟩⟩⟩
  intro x dx hx hdx hne
  have sA : Same H (upd (upd H1 a (.tup [.ref b])) c (.tup [])) := ((same_new hl).trans e1).trans ((same_new ha).trans (same_new hc))
  have sB := new_ins (C := CR_ K) hx hdx
  have hA : ArrAt (upd (upd H1 a (.tup [.ref b])) c (.tup [])) (.ref a) [List.replicate k none] := (none_arr upd_same (same_new ha _ _ hb)).mono (same_tups (same_new hc))
  have hE : NatsAt (upd (upd H1 a (.tup [.ref b])) c (.tup [])) (.ref c) [] := ⟨c, rfl, upd_same⟩
  refine ⟨x, dx, _, _, k, _, [], rfl, upd_same, hA.mono (same_tups sB), hE.mono (same_tups sB), hk, none_ok k, by simp, List.Pairwise.nil, by simp, by simp, fun H' t e h1 h2 => ⟨rfl, ?_⟩⟩
  obtain ⟨s1, s2⟩ := made_at hx hdx hA hE e h1 h2
  exact q H' _ (sA.trans s1) s2
def sp_watcher_with (K : PySem.W.Frag) : Sp := fun vs H Q _ => ∃ (vA vE : V) (k : Nat) (A : RR.Arr) (E : List Nat), vs = [nv k, vA, vE] ∧ ArrAt H vA A ∧ NatsAt H vE E ∧ (1 ≤ k ∧ k ≤ 8) ∧ A.length ≤ 200 ∧ ∀ H' r, Same H H' → InsAt (CW_ K) H' r k A E → Q r H'
theorem ok_watcher_with (G : Gs K mg) (h_Watcher_init : Fn P w K mg base 4 d_Watcher_init p_Watcher_init (sp_Watcher_init K)) : Fn P w K mg base 6 d_watcher_with p_watcher_with (sp_watcher_with K) := by
  refine fn_mk G 21 rfl sc_watcher_with (fun vs H Q E h => by obtain ⟨_, _, _, _, _, rfl, _⟩ := h; rfl) (fun _ _ _ _ _ _ us hl => match us, hl with | [_, _, _], _ => rfl) (fun cdv A outer s H vs Q E hr h => ?_)
  have hu1 := hu_of hr
  have hu64 := hr.units
  have hrN := roomN.of hr
  refine both (pss_cons (ps_set (i := 3) sc_watcher_with.nd rfl (by first | exact .inl rfl | exact .inr rfl | exact .inr (.inl rfl) | exact .inr (.inr rfl)) (pe_mk (d := d_Watcher_init) G.wc.mkr h_Watcher_init (hr.mono (by decide)) rfl (G.g (x := "Watcher")) (pa_cons (pv 0) (pa_cons (pe_tup (pa_cons (pe_op (op_repK rfl) (pe_tup (pa_cons pe_non pa_nil)) (pv 0)) pa_nil)) (pa_cons (pe_tup pa_nil) pa_nil)))))
      (pss_cons (ps_fldK rfl (pv 3) (pe_tup (pa_cons (pv 0) (pa_cons (pe_callTy (call_tupleK rfl) rfl (G.f (x := "tuple")) bo_tuple (pa_cons (pe_lc rfl sc_watcher_with.nd (pi_tupK rfl (pv 1)) (blkOk_by (own := [("goals", 4)]) (by first | (show blkC n_watcher_with (defScope s_watcher_with) _ _ = true; decide +kernel) | rfl)) (fun _ _ _ _ _ => (pg_name sc_watcher_with.nd (i := 4) rfl (by first | exact .inl rfl | exact .inr rfl | exact .inr (.inl rfl) | exact .inr (.inr rfl)))) (fun _ _ _ _ _ => pts_nil) (fun _ _ _ _ _ => (pe_callTy (call_tupleK rfl) rfl (G.f (x := "tuple")) bo_tuple (pa_cons (pv 4) pa_nil)))) pa_nil)) (pa_cons (pe_callTy (call_tupleK rfl) rfl (G.f (x := "tuple")) bo_tuple (pa_cons (pv 2) pa_nil)) pa_nil)))) rfl)
      (pss_one (ps_ret (pv 3))))) ?_
  obtain ⟨vA, vE, k, B, F, rfl, hB, ⟨m, rfl, hm⟩, hk, h200, q⟩ := h
  refine ⟨_, rfl, Evl.sz_of (show 1 ≤ 100000 by decide), fun l hl => ⟨_, rfl, rep_none upd_same hk fun b H1 e1 hb => ⟨Evl.sz_of (show 1 ≤ 100000 by decide), fun a ha => ⟨Evl.sz_of (show 0 ≤ 100000 by decide), fun c hc => ?_⟩⟩⟩⟩
  intro x dx hx hdx hne
  have sA : Same H (upd (upd H1 a (.tup [.ref b])) c (.tup [])) := ((same_new hl).trans e1).trans ((same_new ha).trans (same_new hc))
  have sB := new_ins (C := CW_ K) hx hdx
  have hA : ArrAt (upd (upd H1 a (.tup [.ref b])) c (.tup [])) (.ref a) [List.replicate k none] := (none_arr upd_same (same_new ha _ _ hb)).mono (same_tups (same_new hc))
  have hE : NatsAt (upd (upd H1 a (.tup [.ref b])) c (.tup [])) (.ref c) [] := ⟨c, rfl, upd_same⟩
  refine ⟨x, dx, _, _, k, _, [], rfl, upd_same, hA.mono (same_tups sB), hE.mono (same_tups sB), hk, none_ok k, by simp, List.Pairwise.nil, by simp, by simp, fun H2 t e h1 h2 => ⟨rfl, ?_⟩⟩
  obtain ⟨s1, _⟩ := made_at hx hdx hA hE e h1 h2
  have s2 : Same H H2 := sA.trans s1
  have hxH : H x = none := by
    cases z : H x with
    | none => rfl
    | some o => have := sA _ _ z; rw [hx] at this; cases this
  obtain ⟨ab, rs, rfl, hab, hl2, hz⟩ := hB
  refine ⟨_, rfl, _, rfl, ab, rfl, ⟨rs, sqT (s2 _ _ hab)⟩, fun D hD => ?_⟩
  refine lc_rel grow_same walk_tup (by omega) hD trivial (fun i x H' => rs[i]? = some x) (fun _ _ _ _ _ h => h) (fun _ _ _ _ h _ => h) (fun H e => sqT_mono e (sqT (s2 _ _ hab))) ?_ ?_
  · rintro i y H3 _ hi e3 ⟨rfl, hy⟩ Kt hK
    obtain ⟨r, hr, b2, rfl, hb2⟩ := ArrAt.row hl2 hz hy
    exact ⟨rfl, _, rfl, b2, _, rfl, .inr ⟨sqT (e3 _ _ (s2 _ _ hb2)), hK _ _ (Same.refl _) hy⟩⟩
  · intro ys H3 e3 hD3 hlen hall
    have hys : ys = rs := List.ext_getElem? fun i => by
      by_cases h : i < ys.length
      · rw [hall i ys[i] (List.getElem?_eq_getElem h), List.getElem?_eq_getElem h]
      · rw [List.getElem?_eq_none (by omega), List.getElem?_eq_none (by omega)]
    subst hys
    refine ⟨D, _, rfl, .inl ⟨sqL hD3, fun r hr => ?_⟩⟩
    have s3 := s2.trans (e3.trans (same_new (o := .tup ys) hr))
    refine ⟨_, rfl, m, _, rfl, .inr ⟨sqT (s3 _ _ hm), Evl.sz_of (show 3 ≤ 100000 by decide), fun tt ht => ?_⟩⟩
    have h3 : upd H3 r (HO.tup ys) x = some (.ins (CW_ K) dx [("parts", .ref t)]) := same_new hr _ _ (e3 _ _ h1)
    refine ⟨_, rfl, x, _, dx, _, rfl, same_new ht _ _ h3, G.wc.cl, G.wc.na, (by show 1 < 1000; decide), _, rfl, ?_⟩
    have hrx : r ≠ x := fun z => by rw [z, e3 _ _ h1] at hr; cases hr
    have htx : tt ≠ x := fun z => by rw [z, h3] at ht; cases ht
    have s4 : Same H (upd (upd (upd H3 r (.tup ys)) tt (.tup [nv k, .ref r, .ref m])) x (.ins (CW_ K) dx (putF "parts" (.ref tt) [("parts", .ref t)]))) := same_mut (s3.trans (same_new ht)) hxH
    refine q _ _ s4 ⟨x, dx, tt, .ref r, .ref m, rfl, upd_same, by rw [upd_ne htx, upd_same], ?_, ⟨m, rfl, s4 _ _ hm⟩⟩
    refine ⟨r, ys, rfl, ?_, hl2, fun i y r2 g1 g2 => (hz i y r2 g1 g2).mono (same_tups s4)⟩
    rw [upd_ne hrx, upd_ne (fun z => by rw [← z, upd_same] at ht; cases ht), upd_same]
def sp_watcher_of (K : PySem.W.Frag) : Sp := fun vs H Q _ => ∃ (v : V) (k : Nat) (A : RR.Arr) (E : List Nat), vs = [v] ∧ InsAt (CR_ K) H v k A E ∧ (1 ≤ k ∧ k ≤ 8) ∧ A.length ≤ 200 ∧ ∀ H' r, Same H H' → InsAt (CW_ K) H' r k A E → Q r H'
theorem ok_watcher_of (G : Gs K mg) (h_check_reader : Fn P w K mg base 1 d_check_reader p_check_reader (sp_check_reader K)) (h_watcher_with : Fn P w K mg base 6 d_watcher_with p_watcher_with (sp_watcher_with K)) (h_Reader_ends : Fn P w K mg base 1 d_Reader_ends p_Reader_ends (sp_Reader_ends K)) (h_Reader_arrows : Fn P w K mg base 1 d_Reader_arrows p_Reader_arrows (sp_Reader_arrows K)) (h_Reader_signs : Fn P w K mg base 1 d_Reader_signs p_Reader_signs (sp_Reader_signs K)) : Fn P w K mg base 7 d_watcher_of p_watcher_of (sp_watcher_of K) := by
  refine fn_mk G 36 rfl sc_watcher_of (fun vs H Q E h => by obtain ⟨_, _, _, _, rfl, _⟩ := h; rfl) (fun _ _ _ _ _ _ us hl => match us, hl with | [_], _ => rfl) (fun cdv A outer s H vs Q E hr h => ?_)
  have hu1 := hu_of hr
  have hu64 := hr.units
  have hrN := roomN.of hr
  refine both (pss_cons (ps_expr (pe_fn h_check_reader (hr.mono (by decide)) rfl (G.g (x := "check_reader")) (pa_cons (pv 0) pa_nil)))
      (pss_one (ps_ret (pe_fn h_watcher_with (hr.mono (by decide)) rfl (G.g (x := "watcher_with")) (pa_cons (pe_pr h_Reader_signs (hr.mono (by decide)) G.rc.cl G.rs (pv 0)) (pa_cons (pe_pr h_Reader_arrows (hr.mono (by decide)) G.rc.cl G.ra (pv 0)) (pa_cons (pe_pr h_Reader_ends (hr.mono (by decide)) G.rc.cl G.re (pv 0)) pa_nil))))))) ?_
  obtain ⟨v, k, B, F, rfl, ⟨a, dx, t, x, y, rfl, ha, ht, h1, h2⟩, hk, h200, q⟩ := h
  refine ⟨_, rfl, a, _, _, rfl, ha, ?_⟩
  exact ⟨_, rfl, a, dx, _, rfl, ha, a, dx, t, _, _, rfl, ha, ht, rfl, _, rfl, a, dx, _, rfl, ha, a, dx, t, _, _, rfl, ha, ht, rfl, _, rfl, a, dx, _, rfl, ha, a, dx, t, _, _, rfl, ha, ht, rfl, x, y, k, B, F, rfl, h1, h2, hk, h200, q⟩
end
end RK
/-! W6: rows passed, loops watched. -/
namespace RK
open PySem PySem.Spec PyProof.Rows L2
theorem met_take {A : RR.Arr} {M : List Nat} {s : Option Nat} {u : List Nat} {i p : Nat} (h : u[i]? = some p) : RR.met A M s (u.take (i + 1)) = (RR.met A M s (u.take i) || RR.isEnd M (RR.step A (RR.run A s (u.take i)) p)) := by
  rw [take_next h, RR.met_append]
  show _ = _
  simp [RR.met]
theorem cut_from {xs : List V} {j : Nat} (h : j ≤ xs.length) : cutV xs (some (j : Int)) none = xs.drop j := by
  unfold cutV
  rw [HT.sIx_nat, HT.sIx_none, Nat.min_eq_left h, List.take_of_length_le (by rw [List.length_drop]; omega)]
theorem txt_ne {u : List Nat} (h : u ≠ []) : decide (V.str (txt u) = V.str "") = false := by
  refine decide_eq_false fun e => h ?_
  have e2 : txt u = ("" : Str) := V.str.inj e
  have e3 := congrArg (fun z : Str => z.cps.size) e2
  simp only [txt_size] at e3
  have e4 : ("" : Str).cps.size = 0 := by decide +kernel
  rw [e4] at e3
  exact List.eq_nil_of_length_eq_zero e3
section
variable {P : Program} {w : World} {K : PySem.W.Frag} {mg : Str → Option Value} {base : Heap}
def sp_passed (K : PySem.W.Frag) : Sp := fun vs H Q _ => ∃ (v : V) (s : Option Nat) (u : List Nat) (k : Nat) (A : RR.Arr) (M : List Nat), vs = [v, onv s, .str (txt u)] ∧ InsAt (CW_ K) H v k A M ∧ RR.ArrOk k A ∧ (∀ p ∈ u, p < k) ∧ k ≤ 8 ∧ (∀ q, s = some q → q < A.length) ∧
  ∀ H' p, Same H H' → H' p = some (.tup [onv (RR.run A s u), .bl (RR.met A M s u)]) → Q (.ref p) H'
theorem ok_passed (G : Gs K mg) (h_goal_of : Fn P w K mg base 1 d_goal_of p_goal_of (sp_goal_of K)) (h_Watcher_arrows : Fn P w K mg base 1 d_Watcher_arrows p_Watcher_arrows (sp_Watcher_arrows K)) (h_Watcher_marks : Fn P w K mg base 1 d_Watcher_marks p_Watcher_marks (sp_Watcher_marks K)) : Fn P w K mg base 3 d_passed p_passed (sp_passed K) := by
  refine fn_mk G 24 rfl sc_passed (fun vs H Q E h => by obtain ⟨_, _, _, _, _, _, rfl, _⟩ := h; rfl) (fun _ _ _ _ _ _ us hl => match us, hl with | [_, _, _], _ => rfl) (fun cdv A outer s H vs Q E hr h => ?_)
  have hu1 := hu_of hr
  have hu64 := hr.units
  have hrN := roomN.of hr
  obtain ⟨_, gal⟩ := G.al
  refine both (pss_cons (ps_set (i := 3) sc_passed.nd rfl (by first | exact .inl rfl | exact .inr rfl | exact .inr (.inl rfl) | exact .inr (.inr rfl)) pe_bl)
      (pss_cons (ps_for PassesOwn.never rfl (pi_str (pv 2)) (pg_name sc_passed.nd (i := 4) rfl (by first | exact .inl rfl | exact .inr rfl | exact .inr (.inl rfl) | exact .inr (.inr rfl))) (pss_cons (ps_set (i := 1) sc_passed.nd rfl (by first | exact .inl rfl | exact .inr rfl | exact .inr (.inl rfl) | exact .inr (.inr rfl)) (pe_fn h_goal_of (hr.mono (by decide)) rfl (G.g (x := "goal_of")) (pa_cons (pe_pr h_Watcher_arrows (hr.mono (by decide)) G.wc.cl G.wa (pv 0)) (pa_cons (pv 1) (pa_cons (pe_m1 PySem.F.slot_str_index PySem.F.type_str_index mt_sindex (pe_glob rfl gal ⟨_, rfl⟩ (v := .str "abcdefgh")) (pv 4)) pa_nil)))))
      (pss_one (ps_set (i := 3) sc_passed.nd rfl (by first | exact .inl rfl | exact .inr rfl | exact .inr (.inl rfl) | exact .inr (.inr rfl)) (pe_or (pv 3) (pe_one (pe_cmpR (op_inK rfl) (pv 1) (pe_pr h_Watcher_marks (hr.mono (by decide)) G.wc.cl G.wm (pv 0)) rfl)))))))
      (pss_one (ps_ret (pe_tup (pa_cons (pv 1) (pa_cons (pv 3) pa_nil))))))) ?_
  obtain ⟨v, s0, u, k, B, M, rfl, ⟨a, dx, t, x, y, rfl, ha, ht, h1, ⟨b, rfl, hb⟩⟩, ok, hu, hk, hs, q⟩ := h
  refine ⟨_, rfl, txt u, rfl, for_it walk_str (fun i σ' H' => H' = H ∧ ∃ z, σ' = [some (.ref a), some (onv (RR.run B s0 (u.take i))), some (.str (txt u)), some (.bl (RR.met B M s0 (u.take i))), z]) ⟨rfl, none, rfl⟩ (fun _ _ _ _ _ => trivial) ?_ ?_⟩
  · rintro i c σ' H' _ hi ⟨rfl, z, rfl⟩ ⟨rfl, c, hc, rfl⟩
    obtain ⟨p, hp, rfl⟩ := txt_at hc
    have hpk := hu p (List.mem_of_getElem? hp)
    refine ⟨_, rfl, a, dx, _, rfl, ha, a, dx, t, _, _, rfl, ha, ht, rfl, _, rfl, ⟨_, rfl⟩, _, rfl, _, _, p, [], rfl, rfl, sign_ix p (by omega), x, RR.run B s0 (u.take i), p, k, B, rfl, h1, ok, hpk, RR.run_lt ok _ _ hs, ?_⟩
    refine ⟨_, rfl, RR.met B M s0 (u.take i), rfl, ?_⟩
    cases e : RR.met B M s0 (u.take i) with
    | true =>
      refine iteT ⟨rfl, some (.str ⟨#[97 + p]⟩), ?_⟩
      rw [run_take hp, met_take hp, e]
      rfl
    | false =>
      refine iteF ⟨_, rfl, _, rfl, a, dx, _, rfl, ha, a, dx, t, _, _, rfl, ha, ht, rfl, b, _, rfl, .inr (sqT hb), flat_on _, flat_nats _, rfl, some (.str ⟨#[97 + p]⟩), ?_⟩
      rw [if_neg (by decide), in_nats, run_take hp, met_take hp, e, Bool.false_or]
      rfl
  · rintro σ' H' ⟨rfl, z, rfl⟩
    refine ⟨_, rfl, _, rfl, Evl.sz_of (show 2 ≤ 100000 by decide), fun p hp => q _ p (same_new hp) ?_⟩
    rw [upd_same, txt_size, List.take_length]
def sp_watched (K : PySem.W.Frag) : Sp := fun vs H Q _ => ∃ (v : V) (s : Option Nat) (u : List Nat) (k : Nat) (A : RR.Arr) (M : List Nat), vs = [v, onv s, .str (txt u)] ∧ InsAt (CW_ K) H v k A M ∧ RR.ArrOk k A ∧ (∀ p ∈ u, p < k) ∧ k ≤ 8 ∧ u ≠ [] ∧ A.length ≤ 200 ∧ (∀ q, s = some q → q < A.length) ∧
  ∀ H' b, Same H H' → (b = true ↔ RR.Acc A M s u) → Q (.bl b) H'
theorem ok_watched (G : Gs K mg) (h_passed : Fn P w K mg base 3 d_passed p_passed (sp_passed K)) : Fn P w K mg base 4 d_watched p_watched (sp_watched K) := by
  refine fn_mk G 25 rfl sc_watched (fun vs H Q E h => by obtain ⟨_, _, _, _, _, _, rfl, _⟩ := h; rfl) (fun _ _ _ _ _ _ us hl => match us, hl with | [_, _, _], _ => rfl) (fun cdv A outer s H vs Q E hr h => ?_)
  have hu1 := hu_of hr
  have hu64 := hr.units
  have hrN := roomN.of hr
  refine both (pss_cons (ps_par (i := 3) (j := 4) rfl sc_watched.nd rfl rfl (by decide) rfl rfl (pa_cons pe_dnewK (pa_cons (pe_lst pa_nil) pa_nil)) rfl)
      (pss_cons (ps_while PassesOwn.never (PW.pt (pw_and (pt_cmp (pc_notN (pv 1))) (pw_and1 (pt_cmp (pc_dnotinN hu1 (pv 1) (pv 3)))))) (pss_cons (ps_dput hu1 (pv 3) (pv 1) (pe_callB (call_lenK rfl) rfl (G.f (x := "len")) bo_len (pa_cons (pv 4) pa_nil)) rfl)
      (pss_cons (ps_asg (pe_fn h_passed (hr.mono (by decide)) rfl (G.g (x := "passed")) (pa_cons (pv 0) (pa_cons (pv 1) (pa_cons (pv 2) pa_nil)))) (pg_tupK (n := 2) rfl rfl (pgs_cons (pg_name sc_watched.nd (i := 1) rfl (by first | exact .inl rfl | exact .inr rfl | exact .inr (.inl rfl) | exact .inr (.inr rfl))) (pgs_cons (pg_name sc_watched.nd (i := 5) rfl (by first | exact .inl rfl | exact .inr rfl | exact .inr (.inl rfl) | exact .inr (.inr rfl))) pgs_nil))))
      (pss_one (ps_expr (pe_bmK rfl PySem.F.plainAttrs_list PySem.F.slot_list_append PySem.F.type_list_append mt_append (pv 4) (pa_cons (pv 5) pa_nil)))))))
      (pss_one (ps_ret (pe_and (pe_cmp (pc_notN (pv 1))) (pe_one (pe_callB (cr_anyK rfl rfl) rfl (G.f (x := "any")) bo_any (pa_cons (pe_slice (sl_listK rfl) (pv 4) (po_some (pe_dget hu1 (pv 3) (pv 1) (fun _ _ => rfl))) po_none) pa_nil)))))))) ?_
  obtain ⟨v, s0, u, k, B, M, rfl, hv, ok, hu, hk, hne, h200, hs, q⟩ := h
  intro d hd
  refine ⟨Evl.sz_of (show 0 ≤ 100000 by decide), fun l hl => ⟨_, _, rfl, ?_⟩⟩
  have hdl : d ≠ l := fun z => by rw [← z, upd_same] at hl; cases hl
  have hl0 : H l = none := by rw [upd_ne (Ne.symm hdl)] at hl; exact hl
  have hlt := RR.run_rng ok hne
  let f : Option Nat → Option Nat := fun x => RR.run B x u
  let mt : Option Nat → Bool := fun x => RR.met B M x u
  obtain ⟨Pv, hPv⟩ : ∃ Pv : Nat → L2.St → Hp → Prop, ∀ m σ' H', Pv m σ' H' ↔ ∃ t, m + t = B.length + 1 ∧ Same H H' ∧ ∃ z kvs, σ' = [some v, some (onv (RR.itr f s0 t)), some (.str (txt u)), some (.ref d), some (.ref l), z] ∧ H' d = some (.dK kvs) ∧ kvs.length ≤ t ∧ H' l = some (.lst (((List.range t).map fun i => mt (RR.itr f s0 i)).map V.bl)) ∧
    (∀ j, j < t → ∃ r, RR.itr f s0 j = some r ∧ valV kvs (.inl (r : Int)) = some (nv j)) ∧ (∀ r : Nat, valV kvs (.inl (r : Int)) ≠ none → ∃ j, j < t ∧ RR.itr f s0 j = some r) := ⟨_, fun _ _ _ => Iff.rfl⟩
  refine ⟨Pv, ⟨B.length + 1, (hPv _ _ _).mpr ⟨0, rfl, (same_new hd).trans (same_new hl), none, [], rfl, by rw [upd_ne hdl, upd_same], Nat.le_refl _, by rw [upd_same]; rfl, fun j h => absurd h (by omega), fun r h => absurd rfl h⟩⟩, ?_⟩
  intro m σ' H' hp
  obtain ⟨t, hm, e1, z, kvs, rfl, h1, h2, h3, h4, h5⟩ := (hPv _ _ _).mp hp
  have rng : ∀ i r, RR.itr f s0 i = some r → r < B.length := fun i r e => by
    cases i with
    | zero => exact hs r e
    | succ i => exact hlt _ r e
  refine ⟨_, rfl, _, rfl, ?_⟩
  cases e : RR.itr f s0 t with
  | none =>
    refine iteF ⟨_, rfl, false, rfl, iteF (q _ false e1 ⟨fun h => (by cases h), fun h => ?_⟩)⟩
    exact absurd h (RR.inf_none (RR.run_none B u) (RR.met_none B M u) e)
  | some r =>
    have hr := rng t r e
    refine iteT ⟨_, rfl, _, rfl, .inl ⟨d, _, rfl, DGet.k (k := .inl (r : Int)) h1, _, rfl, ?_⟩⟩
    cases e2 : valV kvs (.inl (r : Int)) with
    | none =>
      have new : ∀ i, i < t → RR.itr f s0 i ≠ some r := fun i hi e3 => by
        obtain ⟨r2, g1, g2⟩ := h4 i hi
        rw [e3] at g1
        cases g1
        rw [e2] at g2
        cases g2
      have hb : t + 1 ≤ B.length := RR.fresh_few (f := f) (s := s0) (fun i hi => by
        by_cases hit : i < t
        · obtain ⟨r2, g1, _⟩ := h4 i hit
          exact ⟨r2, g1, rng i r2 g1⟩
        · have : i = t := by omega
          subst this
          exact ⟨r, e, hr⟩) (fun i j hij hj => by
        by_cases hjt : j < t
        · obtain ⟨r2, g1, g2⟩ := h4 j hjt
          obtain ⟨r1, g3, g4⟩ := h4 i (by omega)
          intro g5
          rw [g3, g1] at g5
          cases g5
          rw [g2] at g4
          have g6 : ((j : Nat) : Int) = (i : Nat) := V.int.inj (Option.some.inj g4)
          omega
        · have : j = t := by omega
          subst this
          rw [e]
          exact new i hij)
      refine iteT ⟨fun σ' H' => ∃ m', m' < m ∧ Pv m' σ' H', fun _ _ h => h, _, rfl, l, _, rfl, .inl (sqL h3), _, rfl, _, rfl, d, _, rfl, DPut.k (k := .inl (r : Int)) h1 (small (by omega)), ?_⟩
      have hd0 : H d = none := hd
      have e3 : Same H (upd H' d (.dK (putK kvs (.inl (r : Int)) (.int (((((List.range t).map fun i => mt (RR.itr f s0 i)).map V.bl).length : Nat) : Int))))) := same_mut e1 hd0
      refine ⟨_, rfl, _, rfl, _, rfl, v, some r, u, k, B, M, rfl, hv.mono e3, ok, hu, hk, fun q' e => (by cases e; exact hr), fun H2 p e4 hp => ⟨p, _, rfl, sqT hp, rfl, _, _, rfl, _, _, rfl, rfl, ?_⟩⟩
      have h3' := e4 l _ ((upd_ne (Ne.symm hdl)).trans h3)
      have h1' := e4 d _ upd_same
      refine ⟨_, rfl, .inl ⟨rfl, _, sqL h3'⟩, _, rfl, l, _, _, rfl, rfl, h3', small (by simp; omega), m - 1, by omega, (hPv _ _ _).mpr ⟨t + 1, by omega, same_mut (e3.trans e4) hl0, some (.bl (RR.met B M (some r) u)), (putK kvs (.inl (r : Int)) (.int (((((List.range t).map fun i => mt (RR.itr f s0 i)).map V.bl).length : Nat) : Int))), ?_, ?_, ?_, ?_, ?_, ?_⟩⟩
      · have e5 : RR.itr f s0 (t + 1) = RR.run B (some r) u := by
          show f (RR.itr f s0 t) = _
          rw [e]
        rw [e5]
        rfl
      · rw [upd_ne hdl]
        exact h1'
      · have := length_putK kvs (.inl (r : Int)) (.int (((((List.range t).map fun i => mt (RR.itr f s0 i)).map V.bl).length : Nat) : Int))
        omega
      · rw [upd_same, List.range_succ, List.map_append, List.map_append]
        show _ = some (HO.lst (_ ++ [V.bl (mt (RR.itr f s0 t))]))
        rw [e]
      · intro j hj
        by_cases hjt : j < t
        · obtain ⟨r2, g1, g2⟩ := h4 j hjt
          refine ⟨r2, g1, ?_⟩
          rw [valV_put, if_neg (fun g => by rw [g, e2] at g2; cases g2)]
          exact g2
        · have : j = t := by omega
          subst this
          refine ⟨r, e, ?_⟩
          rw [valV_put, if_pos rfl]
          simp [nv]
      · intro r2 hr2
        rw [valV_put] at hr2
        by_cases g : (Sum.inl (r2 : Int) : Key) = .inl (r : Int)
        · have g2 : ((r2 : Nat) : Int) = (r : Nat) := Sum.inl.inj g
          have : r2 = r := by omega
          subst this
          exact ⟨t, by omega, e⟩
        · rw [if_neg g] at hr2
          obtain ⟨j, hj, g2⟩ := h5 r2 hr2
          exact ⟨j, by omega, g2⟩
    | some jv =>
      obtain ⟨j, hj, g1⟩ := h5 r (by rw [e2]; simp)
      obtain ⟨r2, g2, g3⟩ := h4 j hj
      rw [g1] at g2
      cases g2
      rw [e2] at g3
      cases g3
      refine iteF ⟨_, rfl, true, rfl, iteT ⟨_, rfl, _, rfl, _, rfl, d, nv j, rfl, by have := DGet.k (k := .inl (r : Int)) h1; rw [e2] at this; exact this, j, rfl, l, _, rfl, sqL h3, fun p hp => ⟨p, (((List.range t).map fun i => mt (RR.itr f s0 i)).drop j), rfl, ?_, ?_⟩⟩⟩
      · rw [cut_from (by simp; omega), ← List.map_drop]
        exact sqL upd_same
      · exact q _ _ (e1.trans (same_new hp)) (RR.round_told hj (by rw [e, g1])).symm
def sp_watches (K : PySem.W.Frag) : Sp := fun vs H Q _ => ∃ (v : V) (x u : List Nat) (k : Nat) (A : RR.Arr) (M : List Nat), vs = [v, .str (txt x), .str (txt u)] ∧ InsAt (CW_ K) H v k A M ∧ RR.ArrOk k A ∧ (∀ p ∈ x, p < k) ∧ (∀ p ∈ u, p < k) ∧ k ≤ 8 ∧ u ≠ [] ∧ x.length ≤ 200 ∧ u.length ≤ 200 ∧ A.length ≤ 200 ∧
  ∀ H' b, Same H H' → (b = true ↔ RR.Acc A M (RR.run A (some 0) x) u) → Q (.bl b) H'
theorem ok_watches (G : Gs K mg) (h_check_watcher : Fn P w K mg base 1 d_check_watcher p_check_watcher (sp_check_watcher K)) (h_check_row : Fn P w K mg base 2 d_check_row p_check_row (sp_check_row K)) (h_Watcher_signs : Fn P w K mg base 1 d_Watcher_signs p_Watcher_signs (sp_Watcher_signs K)) (h_watched : Fn P w K mg base 4 d_watched p_watched (sp_watched K)) (h_goal_by : Fn P w K mg base 1 d_goal_by p_goal_by (sp_goal_by K)) (h_Watcher_arrows : Fn P w K mg base 1 d_Watcher_arrows p_Watcher_arrows (sp_Watcher_arrows K)) : Fn P w K mg base 5 d_watches p_watches (sp_watches K) := by
  refine fn_mk G 26 rfl sc_watches (fun vs H Q E h => by obtain ⟨_, _, _, _, _, _, rfl, _⟩ := h; rfl) (fun _ _ _ _ _ _ us hl => match us, hl with | [_, _, _], _ => rfl) (fun cdv A outer s H vs Q E hr h => ?_)
  have hu1 := hu_of hr
  have hu64 := hr.units
  have hrN := roomN.of hr
  refine both (pss_cons (ps_expr (pe_fn h_check_watcher (hr.mono (by decide)) rfl (G.g (x := "check_watcher")) (pa_cons (pv 0) pa_nil)))
      (pss_cons (ps_expr (pe_fn h_check_row (hr.mono (by decide)) rfl (G.g (x := "check_row")) (pa_cons (pv 1) (pa_cons (pe_pr h_Watcher_signs (hr.mono (by decide)) G.wc.cl G.ws (pv 0)) pa_nil))))
      (pss_cons (ps_expr (pe_fn h_check_row (hr.mono (by decide)) rfl (G.g (x := "check_row")) (pa_cons (pv 2) (pa_cons (pe_pr h_Watcher_signs (hr.mono (by decide)) G.wc.cl G.ws (pv 0)) pa_nil))))
      (pss_cons (ps_if (pt_cmpR op_eq (pv 2) pe_str (nomark _)) pss_never pss_nil)
      (pss_one (ps_ret (pe_fn h_watched (hr.mono (by decide)) rfl (G.g (x := "watched")) (pa_cons (pv 0) (pa_cons (pe_fn h_goal_by (hr.mono (by decide)) rfl (G.g (x := "goal_by")) (pa_cons (pe_pr h_Watcher_arrows (hr.mono (by decide)) G.wc.cl G.wa (pv 0)) (pa_cons pe_int (pa_cons (pv 1) pa_nil)))) (pa_cons (pv 2) pa_nil)))))))))) ?_
  obtain ⟨v, x, u, k, B, M, rfl, ⟨a, dx, t, y, y2, rfl, ha, ht, h1, h2⟩, ok, hx, hu, hk, hne, hx2, hu2, h200, q⟩ := h
  refine ⟨_, rfl, a, _, _, rfl, ha, ?_⟩
  refine ⟨_, rfl, _, rfl, a, dx, _, rfl, ha, a, dx, t, _, _, rfl, ha, ht, rfl, x, k, rfl, hx, hk, hx2, fun H1 e1 => ?_⟩
  have ha1 := e1 _ _ ha
  have ht1 := e1 _ _ ht
  refine ⟨_, rfl, _, rfl, a, dx, _, rfl, ha1, a, dx, t, _, _, rfl, ha1, ht1, rfl, u, k, rfl, hu, hk, hu2, fun H2 e2 => ?_⟩
  have e3 := e1.trans e2
  have ha2 := e3 _ _ ha
  have ht2 := e3 _ _ ht
  refine ⟨_, rfl, rfl, _, rfl, ?_⟩
  rw [txt_ne hne]
  refine iteF ⟨_, rfl, _, rfl, a, dx, _, rfl, ha2, a, dx, t, _, _, rfl, ha2, ht2, rfl, _, rfl, y, some 0, x, k, B, rfl, h1.mono (same_tups e3), ok, hx, hk, fun q e => (by cases e; exact ok.pos), _, rfl, .ref a, RR.run B (some 0) x, u, k, B, M, rfl, ⟨a, dx, t, y, y2, rfl, ha2, ht2, h1.mono (same_tups e3), h2.mono (same_tups e3)⟩, ok, hu, hk, hne, h200, RR.run_lt ok _ _ (fun q e => by cases e; exact ok.pos), fun H3 b e4 hb => q _ _ (e3.trans e4) hb⟩
end
end RK
/-! W7: ways sought. -/
namespace RK
open PySem PySem.Spec PyProof.Rows L2
/-- lists of lists -/
def LlAt (H : Hp) (a : Addr) (G : RR.Arr) : Prop := ∃ rs, H a = some (.lst rs) ∧ rs.length = G.length ∧ ∀ (i : Nat) (x : V) (r : List (Option Nat)), rs[i]? = some x → G[i]? = some r → ∃ b, x = .ref b ∧ H b = some (.lst (r.map onv))
theorem LlAt.mono {H H' : Hp} {a : Addr} {G : RR.Arr} (e : Same H H') (h : LlAt H a G) : LlAt H' a G :=
  let ⟨rs, h1, h2, h3⟩ := h; ⟨rs, e _ _ h1, h2, fun i x r g1 g2 => let ⟨b, e1, e2⟩ := h3 i x r g1 g2; ⟨b, e1, e _ _ e2⟩⟩
theorem LlAt.row {H : Hp} {a : Addr} {G : RR.Arr} (h : LlAt H a G) {q : Nat} (hq : q < G.length) : ∃ rs b, H a = some (.lst rs) ∧ rs[q]? = some (.ref b) ∧ H b = some (.lst (G[q].map onv)) := by
  obtain ⟨rs, h1, h2, h3⟩ := h
  have g1 : rs[q]? = some (rs[q]'(by omega)) := List.getElem?_eq_getElem (by omega)
  obtain ⟨b, e, hb⟩ := h3 q _ _ g1 (List.getElem?_eq_getElem hq)
  exact ⟨rs, b, h1, by rw [g1, e], hb⟩
theorem goalAt_get {G : RR.Arr} {q p : Nat} (hq : q < G.length) (hp : p < G[q].length) : RR.goalAt G q p = G[q][p] := by
  unfold RR.goalAt
  simp [hq, hp]
theorem alph_at : ∀ p, p < 8 → atI ("abcdefgh" : Str).cps.toList ((p : Nat) : Int) = some (97 + p) := by
  intro p hp
  have key : ∀ p : Fin 8, atI ("abcdefgh" : Str).cps.toList ((p.val : Nat) : Int) = some (97 + p.val) := by decide +kernel
  exact key ⟨p, hp⟩
theorem txt_cat (u v : List Nat) : txt u ++ txt v = txt (u ++ v) := by
  have := SX.S_cat (u.map (97 + ·)) (v.map (97 + ·))
  rw [← List.map_append] at this
  exact this
theorem txt_one (p : Nat) : (⟨#[97 + p]⟩ : Str) = txt [p] := rfl
theorem tell_put {kvs : List (Key × V)} {tx : Nat → Option (List Nat)} (h : ∀ q : Nat, valV kvs (.inl (q : Int)) = (tx q).map fun u => V.str (txt u)) (g : Nat) (u : List Nat) :
    ∀ q : Nat, valV (putK kvs (.inl (g : Int)) (.str (txt u))) (.inl (q : Int)) = ((fun x => if x = g then some u else tx x) q).map fun u => V.str (txt u) := fun q => by
  rw [valV_put]
  by_cases e : q = g
  · subst e
    simp
  · rw [if_neg (fun z => e (by have := Sum.inl.inj z; omega)), h q]
    simp [e]
section
variable {P : Program} {w : World} {K : PySem.W.Frag} {mg : Str → Option Value} {base : Heap}
def sp_first_row_to (K : PySem.W.Frag) : Sp := fun vs H Q _ => ∃ (a gl : Addr) (s g k : Nat) (G : RR.Arr), vs = [.ref a, nv s, .ref gl] ∧ LlAt H a G ∧ RR.ArrOk k G ∧ k ≤ 8 ∧ s < G.length ∧ G.length ≤ 1000 ∧ H gl = some (.lst [nv g]) ∧
  ∀ H' r, Same H H' → ((∃ u, r = .str (txt u) ∧ (∀ p ∈ u, p < k) ∧ RR.run G (some s) u = some g ∧ u.length < G.length) ∨ (r = .non ∧ ∀ u, RR.run G (some s) u ≠ some g)) → Q r H'
theorem ok_first_row_to (G : Gs K mg) : Fn P w K mg base 1 d_first_row_to p_first_row_to (sp_first_row_to K) := by
  refine fn_mk G 16 rfl sc_first_row_to (fun vs H Q E h => by obtain ⟨_, _, _, _, _, _, rfl, _⟩ := h; rfl) (fun _ _ _ _ _ _ us hl => match us, hl with | [_, _, _], _ => rfl) (fun cdv A outer s H vs Q E hr h => ?_)
  have hu1 := hu_of hr
  have hu64 := hr.units
  have hrN := roomN.of hr
  obtain ⟨_, gal⟩ := G.al
  refine both (pss_cons (ps_par3 (i := 3) (j := 4) (l := 5) rfl sc_first_row_to.nd rfl rfl rfl (by decide) (by decide) (by decide) rfl rfl rfl (pa_cons (pe_disp (pps_cons (pv 1) pe_str pps_nil) rfl rfl (by simp) (by decide)) (pa_cons (pe_lst (pa_cons (pv 1) pa_nil)) (pa_cons pe_int pa_nil))) rfl)
      (pss_cons (ps_while PassesOwn.never (pt_cmpR op_lt (pv 5) (pe_callB (call_lenK rfl) rfl (G.f (x := "len")) bo_len (pa_cons (pv 4) pa_nil)) (nomark _)) (pss_cons (ps_set (i := 6) sc_first_row_to.nd rfl (by first | exact .inl rfl | exact .inr rfl | exact .inr (.inl rfl) | exact .inr (.inr rfl)) (pe_ix (ix_listK rfl) (pv 4) (pv 5) (fun _ _ => rfl)))
      (pss_cons (ps_if (pt_cmpR (op_inK rfl) (pv 6) (pv 2) rfl) (pss_one (ps_ret (pe_dget hu1 (pv 3) (pv 6) (fun _ _ => rfl)))) pss_nil)
      (pss_cons (ps_for PassesOwn.never rfl (pi_enumK rfl rfl (G.f (x := "enumerate")) (pa_cons (pe_ix (ix_listK rfl) (pv 0) (pv 6) (fun _ _ => rfl)) pa_nil)) (pg_tupK (n := 2) rfl rfl (pgs_cons (pg_name sc_first_row_to.nd (i := 7) rfl (by first | exact .inl rfl | exact .inr rfl | exact .inr (.inl rfl) | exact .inr (.inr rfl))) (pgs_cons (pg_name sc_first_row_to.nd (i := 8) rfl (by first | exact .inl rfl | exact .inr rfl | exact .inr (.inl rfl) | exact .inr (.inr rfl))) pgs_nil))) (pss_one (ps_if (PW.pt (pw_and (pt_cmp (pc_notN (pv 8))) (pw_and1 (pt_cmp (pc_dnotinN hu1 (pv 8) (pv 3)))))) (pss_cons (ps_dput hu1 (pv 3) (pv 8) (pe_op op_add_str (pe_dget hu1 (pv 3) (pv 6) (fun _ _ => rfl)) (pe_ix ix_str (pe_glob rfl gal ⟨_, rfl⟩ (v := .str "abcdefgh")) (pv 7) (fun _ _ => rfl))) rfl)
      (pss_one (ps_expr (pe_bmK rfl PySem.F.plainAttrs_list PySem.F.slot_list_append PySem.F.type_list_append mt_append (pv 4) (pa_cons (pv 8) pa_nil))))) pss_nil)))
      (pss_one (ps_set (i := 5) sc_first_row_to.nd rfl (by first | exact .inl rfl | exact .inr rfl | exact .inr (.inl rfl) | exact .inr (.inr rfl)) (pe_op op_add (pv 5) pe_int)))))))
      (pss_one (ps_ret pe_non)))) ?_
  obtain ⟨a, gl, s0, g, k, G2, rfl, hG, ok, hk, hs, h1000, hgl, q⟩ := h
  intro d hd
  refine ⟨_, rfl, upd_same, [(.inl (s0 : Int), .str "")], rfl, by show 1 ≤ 15; decide, _, rfl, Evl.sz_of (show 1 ≤ 100000 by decide), fun l hl => ⟨_, _, _, rfl, ?_⟩⟩
  have hd0 : H d = none := hd
  have hl1 : upd (upd H d (.dK [])) d (.dK (mergeK [] [(.inl (s0 : Int), .str "")])) l = none := hl
  have hdl : d ≠ l := fun z => by rw [← z, upd_same] at hl1; cases hl1
  have hl0 : H l = none := by rw [upd_ne (Ne.symm hdl), upd_ne (Ne.symm hdl)] at hl1; exact hl1
  have e0 : Same H (upd (upd (upd H d (.dK [])) d (.dK (mergeK [] [(.inl (s0 : Int), .str "")]))) l (.lst [nv s0])) := same_mut (same_mut (same_new hd0) hd0) hl0
  obtain ⟨Pv, hPv⟩ : ∃ Pv : Nat → L2.St → Hp → Prop, ∀ m σ' H', Pv m σ' H' ↔ ∃ (line : List Nat) (tx : Nat → Option (List Nat)) (kvs : List (Key × V)) (i : Nat) (z6 z7 z8 : Option V), m + i = G2.length + 1 ∧ i ≤ line.length ∧ Same H H' ∧
    σ' = [some (.ref a), some (nv s0), some (.ref gl), some (.ref d), some (.ref l), some (nv i), z6, z7, z8] ∧ H' d = some (.dK kvs) ∧ H' l = some (.lst (line.map nv)) ∧ RR.Seek G2 k s0 line tx ∧ (∀ q : Nat, valV kvs (.inl (q : Int)) = (tx q).map fun u => V.str (txt u)) ∧ kvs.length ≤ line.length ∧
    RR.Shut G2 line i ∧ (∀ j q, j < i → line[j]? = some q → q ≠ g) := ⟨_, fun _ _ _ => Iff.rfl⟩
  refine ⟨Pv, ⟨G2.length + 1, (hPv _ _ _).mpr ⟨[s0], _, [(.inl (s0 : Int), .str "")], 0, none, none, none, rfl, Nat.zero_le _, e0, rfl, ?_, upd_same, RR.seek_start hs, fun q => ?_, Nat.le_refl _, fun j q h => absurd h (by omega), fun j q h => absurd h (by omega)⟩⟩, ?_⟩
  · rw [upd_ne hdl, upd_same]
    rfl
  · by_cases e : q = s0
    · subst e
      rw [valV_pos rfl]
      simp [txt]
      rfl
    · rw [valV_neg (fun z => e (by have := Sum.inl.inj z; omega))]
      simp [e, valV_nil]
  intro m σ' H' hp
  obtain ⟨line, tx, kvs, i, z6, z7, z8, hm, hi, e1, rfl, h1, h2, sk, tl, kl, sh, ng⟩ := (hPv _ _ _).mp hp
  have hlen := sk.len
  refine ⟨_, rfl, _, rfl, l, _, rfl, .inl (sqL h2), _, _, rfl, rfl, _, rfl, ?_⟩
  by_cases hil : i < line.length
  · rw [decide_eq_true (by simp; omega)]
    have hq : line[i]? = some line[i] := List.getElem?_eq_getElem hil
    have hqm : line[i] ∈ line := List.getElem_mem hil
    have hqlt := sk.lt _ hqm
    refine iteT ⟨fun σ' H' => ∃ m', m' < m ∧ Pv m' σ' H', fun _ _ h => h, _, rfl, _, rfl, l, _, _, nv line[i], rfl, rfl, sqL h2, atE (j := i) rfl (by rw [List.getElem?_map, hq]; rfl), ?_⟩
    have hgl1 := e1 _ _ hgl
    refine ⟨_, rfl, _, rfl, gl, _, rfl, .inl (sqL hgl1), rfl, rfl, _, rfl, ?_⟩
    have eIn : inV (nv line[i]) [nv g] = decide (line[i] = g) := by
      show (((g : Int) == (line[i] : Int)) || false) = _
      rw [nat_beq, Bool.or_false]
      by_cases e : g = line[i]
      · simp [e]
      · simp [e, Ne.symm e]
    rw [if_neg (by decide), eIn]
    by_cases heq : line[i] = g
    · rw [decide_eq_true heq]
      have h9 := sk.all _ hqm
      cases e9 : tx line[i] with
      | none => exact absurd e9 h9
      | some u =>
        obtain ⟨w1, w2, w3, w4⟩ := sk.way _ _ e9
        have dg := DGet.k (k := .inl (line[i] : Int)) h1
        rw [tl, e9] at dg
        refine iteT ⟨_, rfl, _, rfl, d, _, rfl, dg, q _ _ e1 (.inl ⟨u, rfl, w3, by rw [← heq]; exact w2, by omega⟩)⟩
    · rw [decide_eq_false heq]
      obtain ⟨rs, b, r1, r2, r3⟩ := hG.row hqlt
      have hw := ok.wid G2[line[i]] (List.getElem_mem hqlt)
      refine iteF ⟨_, rfl, _, rfl, a, rs, _, _, rfl, rfl, sqL (e1 _ _ r1), atE rfl r2, b, _, rfl, sqL (e1 _ _ r3), ?_⟩
      refine for_it walk_enum (fun j σ' H' => ∃ (line2 : List Nat) (tx2 : Nat → Option (List Nat)) (kvs2 : List (Key × V)) (z7 z8 : Option V), Same H H' ∧ i < line2.length ∧
        σ' = [some (.ref a), some (nv s0), some (.ref gl), some (.ref d), some (.ref l), some (nv i), some (nv line[i]), z7, z8] ∧ H' d = some (.dK kvs2) ∧ H' l = some (.lst (line2.map nv)) ∧ RR.Seek G2 k s0 line2 tx2 ∧ (∀ q : Nat, valV kvs2 (.inl (q : Int)) = (tx2 q).map fun u => V.str (txt u)) ∧ kvs2.length ≤ line2.length ∧
        RR.Shut G2 line2 i ∧ (∀ j q, j < i → line2[j]? = some q → q ≠ g) ∧ line2[i]? = some line[i] ∧ (∀ p x, p < j → RR.goalAt G2 line[i] p = some x → x ∈ line2)) ⟨line, tx, kvs, z7, z8, e1, hil, rfl, h1, h2, sk, tl, kl, sh, ng, hq, fun p x h => absurd h (by omega)⟩ (fun j σ' H' _ ⟨_, _, _, _, _, e, _⟩ => sqL (e _ _ r3)) ?_ ?_
      · rintro p v σ' H2 _ hpl ⟨line2, tx2, kvs2, y7, y8, e2, hil2, rfl, k1, k2, sk2, tl2, kl2, sh2, ng2, hq2, cl2⟩ ⟨T, x, y, rfl, hT, rfl, hx, hy⟩
        cases hx
        rw [List.length_map, hw] at hpl
        have hlen2 := sk2.len
        have hgo : RR.goalAt G2 line[i] p = G2[line[i]][p]'(by omega) := goalAt_get hqlt (by omega)
        have hy2 : (G2[line[i]].map onv)[p]? = some y := hy
        rw [List.getElem?_map, List.getElem?_eq_getElem (by omega)] at hy2
        obtain rfl : y = onv (RR.goalAt G2 line[i] p) := by rw [hgo]; exact (Option.some.inj hy2).symm
        have hTd : d ≠ T := ne_of_none k1 hT
        have hTl : l ≠ T := ne_of_none k2 hT
        have e3 : Same H (upd H2 T (.tup [.int (p : Nat), onv (RR.goalAt G2 line[i] p)])) := e2.trans (same_new hT)
        have k1' : upd H2 T (.tup [.int (p : Nat), onv (RR.goalAt G2 line[i] p)]) d = some (.dK kvs2) := by rw [upd_ne hTd]; exact k1
        have k2' : upd H2 T (.tup [.int (p : Nat), onv (RR.goalAt G2 line[i] p)]) l = some (.lst (line2.map nv)) := by rw [upd_ne hTl]; exact k2
        refine ⟨T, _, rfl, sqT upd_same, rfl, _, _, rfl, _, _, rfl, rfl, _, rfl, _, rfl, ?_⟩
        cases eg : RR.goalAt G2 line[i] p with
        | none =>
          rw [eg] at e3 k1' k2'
          refine iteF (iteF ⟨line2, tx2, kvs2, _, _, e3, hil2, rfl, k1', k2', sk2, tl2, kl2, sh2, ng2, hq2, fun p2 x h h3 => ?_⟩)
          by_cases hp2 : p2 < p
          · exact cl2 p2 x hp2 h3
          · have : p2 = p := by omega
            subst this
            rw [eg] at h3
            cases h3
        | some x =>
          rw [eg] at e3 k1' k2'
          refine iteT ⟨_, rfl, _, rfl, .inl ⟨d, _, rfl, DGet.k (k := .inl (x : Int)) k1', _, rfl, ?_⟩⟩
          rw [tl2]
          cases ex : tx2 x with
          | some u =>
            refine iteF ⟨line2, tx2, kvs2, _, _, e3, hil2, rfl, k1', k2', sk2, tl2, kl2, sh2, ng2, hq2, fun p2 x2 h h3 => ?_⟩
            by_cases hp2 : p2 < p
            · exact cl2 p2 x2 hp2 h3
            · have : p2 = p := by omega
              subst this
              rw [eg] at h3
              cases h3
              exact (sk2.way _ _ ex).1
          | none =>
            have hqm2 : line[i] ∈ line2 := List.mem_of_getElem? hq2
            have h9 := sk2.all _ hqm2
            cases e9 : tx2 line[i] with
            | none => exact absurd e9 h9
            | some u =>
              obtain ⟨w1, w2, w3, w4⟩ := sk2.way _ _ e9
              have dg := DGet.k (k := .inl (line[i] : Int)) k1'
              rw [tl2, e9] at dg
              have hnx : x ∉ line2 := fun hm => sk2.all x hm ex
              have sk3 := sk2.add ok hpl e9 eg hnx
              have hlen3 := sk3.len
              rw [List.length_append] at hlen3
              refine iteT ⟨_, rfl, _, rfl, d, _, rfl, dg, _, rfl, _, _, _, rfl, rfl, Evl.sz_of (show 8 ≤ 100000 by decide), alph_at p (by omega), txt u, _, rfl, rfl, Evl.sz_of (by rw [txt_len]; show u.length + 1 ≤ 100000; omega), _, rfl, _, rfl, d, _, rfl, DPut.k (k := .inl (x : Int)) k1' (small (by omega)), ?_⟩
              rw [txt_one, txt_cat]
              have hll : upd (upd H2 T (.tup [.int (p : Nat), onv (some x)])) d (.dK (putK kvs2 (.inl (x : Int)) (.str (txt (u ++ [p]))))) l = some (.lst (line2.map nv)) := by rw [upd_ne (Ne.symm hdl)]; exact k2'
              refine ⟨_, rfl, .inl ⟨rfl, _, sqL hll⟩, _, rfl, l, _, _, rfl, rfl, hll, small (by rw [List.length_map]; omega), ?_⟩
              refine ⟨line2 ++ [x], _, putK kvs2 (.inl (x : Int)) (.str (txt (u ++ [p]))), _, _, same_mut (same_mut e3 hd0) hl0, by simp; omega, rfl, by rw [upd_ne hdl, upd_same], by rw [upd_same, List.map_append]; rfl, sk3, tell_put tl2 x (u ++ [p]), ?_, sh2.add (by omega), fun j q' hj hq' => ?_, ?_, fun p2 x2 h h3 => ?_⟩
              · have := length_putK kvs2 (.inl (x : Int)) (.str (txt (u ++ [p])))
                simp
                omega
              · rw [List.getElem?_append_left (by omega)] at hq'
                exact ng2 j q' hj hq'
              · rw [List.getElem?_append_left hil2]
                exact hq2
              · by_cases hp2 : p2 < p
                · exact List.mem_append_left _ (cl2 p2 x2 hp2 h3)
                · have : p2 = p := by omega
                  subst this
                  rw [eg] at h3
                  cases h3
                  simp
      · rintro σ' H2 ⟨line2, tx2, kvs2, y7, y8, e2, hil2, rfl, k1, k2, sk2, tl2, kl2, sh2, ng2, hq2, cl2⟩
        refine ⟨_, rfl, _, _, rfl, rfl, m - 1, by omega, (hPv _ _ _).mpr ⟨line2, tx2, kvs2, i + 1, _, _, _, by omega, hil2, e2, rfl, k1, k2, sk2, tl2, kl2, fun j q' hj hq' p x hg => ?_, fun j q' hj hq' => ?_⟩⟩
        · by_cases hji : j < i
          · exact sh2 j q' hji hq' p x hg
          · have : j = i := by omega
            subst this
            rw [hq2] at hq'
            cases hq'
            by_cases hpk : p < k
            · exact cl2 p x (by rw [List.length_map, hw]; exact hpk) hg
            · rw [RR.goalAt_sign ok (by omega)] at hg
              cases hg
        · by_cases hji : j < i
          · exact ng2 j q' hji hq'
          · have : j = i := by omega
            subst this
            rw [hq2] at hq'
            cases hq'
            exact heq
  · rw [decide_eq_false (by simp; omega)]
    have : i = line.length := by omega
    subst this
    refine iteF (q _ _ e1 (.inr ⟨rfl, fun u hu => ?_⟩))
    have hgm := RR.shut_all sh u s0 g sk.has hu
    obtain ⟨j, hj⟩ := List.mem_iff_getElem?.mp hgm
    exact ng j g (List.getElem?_eq_some_iff.mp hj).1 hj rfl
end
end RK
/-! W8: ways back, pairs. -/
namespace RK
open PySem PySem.Spec PyProof.Rows L2
section
variable {P : Program} {w : World} {K : PySem.W.Frag} {mg : Str → Option Value} {base : Heap}
def sp_back_row (K : PySem.W.Frag) : Sp := fun vs H Q _ => ∃ (a : Addr) (s k : Nat) (G : RR.Arr), vs = [.ref a, nv s] ∧ LlAt H a G ∧ RR.ArrOk k G ∧ k ≤ 8 ∧ s < G.length ∧ G.length ≤ 1000 ∧
  ∀ H' r, Same H H' → ((∃ u, r = .str (txt u) ∧ u ≠ [] ∧ (∀ p ∈ u, p < k) ∧ RR.run G (some s) u = some s ∧ u.length ≤ G.length) ∨ (r = .non ∧ ∀ u, u ≠ [] → RR.run G (some s) u ≠ some s)) → Q r H'
theorem ok_back_row (G : Gs K mg) (h_first_row_to : Fn P w K mg base 1 d_first_row_to p_first_row_to (sp_first_row_to K)) : Fn P w K mg base 2 d_back_row p_back_row (sp_back_row K) := by
  refine fn_mk G 27 rfl sc_back_row (fun vs H Q E h => by obtain ⟨_, _, _, _, rfl, _⟩ := h; rfl) (fun _ _ _ _ _ _ us hl => match us, hl with | [_, _], _ => rfl) (fun cdv A outer s H vs Q E hr h => ?_)
  have hu1 := hu_of hr
  have hu64 := hr.units
  have hrN := roomN.of hr
  obtain ⟨_, gal⟩ := G.al
  refine both (pss_cons (ps_for PassesOwn.never rfl (pi_enumK rfl rfl (G.f (x := "enumerate")) (pa_cons (pe_ix (ix_listK rfl) (pv 0) (pv 1) (fun _ _ => rfl)) pa_nil)) (pg_tupK (n := 2) rfl rfl (pgs_cons (pg_name sc_back_row.nd (i := 2) rfl (by first | exact .inl rfl | exact .inr rfl | exact .inr (.inl rfl) | exact .inr (.inr rfl))) (pgs_cons (pg_name sc_back_row.nd (i := 3) rfl (by first | exact .inl rfl | exact .inr rfl | exact .inr (.inl rfl) | exact .inr (.inr rfl))) pgs_nil))) (pss_cons (ps_set (i := 4) sc_back_row.nd rfl (by first | exact .inl rfl | exact .inr rfl | exact .inr (.inl rfl) | exact .inr (.inr rfl)) (pe_ifExp (pt_cmp (pc_isN (pv 3))) pe_non (pe_fn h_first_row_to (hr.mono (by decide)) rfl (G.g (x := "first_row_to")) (pa_cons (pv 0) (pa_cons (pv 3) (pa_cons (pe_lst (pa_cons (pv 1) pa_nil)) pa_nil))))))
      (pss_one (ps_if (pt_cmp (pc_notN (pv 4))) (pss_one (ps_ret (pe_op op_add_str (pe_ix ix_str (pe_glob rfl gal ⟨_, rfl⟩ (v := .str "abcdefgh")) (pv 2) (fun _ _ => rfl)) (pv 4)))) pss_nil))))
      (pss_one (ps_ret pe_non))) ?_
  obtain ⟨a, s0, k, G2, rfl, hG, ok, hk, hs, h1000, q⟩ := h
  obtain ⟨rs, b, r1, r2, r3⟩ := hG.row hs
  have hw := ok.wid G2[s0] (List.getElem_mem hs)
  refine ⟨_, rfl, _, rfl, a, rs, _, _, rfl, rfl, sqL r1, atE rfl r2, b, _, rfl, sqL r3, ?_⟩
  refine for_it walk_enum (fun j σ' H' => Same H H' ∧ ∃ z2 z3 z4, σ' = [some (.ref a), some (nv s0), z2, z3, z4] ∧ ∀ p x, p < j → RR.goalAt G2 s0 p = some x → ∀ u, RR.run G2 (some x) u ≠ some s0) ⟨Same.refl _, none, none, none, rfl, fun p x h => absurd h (by omega)⟩ (fun j σ' H' _ e => sqL (e.1 _ _ r3)) ?_ ?_
  · rintro p v σ' H2 _ hpl ⟨e2, z2, z3, z4, rfl, no⟩ ⟨T, x, y, rfl, hT, rfl, hx, hy⟩
    cases hx
    rw [List.length_map, hw] at hpl
    have hgo : RR.goalAt G2 s0 p = G2[s0][p]'(by omega) := goalAt_get hs (by omega)
    have hy2 : (G2[s0].map onv)[p]? = some y := hy
    rw [List.getElem?_map, List.getElem?_eq_getElem (by omega)] at hy2
    obtain rfl : y = onv (RR.goalAt G2 s0 p) := by rw [hgo]; exact (Option.some.inj hy2).symm
    have e3 : Same H (upd H2 T (.tup [.int (p : Nat), onv (RR.goalAt G2 s0 p)])) := e2.trans (same_new hT)
    refine ⟨T, _, rfl, sqT upd_same, rfl, _, _, rfl, _, _, rfl, rfl, _, rfl, _, rfl, ?_⟩
    cases eg : RR.goalAt G2 s0 p with
    | none =>
      rw [eg] at e3
      refine iteT ⟨_, rfl, false, rfl, iteF ⟨e3, _, _, _, rfl, fun p2 x h h3 => ?_⟩⟩
      by_cases hp2 : p2 < p
      · exact no p2 x hp2 h3
      · have : p2 = p := by omega
        subst this
        rw [eg] at h3
        cases h3
    | some x =>
      rw [eg] at e3
      refine iteF ⟨_, rfl, _, rfl, _, rfl, Evl.sz_of (show 1 ≤ 100000 by decide), fun gl hgl => ⟨a, gl, x, s0, k, G2, rfl, hG.mono (e3.trans (same_new hgl)), ok, hk, RR.goalAt_lt ok eg, h1000, upd_same, fun H3 r e4 hr => ?_⟩⟩
      have e5 := (e3.trans (same_new hgl)).trans e4
      rcases hr with ⟨u, rfl, h1, h2, h3⟩ | ⟨rfl, h1⟩
      · refine ⟨_, rfl, true, rfl, iteT ⟨_, rfl, _, _, 97 + p, rfl, rfl, Evl.sz_of (show 8 ≤ 100000 by decide), alph_at p (by omega), _, rfl, _, _, rfl, rfl, Evl.sz_of (by rw [txt_len]; show 1 + u.length ≤ 100000; omega), ?_⟩⟩
        rw [txt_one, txt_cat]
        refine q _ _ e5 (.inl ⟨[p] ++ u, rfl, by simp, fun y hy => ?_, ?_, by simp; omega⟩)
        · rcases List.mem_append.mp hy with hy | hy
          · simp at hy
            omega
          · exact h1 y hy
        · rw [RR.run_append]
          show RR.run G2 (RR.goalAt G2 s0 p) u = _
          rw [eg]
          exact h2
      · refine ⟨_, rfl, false, rfl, iteF ⟨e5, _, _, _, rfl, fun p2 x2 h h3 => ?_⟩⟩
        by_cases hp2 : p2 < p
        · exact no p2 x2 hp2 h3
        · have : p2 = p := by omega
          subst this
          rw [eg] at h3
          cases h3
          exact h1
  · rintro σ' H2 ⟨e2, z2, z3, z4, rfl, no⟩
    refine q _ _ e2 (.inr ⟨rfl, fun u hu e => ?_⟩)
    cases u with
    | nil => exact hu rfl
    | cons p u =>
      have e6 : RR.run G2 (RR.goalAt G2 s0 p) u = some s0 := e
      cases eg : RR.goalAt G2 s0 p with
      | none => rw [eg, RR.run_none] at e6; cases e6
      | some x =>
        rw [eg] at e6
        by_cases hp : p < k
        · exact no p x (by rw [List.length_map, hw]; exact hp) eg u e6
        · rw [RR.goalAt_sign ok (by omega)] at eg
          cases eg
def kO : Option Nat → NestedKey
  | none => .none
  | some n => .num (n : Int)
def kP (x : Nat × Option Nat) : NestedKey := .tup [kO (some x.1), kO x.2]
theorem kO_inj {a b : Option Nat} (h : kO a = kO b) : a = b := by
  cases a <;> cases b
  · rfl
  · cases h
  · cases h
  · have := NestedKey.num.inj h
    congr 1
    omega
theorem kP_inj {a b : Nat × Option Nat} (h : kP a = kP b) : a = b := by
  have h2 := NestedKey.tup.inj h
  have h3 := List.cons.inj h2
  have h4 := List.cons.inj h3.2
  have e1 := Option.some.inj (kO_inj h3.1)
  have e2 := kO_inj h4.1
  exact Prod.ext e1 e2
theorem key_on {H : Hp} (o : Option Nat) : KeyAt H (kO o) (onv o) := by
  cases o with
  | none => exact .none
  | some n => exact .int _
theorem key_pair {H : Hp} {b : Addr} {x : Nat × Option Nat} (h : H b = some (.tup [nv x.1, onv x.2])) : KeyAt H (kP x) (.ref b) := .tup h (.cons (key_on (some x.1)) (.cons (key_on x.2) .nil))
theorem kO_dep (o : Option Nat) : (kO o).depth ≤ 1 := by cases o <;> simp [kO, NestedKey.depth]
theorem kP_dep (x : Nat × Option Nat) : (kP x).depth ≤ 8 := by
  have h1 := kO_dep (some x.1)
  have h2 := kO_dep x.2
  simp only [kP, NestedKey.depth, NestedKey.depthAll]
  omega
/-- a list of pairs -/
def PsAt (H : Hp) (l : Addr) (pairs : List (Nat × Option Nat)) : Prop := ∃ rs, H l = some (.lst rs) ∧ rs.length = pairs.length ∧ ∀ (i : Nat) (x : V) (y : Nat × Option Nat), rs[i]? = some x → pairs[i]? = some y → ∃ b, x = .ref b ∧ H b = some (.tup [nv y.1, onv y.2])
/-- a list of lists that stand elsewhere than ex -/
def LlEx (H : Hp) (a : Addr) (G : RR.Arr) (ex : List Addr) : Prop := ∃ rs, H a = some (.lst rs) ∧ rs.length = G.length ∧ ∀ (i : Nat) (x : V) (r : List (Option Nat)), rs[i]? = some x → G[i]? = some r → ∃ b, x = .ref b ∧ b ∉ ex ∧ H b = some (.lst (r.map onv))
/-- all that stands elsewhere than ex stays -/
def Keep (ex : List Addr) (H H' : Hp) : Prop := ∀ b o, b ∉ ex → H b = some o → H' b = some o
theorem Keep.refl (ex : List Addr) (H : Hp) : Keep ex H H := fun _ _ _ h => h
theorem Keep.trans {ex : List Addr} {H H1 H2 : Hp} (a : Keep ex H H1) (b : Keep ex H1 H2) : Keep ex H H2 := fun c o n h => b c o n (a c o n h)
theorem Keep.of {ex : List Addr} {H H' : Hp} (e : Same H H') : Keep ex H H' := fun c o _ h => e c o h
theorem Keep.upd {ex : List Addr} {H : Hp} {p : Addr} {o : HO} (h : p ∈ ex) : Keep ex H (L2.upd H p o) := fun c u n hc => by
  rw [upd_ne (fun z => n (by rw [z]; exact h))]
  exact hc
theorem PsAt.at {H H' : Hp} {l : Addr} {pairs : List (Nat × Option Nat)} (h : PsAt H l pairs) (e : H' l = H l) (t : Tups H H') : PsAt H' l pairs :=
  let ⟨rs, h1, h2, h3⟩ := h; ⟨rs, e.trans h1, h2, fun i x y g1 g2 => let ⟨b, e1, e2⟩ := h3 i x y g1 g2; ⟨b, e1, t _ _ e2⟩⟩
theorem PsAt.get {H : Hp} {l : Addr} {pairs : List (Nat × Option Nat)} (h : PsAt H l pairs) {i : Nat} {y : Nat × Option Nat} (hy : pairs[i]? = some y) : ∃ rs b, H l = some (.lst rs) ∧ rs.length = pairs.length ∧ rs[i]? = some (.ref b) ∧ H b = some (.tup [nv y.1, onv y.2]) := by
  obtain ⟨rs, h1, h2, h3⟩ := h
  have hlt := (List.getElem?_eq_some_iff.mp hy).1
  have g1 : rs[i]? = some (rs[i]'(by omega)) := List.getElem?_eq_getElem (by omega)
  obtain ⟨b, e, hb⟩ := h3 i _ _ g1 hy
  exact ⟨rs, b, h1, h2, by rw [g1, e], hb⟩
theorem PsAt.snoc {H : Hp} {l tt : Addr} {pairs : List (Nat × Option Nat)} {rs : List V} {y : Nat × Option Nat} (h : PsAt H l pairs) (hr : H l = some (.lst rs)) (ht : H tt = some (.tup [nv y.1, onv y.2])) (hn : tt ≠ l) : PsAt (L2.upd H l (.lst (rs ++ [.ref tt]))) l (pairs ++ [y]) := by
  obtain ⟨rs', h1, h2, h3⟩ := h
  rw [hr] at h1
  cases h1
  have tu : Tups H (L2.upd H l (.lst (rs ++ [.ref tt]))) := Tups.upd hr (fun xs z => nomatch z)
  refine ⟨rs ++ [.ref tt], upd_same, by simp [h2], fun i x z g1 g2 => ?_⟩
  by_cases hi : i < rs.length
  · rw [List.getElem?_append_left hi] at g1
    rw [List.getElem?_append_left (by omega)] at g2
    obtain ⟨b, e1, e2⟩ := h3 i x z g1 g2
    exact ⟨b, e1, tu _ _ e2⟩
  · have hi2 := (List.getElem?_eq_some_iff.mp g1).1
    have : i = rs.length := by simp at hi2; omega
    subst this
    rw [List.getElem?_append_right (Nat.le_refl _)] at g1
    rw [h2, List.getElem?_append_right (Nat.le_refl _)] at g2
    simp at g1 g2
    subst g1 g2
    exact ⟨tt, rfl, tu _ _ ht⟩
theorem LlEx.at {H H' : Hp} {a : Addr} {G : RR.Arr} {ex : List Addr} (h : LlEx H a G ex) (e : H' a = H a) (t : Keep ex H H') : LlEx H' a G ex :=
  let ⟨rs, h1, h2, h3⟩ := h; ⟨rs, e.trans h1, h2, fun i x y g1 g2 => let ⟨b, e1, n, e2⟩ := h3 i x y g1 g2; ⟨b, e1, n, t _ _ n e2⟩⟩
theorem LlEx.ll {H : Hp} {a : Addr} {G : RR.Arr} {ex : List Addr} (h : LlEx H a G ex) : LlAt H a G :=
  let ⟨rs, h1, h2, h3⟩ := h; ⟨rs, h1, h2, fun i x y g1 g2 => let ⟨b, e1, n, e2⟩ := h3 i x y g1 g2; ⟨b, e1, e2⟩⟩
theorem LlEx.snoc {H : Hp} {a g : Addr} {G : RR.Arr} {ex : List Addr} {r : List (Option Nat)} {rs : List V} (h : LlEx H a G ex) (ha : a ∈ ex) (hr : H a = some (.lst rs)) (hg : H g = some (.lst (r.map onv))) (hn : g ∉ ex) : LlEx (L2.upd H a (.lst (rs ++ [.ref g]))) a (G ++ [r]) ex := by
  obtain ⟨rs', h1, h2, h3⟩ := h
  rw [hr] at h1
  cases h1
  have kp : Keep ex H (L2.upd H a (.lst (rs ++ [.ref g]))) := Keep.upd ha
  refine ⟨rs ++ [.ref g], upd_same, by simp [h2], fun i x z g1 g2 => ?_⟩
  by_cases hi : i < rs.length
  · rw [List.getElem?_append_left hi] at g1
    rw [List.getElem?_append_left (by omega)] at g2
    obtain ⟨b, e1, n, e2⟩ := h3 i x z g1 g2
    exact ⟨b, e1, n, kp _ _ n e2⟩
  · have hi2 := (List.getElem?_eq_some_iff.mp g1).1
    have : i = rs.length := by simp at hi2; omega
    subst this
    rw [List.getElem?_append_right (Nat.le_refl _)] at g1
    rw [h2, List.getElem?_append_right (Nat.le_refl _)] at g2
    simp at g1 g2
    subst g1 g2
    exact ⟨g, rfl, hn, kp _ _ hn hg⟩
theorem PsAt.same {H H' : Hp} {l : Addr} {pairs : List (Nat × Option Nat)} (h : PsAt H l pairs) (e : Same H H') : PsAt H' l pairs := by
  obtain ⟨rs, h1, h2⟩ := id h
  exact h.at (by rw [h1]; exact e _ _ h1) (same_tups e)
theorem LlEx.same {H H' : Hp} {a : Addr} {G : RR.Arr} {ex : List Addr} (h : LlEx H a G ex) (e : Same H H') : LlEx H' a G ex := by
  obtain ⟨rs, h1, h2⟩ := id h
  exact h.at (by rw [h1]; exact e _ _ h1) (Keep.of e)
theorem LlEx.weak {H : Hp} {a g : Addr} {G : RR.Arr} {ex : List Addr} (h : LlEx H a G (g :: ex)) : LlEx H a G ex :=
  let ⟨rs, h1, h2, h3⟩ := h; ⟨rs, h1, h2, fun i x y g1 g2 => let ⟨b, e1, n, e2⟩ := h3 i x y g1 g2; ⟨b, e1, fun z => n (List.mem_cons_of_mem _ z), e2⟩⟩
theorem LlEx.fresh {H : Hp} {a g : Addr} {G : RR.Arr} {ex : List Addr} (h : LlEx H a G ex) (hg : H g = none) : LlEx H a G (g :: ex) :=
  let ⟨rs, h1, h2, h3⟩ := h; ⟨rs, h1, h2, fun i x y g1 g2 => let ⟨b, e1, n, e2⟩ := h3 i x y g1 g2; ⟨b, e1, fun z => by
    rcases List.mem_cons.mp z with z | z
    · rw [z, hg] at e2
      cases e2
    · exact n z, e2⟩⟩
theorem NDict.same {P : Program} {w : World} {H H' : Hp} {a : Addr} {ks : List NestedKey} (d : NDict P w H a ks) (e : Same H H') : NDict P w H' a ks := by
  obtain ⟨φ, h⟩ := d.ob
  exact d.at (same_tups e) (by rw [h]; exact e _ _ h)
theorem NDict.nd {P : Program} {w : World} {H : Hp} {a : Addr} {ks : List NestedKey} (d : NDict P w H a ks) : ks.Nodup := by
  obtain ⟨xs, _, _, _, _, h, _⟩ := d.ex
  exact h
theorem mem_kP {pairs : List (Nat × Option Nat)} {x : Nat × Option Nat} : kP x ∈ pairs.map kP ↔ x ∈ pairs := by
  constructor
  · intro h
    obtain ⟨y, hy, e⟩ := List.mem_map.mp h
    rw [← kP_inj e]
    exact hy
  · exact fun h => List.mem_map.mpr ⟨x, h, rfl⟩
def onP (x y : Option Nat) : PyData := .tuple [onD x, onD y]
theorem onP_shaped (x y : Option Nat) : SeqAt.shaped (onP x y) = true := by cases x <;> cases y <;> rfl
theorem onP_eqv (x y x' y' : Option Nat) : PyData.eqv (onP x y) (onP x' y') = decide (x = x' ∧ y = y') := by
  show (PyData.eqv (onD x) (onD x') && (PyData.eqv (onD y) (onD y') && true)) = _
  rw [onD_eqv, onD_eqv]
  by_cases a : x = x' <;> by_cases b : y = y' <;> simp [a, b]
def sp_paired (K : PySem.W.Frag) : Sp := fun vs H Q _ => ∃ (v1 v2 : V) (k : Nat) (A B : RR.Arr) (M N : List Nat), vs = [v1, v2, .bl false] ∧ InsAt (CW_ K) H v1 k A M ∧ InsAt (CW_ K) H v2 k B N ∧ RR.ArrOk k A ∧ RR.ArrOk k B ∧ k ≤ 8 ∧ A.length ≤ 10 ∧ B.length ≤ 10 ∧
  ∀ H' p l ar T pairs, Same H H' → H' p = some (.tup [.ref l, .ref ar]) → PsAt H' l pairs → LlAt H' ar T → RR.PairTab k A B pairs T → pairs.length ≤ 110 → Q (.ref p) H'
theorem ok_paired (G : Gs K mg) (h_Watcher_signs : Fn P w K mg base 1 d_Watcher_signs p_Watcher_signs (sp_Watcher_signs K)) (h_goal_of : Fn P w K mg base 1 d_goal_of p_goal_of (sp_goal_of K)) (h_Watcher_arrows : Fn P w K mg base 1 d_Watcher_arrows p_Watcher_arrows (sp_Watcher_arrows K)) : Fn P w K mg base 3 d_paired p_paired (sp_paired K) := by
  refine fn_mk G 28 rfl sc_paired (fun vs H Q E h => by obtain ⟨_, _, _, _, _, _, _, rfl, _⟩ := h; rfl) (fun _ _ _ _ _ _ us hl => match us, hl with | [_, _, _], _ => rfl) (fun cdv A outer s H vs Q E hr h => ?_)
  have hu1 := hu_of hr
  have hu64 := hr.units
  have hrN := roomN.of hr
  refine both (pss_cons (ps_par3 (i := 3) (j := 4) (l := 5) rfl sc_paired.nd rfl rfl rfl (by decide) (by decide) (by decide) rfl rfl rfl (pa_cons (pe_lst (pa_cons (pe_tup (pa_cons pe_int (pa_cons pe_int pa_nil))) pa_nil)) (pa_cons (pe_oneN hrN (pe_tup (pa_cons pe_int (pa_cons pe_int pa_nil))) pe_int) (pa_cons (pe_lst pa_nil) pa_nil))) rfl)
      (pss_cons (ps_set (i := 6) sc_paired.nd rfl (by first | exact .inl rfl | exact .inr rfl | exact .inr (.inl rfl) | exact .inr (.inr rfl)) pe_int)
      (pss_cons (ps_while PassesOwn.never (pt_cmpR op_lt (pv 6) (pe_callB (call_lenK rfl) rfl (G.f (x := "len")) bo_len (pa_cons (pv 3) pa_nil)) (nomark _)) (pss_cons (ps_set (i := 7) sc_paired.nd rfl (by first | exact .inl rfl | exact .inr rfl | exact .inr (.inl rfl) | exact .inr (.inr rfl)) (pe_ix (ix_listK rfl) (pv 3) (pv 6) (fun _ _ => rfl)))
      (pss_cons (ps_set (i := 6) sc_paired.nd rfl (by first | exact .inl rfl | exact .inr rfl | exact .inr (.inl rfl) | exact .inr (.inr rfl)) (pe_op op_add (pv 6) pe_int))
      (pss_cons (ps_set (i := 8) sc_paired.nd rfl (by first | exact .inl rfl | exact .inr rfl | exact .inr (.inl rfl) | exact .inr (.inr rfl)) (pe_lst pa_nil))
      (pss_cons (ps_for PassesOwn.never rfl (pi_range1 rfl (G.f (x := "range")) (pa_cons (pe_pr h_Watcher_signs (hr.mono (by decide)) G.wc.cl G.ws (pv 0)) pa_nil)) (pg_name sc_paired.nd (i := 9) rfl (by first | exact .inl rfl | exact .inr rfl | exact .inr (.inl rfl) | exact .inr (.inr rfl))) (pss_cons (ps_set (i := 10) sc_paired.nd rfl (by first | exact .inl rfl | exact .inr rfl | exact .inr (.inl rfl) | exact .inr (.inr rfl)) (pe_tup (pa_cons (pe_fn h_goal_of (hr.mono (by decide)) rfl (G.g (x := "goal_of")) (pa_cons (pe_pr h_Watcher_arrows (hr.mono (by decide)) G.wc.cl G.wa (pv 0)) (pa_cons (pe_ix (ix_tupK rfl) (pv 7) pe_int (fun _ _ => rfl)) (pa_cons (pv 9) pa_nil)))) (pa_cons (pe_fn h_goal_of (hr.mono (by decide)) rfl (G.g (x := "goal_of")) (pa_cons (pe_pr h_Watcher_arrows (hr.mono (by decide)) G.wc.cl G.wa (pv 1)) (pa_cons (pe_ix (ix_tupK rfl) (pv 7) pe_int (fun _ _ => rfl)) (pa_cons (pv 9) pa_nil)))) pa_nil))))
      (pss_cons (ps_set (i := 11) sc_paired.nd rfl (by first | exact .inl rfl | exact .inr rfl | exact .inr (.inl rfl) | exact .inr (.inr rfl)) (pe_or (pe_cmpR (op_eqDK hu64 rfl) (pv 10) (pe_tup (pa_cons pe_non (pa_cons pe_non pa_nil))) (nomark _)) (pe_one (pe_and (pe_cmp (pc_isN (pe_ix (ix_tupK rfl) (pv 10) pe_int (fun _ _ => rfl)))) (pe_one (pe_not (pv 2)))))))
      (pss_cons (ps_if (PW.pt (pw_and (pt_not (pt_val (pv 11))) (pw_and1 (pt_cmp (pc_notInN hrN (pv 10) (pv 4)))))) (pss_cons (ps_putN hrN (pv 4) (pv 10) (pe_callB (call_lenK rfl) rfl (G.f (x := "len")) bo_len (pa_cons (pv 3) pa_nil)) rfl)
      (pss_one (ps_expr (pe_bmK rfl PySem.F.plainAttrs_list PySem.F.slot_list_append PySem.F.type_list_append mt_append (pv 3) (pa_cons (pv 10) pa_nil))))) pss_nil)
      (pss_one (ps_expr (pe_bmK rfl PySem.F.plainAttrs_list PySem.F.slot_list_append PySem.F.type_list_append mt_append (pv 8) (pa_cons (pe_ifExp (pt_val (pv 11)) pe_non (pe_getN hrN (pv 4) (pv 10) (fun _ _ => rfl))) pa_nil))))))))
      (pss_one (ps_expr (pe_bmK rfl PySem.F.plainAttrs_list PySem.F.slot_list_append PySem.F.type_list_append mt_append (pv 5) (pa_cons (pv 8) pa_nil)))))))))
      (pss_one (ps_ret (pe_tup (pa_cons (pv 3) (pa_cons (pv 5) pa_nil)))))))) ?_
  obtain ⟨v1, v2, k, A1, B1, M, N, rfl, hv1, hv2, oA, oB, hk, hA10, hB10, q⟩ := h
  have hA0 := oA.pos
  have hB0 := oB.pos
  refine ⟨Evl.sz_of (show 2 ≤ 100000 by decide), fun b0 hb0 => ⟨Evl.sz_of (show 1 ≤ 100000 by decide), fun l hl => ?_⟩⟩
  intro pd hpd o0 ho0
  refine ⟨Evl.sz_of (show 2 ≤ 100000 by decide), fun b2 hb2 => ⟨?_, kP (0, some 0), ⟨_, rfl⟩, key_pair upd_same, kP_dep _, rfl, fun o ho nd0 => ⟨Evl.sz_of (show 0 ≤ 100000 by decide), fun ar har => ⟨_, _, _, rfl, ?_⟩⟩⟩⟩
  · rw [upd_ne (fun z => by rw [← z, upd_same] at hb2; cases hb2), upd_same]
  have hb0' : H b0 = none := hb0
  have n1 : b0 ≠ l := fun z => by rw [← z, upd_same] at hl; cases hl
  have hl0 : H l = none := by rw [upd_ne (Ne.symm n1)] at hl; exact hl
  have n2 : pd ≠ l := fun z => by rw [z, upd_same] at hpd; cases hpd
  have n3 : pd ≠ b0 := fun z => by rw [z, upd_ne n1, upd_same] at hpd; cases hpd
  have hpd0 : H pd = none := by rw [upd_ne n2, upd_ne n3] at hpd; exact hpd
  have n4 : b2 ≠ pd := fun z => by rw [z, upd_same] at hb2; cases hb2
  have n5 : b2 ≠ l := fun z => by rw [z, upd_ne (Ne.symm n2), upd_same] at hb2; cases hb2
  have n6 : ar ≠ pd := fun z => by rw [z, upd_same] at har; cases har
  have n7 : ar ≠ l := fun z => by rw [z, upd_ne (Ne.symm n2), upd_ne (Ne.symm n5), upd_ne (Ne.symm n2), upd_same] at har; cases har
  have hb20 : H b2 = none := by
    cases z : H b2 with
    | none => rfl
    | some o =>
      rw [upd_ne n4, upd_ne n5, upd_ne (fun y => by rw [y, hb0'] at z; cases z), z] at hb2
      cases hb2
  have har0 : H ar = none := by
    cases z : H ar with
    | none => rfl
    | some o =>
      rw [upd_ne n6, upd_ne (fun y => by rw [y, hb20] at z; cases z), upd_ne n6, upd_ne n7, upd_ne (fun y => by rw [y, hb0'] at z; cases z), z] at har
      cases har
  obtain ⟨Pv, hPv⟩ : ∃ Pv : Nat → L2.St → Hp → Prop, ∀ m σ' H', Pv m σ' H' ↔ ∃ (pairs : List (Nat × Option Nat)) (T : RR.Arr) (z7 z8 z9 z10 z11 : Option V), m + T.length = A1.length * (B1.length + 1) + 1 ∧ T.length ≤ pairs.length ∧ Same H H' ∧
    σ' = [some v1, some v2, some (.bl false), some (.ref l), some (.ref pd), some (.ref ar), some (nv T.length), z7, z8, z9, z10, z11] ∧ PsAt H' l pairs ∧ NDict P w H' pd (pairs.map kP) ∧ LlEx H' ar T [l, pd, ar] ∧ RR.PRow k A1 B1 pairs T [] := ⟨_, fun _ _ _ => Iff.rfl⟩
  have eZ : ∀ H5, Same H H5 → Same H (upd H5 ar (.lst [])) := fun H5 e => same_mut e har0
  refine ⟨Pv, ⟨A1.length * (B1.length + 1) + 1, (hPv _ _ _).mpr ⟨[(0, some 0)], [], none, none, none, none, none, rfl, Nat.zero_le _, ?_, rfl, ?_, ?_, ?_, RR.prow_start hA0 hB0⟩⟩, ?_⟩
  · exact same_mut (same_mut (same_mut (same_mut (same_mut (same_new hb0') hl0) hpd0) hb20) hpd0) har0
  · refine ⟨[.ref b0], ?_, rfl, fun i x y h1 h2 => ?_⟩
    · rw [upd_ne (Ne.symm n7), upd_ne (Ne.symm n2), upd_ne (Ne.symm n5), upd_ne (Ne.symm n2), upd_same]
    · cases i with
      | zero =>
        cases h1
        cases h2
        refine ⟨b0, rfl, ?_⟩
        have m1 : b0 ≠ ar := fun z => by
          rw [← z, upd_ne (Ne.symm n3)] at har
          by_cases y : b0 = b2
          · rw [y, upd_same] at har; cases har
          · rw [upd_ne y, upd_ne (Ne.symm n3), upd_ne n1, upd_same] at har; cases har
        have m2 : b0 ≠ b2 := fun z => by
          rw [← z, upd_ne (Ne.symm n3), upd_ne n1, upd_same] at hb2; cases hb2
        rw [upd_ne m1, upd_ne (Ne.symm n3), upd_ne m2, upd_ne (Ne.symm n3), upd_ne n1, upd_same]
        rfl
      | succ i => simp at h1
  · exact nd0.same (same_new har)
  · exact ⟨[], by rw [upd_same], rfl, fun i x r h => by simp at h⟩
  intro m σ' H' hp
  obtain ⟨pairs, T, z7, z8, z9, z10, z11, hm, hTp, e1, rfl, hps, hnd, hll, hrow⟩ := (hPv _ _ _).mp hp
  have hnodup : pairs.Nodup := nodup_of_map hnd.nd
  have hfew := RR.pair_few hnodup hrow.rng
  have hAB : A1.length * (B1.length + 1) ≤ 10 * 11 := Nat.mul_le_mul hA10 (by omega)
  obtain ⟨rs, hrl, hrlen, hrs⟩ := id hps
  refine ⟨_, rfl, _, rfl, l, rs, rfl, .inl (sqL hrl), _, _, rfl, rfl, _, rfl, ?_⟩
  by_cases hil : T.length < pairs.length
  · rw [decide_eq_true (by omega)]
    obtain ⟨⟨ha, hb⟩, hy⟩ : ∃ x, pairs[T.length]? = some x := ⟨_, List.getElem?_eq_getElem hil⟩
    obtain ⟨rs2, hbA, q1, q2, q3, q4⟩ := hps.get hy
    rw [hrl] at q1
    cases q1
    have hrngAB := hrow.rng _ (List.mem_of_getElem? hy)
    refine iteT ⟨fun σ' H' => ∃ m', m' < m ∧ Pv m' σ' H', fun _ _ h => h, _, rfl, _, rfl, l, rs, _, .ref hbA, rfl, rfl, sqL hrl, atE (j := T.length) rfl q3, ?_⟩
    refine ⟨_, rfl, _, _, rfl, rfl, Evl.sz_of (show 0 ≤ 100000 by decide), fun gl hgl => ?_⟩
    have eg := e1.trans (same_new (o := .lst []) hgl)
    obtain ⟨a1, dx1, t1, x1, y1, rfl, i1, i2, i3, i4⟩ := hv1
    obtain ⟨a2, dx2, t2, x2, y2, rfl, j1, j2, j3, j4⟩ := hv2
    have gnl : gl ≠ l := fun z => by rw [z, hrl] at hgl; cases hgl
    have gnp : gl ≠ pd := fun z => by obtain ⟨φ, h⟩ := hnd.ob; rw [z, h] at hgl; cases hgl
    have gna : gl ≠ ar := fun z => by obtain ⟨rs, h, _⟩ := hll; rw [z, h] at hgl; cases hgl
    have hgl0 : H gl = none := by
      cases z : H gl with
      | none => rfl
      | some o => have := e1 _ _ z; rw [hgl] at this; cases this
    refine ⟨_, rfl, a1, dx1, _, rfl, eg _ _ i1, a1, dx1, t1, _, _, rfl, eg _ _ i1, eg _ _ i2, rfl, k, rfl, by omega, by omega, ?_⟩
    refine for_it walk_range (fun p σ' H' => ∃ (pairs2 : List (Nat × Option Nat)) (gs : List (Option Nat)) (z9 z10 z11 : Option V), Same H H' ∧
      σ' = [some (.ref a1), some (.ref a2), some (.bl false), some (.ref l), some (.ref pd), some (.ref ar), some (nv (T.length + 1)), some (.ref hbA), some (.ref gl), z9, z10, z11] ∧ PsAt H' l pairs2 ∧ NDict P w H' pd (pairs2.map kP) ∧ LlEx H' ar T [gl, l, pd, ar] ∧ RR.PRow k A1 B1 pairs2 T gs ∧
      gs.length = p ∧ H' gl = some (.lst (gs.map onv)) ∧ pairs2[T.length]? = some (ha, hb) ∧ H' hbA = some (.tup [nv ha, onv hb])) ⟨pairs, [], z9, z10, z11, eg, rfl, hps.same (same_new hgl), hnd.same (same_new hgl), (hll.fresh hgl).same (same_new hgl), hrow, rfl, by rw [upd_same]; rfl, hy, same_new hgl _ _ q4⟩ (fun _ _ _ _ _ => trivial) ?_ ?_
    · rintro p x σ' _ H2 hpk ⟨pairs2, gs, w9, w10, w11, e2, rfl, ps2, nd2, ll2, row2, hgs, hg2, hy2, hh2⟩ ⟨rfl, hx⟩
      have hpk2 : p < k := by simpa using hpk
      obtain rfl : x = nv p := by rw [hx]; show V.int (0 + (p : Int)) = _; rw [Int.zero_add]; rfl
      have hrng2 := row2.rng _ (List.mem_of_getElem? hy2)
      have hfew2 := RR.pair_few (nodup_of_map nd2.nd) row2.rng
      refine ⟨_, rfl, a1, dx1, _, rfl, e2 _ _ i1, a1, dx1, t1, _, _, rfl, e2 _ _ i1, e2 _ _ i2, rfl, _, rfl, hbA, _, 0, _, rfl, rfl, sqT hh2, atE (j := 0) rfl rfl, _, rfl, x1, some ha, p, k, A1, rfl, i3.mono (same_tups e2), oA, hpk2, fun q e => by cases e; exact hrng2.1, ?_⟩
      refine ⟨_, rfl, a2, dx2, _, rfl, e2 _ _ j1, a2, dx2, t2, _, _, rfl, e2 _ _ j1, e2 _ _ j2, rfl, _, rfl, hbA, _, 1, _, rfl, rfl, sqT hh2, atE (j := 1) rfl rfl, _, rfl, x2, hb, p, k, B1, rfl, j3.mono (same_tups e2), oB, hpk2, hrng2.2, ?_⟩
      refine ⟨Evl.sz_of (show 2 ≤ 100000 by decide), fun tt htt => ?_⟩
      generalize hX : RR.step A1 (some ha) p = X
      generalize hY : RR.step B1 hb p = Y
      refine ⟨_, rfl, Evl.sz_of (show 2 ≤ 100000 by decide), fun b3 hb3 => ?_⟩
      have tb : tt ≠ b3 := fun z => by rw [← z, upd_same] at hb3; cases hb3
      have s34 : Same H2 (upd (upd H2 tt (.tup [onv X, onv Y])) b3 (.tup [.non, .non])) := (same_new htt).trans (same_new hb3)
      have htt4 : upd (upd H2 tt (.tup [onv X, onv Y])) b3 (.tup [.non, .non]) tt = some (.tup [onv X, onv Y]) := by rw [upd_ne tb, upd_same]
      generalize hH4 : upd (upd H2 tt (.tup [onv X, onv Y])) b3 (.tup [.non, .non]) = H4 at s34 htt4 ⊢
      have hb34 : H4 b3 = some (.tup [.non, .non]) := by rw [← hH4, upd_same]
      refine ⟨onP X Y, onP none none, .tup (sqT htt4) (.cons (dp_on X) (.cons (dp_on Y) .nil)), .tup (sqT hb34) (.cons .non (.cons .non .nil)), onP_shaped _ _, onP_shaped _ _, ?_⟩
      rw [onP_eqv]
      have hg4 := s34 _ _ hg2
      have ps4 := ps2.same s34
      have nd4 := nd2.same s34
      have ll4 := ll2.same s34
      have e4 := e2.trans s34
      have hh4 := s34 _ _ hh2
      have l4 : ∃ rs, H4 l = some (.lst rs) ∧ rs.length = pairs2.length := by obtain ⟨rs, g1, g2, _⟩ := ps4; exact ⟨rs, g1, g2⟩
      obtain ⟨rs4, hrs4, hrs4l⟩ := l4
      have p4 : ∃ φ, H4 pd = some (.ext φ) := nd4.ob
      obtain ⟨φ4, hφ4⟩ := p4
      have g4l : H4 gl = some (.lst (gs.map onv)) := hg4
      have ttl : tt ≠ l := fun z => by rw [z, hrs4] at htt4; cases htt4
      have ttp : tt ≠ pd := fun z => by rw [z, hφ4] at htt4; cases htt4
      have ttg : tt ≠ gl := fun z => by rw [z, g4l] at htt4; cases htt4
      have fin : ∀ (pairs3 : List (Nat × Option Nat)) (g : Option Nat) (H6 : Hp), Same H H6 → PsAt H6 l pairs3 → NDict P w H6 pd (pairs3.map kP) → LlEx H6 ar T [gl, l, pd, ar] → RR.PRow k A1 B1 pairs3 T (gs ++ [g]) → H6 gl = some (.lst (gs.map onv)) → pairs3[T.length]? = some (ha, hb) → H6 hbA = some (.tup [nv ha, onv hb]) →
          ∃ (pairs2 : List (Nat × Option Nat)) (gs2 : List (Option Nat)) (z9 z10 z11 : Option V), Same H (upd H6 gl (.lst (gs.map onv ++ [onv g]))) ∧
            ([some (.ref a1), some (.ref a2), some (.bl false), some (.ref l), some (.ref pd), some (.ref ar), some (nv (T.length + 1)), some (.ref hbA), some (.ref gl), some (nv p), some (.ref tt), some (.bl (decide (X = none)))] : L2.St) = [some (.ref a1), some (.ref a2), some (.bl false), some (.ref l), some (.ref pd), some (.ref ar), some (nv (T.length + 1)), some (.ref hbA), some (.ref gl), z9, z10, z11] ∧
            PsAt (upd H6 gl (.lst (gs.map onv ++ [onv g]))) l pairs2 ∧ NDict P w (upd H6 gl (.lst (gs.map onv ++ [onv g]))) pd (pairs2.map kP) ∧ LlEx (upd H6 gl (.lst (gs.map onv ++ [onv g]))) ar T [gl, l, pd, ar] ∧ RR.PRow k A1 B1 pairs2 T gs2 ∧
            gs2.length = p + 1 ∧ upd H6 gl (.lst (gs.map onv ++ [onv g])) gl = some (.lst (gs2.map onv)) ∧ pairs2[T.length]? = some (ha, hb) ∧ upd H6 gl (.lst (gs.map onv ++ [onv g])) hbA = some (.tup [nv ha, onv hb]) := by
        intro pairs3 g H6 f1 f2 f3 f4 f5 f6 f7 f8
        have tu : Tups H6 (upd H6 gl (.lst (gs.map onv ++ [onv g]))) := Tups.upd f6 (fun xs z => nomatch z)
        exact ⟨pairs3, gs ++ [g], _, _, _, same_mut f1 hgl0, rfl, f2.at (upd_ne (Ne.symm gnl)) tu, f3.at tu (upd_ne (Ne.symm gnp)), f4.at (upd_ne (Ne.symm gna)) (Keep.upd (by simp)), f5, by simp [hgs], by rw [upd_same, List.map_append]; rfl, f7, tu _ _ f8⟩
      cases X with
      | none =>
        have hout : RR.ArrP A1 B1 pairs2 ha hb gs.length none := .inl ⟨by rw [hgs]; exact hX, rfl⟩
        have row3 := row2.old hy2 hout
        have sm : (gs.map onv).length < sizeLine := small (by rw [List.length_map]; omega)
        cases Y with
        | none => exact ⟨true, rfl, iteT ⟨_, rfl, true, rfl, iteF (iteF ⟨_, rfl, .inl ⟨rfl, _, sqL hg4⟩, _, rfl, true, rfl, iteT ⟨gl, _, _, rfl, rfl, hg4, sm, fin pairs2 none H4 e4 ps4 nd4 ll4 row3 hg4 hy2 hh4⟩⟩)⟩⟩
        | some b' => exact ⟨false, congrArg V.bl (decide_eq_false (by simp)), iteF ⟨_, rfl, tt, _, 0, _, rfl, rfl, sqT htt4, atE (j := 0) rfl rfl, true, rfl, iteT ⟨_, rfl, false, rfl, _, rfl, true, rfl, iteF (iteF ⟨_, rfl, .inl ⟨rfl, _, sqL hg4⟩, _, rfl, true, rfl, iteT ⟨gl, _, _, rfl, rfl, hg4, sm, fin pairs2 none H4 e4 ps4 nd4 ll4 row3 hg4 hy2 hh4⟩⟩)⟩⟩⟩
      | some a' =>
        have sm : (gs.map onv).length < sizeLine := small (by rw [List.length_map]; omega)
        refine ⟨false, congrArg V.bl (decide_eq_false (by simp)), iteF ⟨_, rfl, tt, _, 0, _, rfl, rfl, sqT htt4, atE (j := 0) rfl rfl, false, rfl, iteF ⟨_, rfl, false, rfl, iteT ⟨_, rfl, _, rfl, pd, _, kP (a', Y), rfl, nd4, ⟨_, rfl⟩, key_pair htt4, kP_dep _, _, rfl, ?_⟩⟩⟩⟩
        by_cases hin : (a', Y) ∈ pairs2
        · have hdd : decide (kP (a', Y) ∉ pairs2.map kP) = false := decide_eq_false (fun h => h (mem_kP.mpr hin))
          rw [hdd]
          obtain ⟨j, hj⟩ := List.mem_iff_getElem?.mp hin
          have row3 := row2.old hy2 (g := some j) (.inr ⟨a', j, by rw [hgs]; exact hX, rfl, by rw [hgs, hY]; exact hj⟩)
          refine iteF ⟨_, rfl, .inl ⟨rfl, _, sqL hg4⟩, _, rfl, false, rfl, iteF ⟨_, rfl, _, rfl, pd, _, kP (a', Y), j, rfl, nd4, ⟨_, rfl⟩, key_pair htt4, kP_dep _, by rw [List.getElem?_map, hj]; rfl, gl, _, _, rfl, rfl, hg4, sm, fin pairs2 (some j) H4 e4 ps4 nd4 ll4 row3 hg4 hy2 hh4⟩⟩
        · have hdd : decide (kP (a', Y) ∉ pairs2.map kP) = true := decide_eq_true (fun h => hin (mem_kP.mp h))
          rw [hdd]
          have row3 := row2.new oB oA hy2 (a' := a') (by rw [hgs]; exact hX)
          rw [hgs, hY] at row3
          refine iteT ⟨_, rfl, l, rs4, rfl, .inl (sqL hrs4), _, rfl, _, rfl, pd, _, kP (a', Y), rfl, nd4, ⟨_, rfl⟩, key_pair htt4, kP_dep _, fun h => hin (mem_kP.mp h), by rw [List.length_map]; omega, by rw [hrs4l, List.length_map], fun o ho nd5 => ?_⟩
          have t5 : Tups H4 (upd H4 pd o) := Tups.upd hφ4 (fun xs z => nomatch z)
          have ps5 : PsAt (upd H4 pd o) l pairs2 := ps4.at (upd_ne (Ne.symm n2)) t5
          have hrs5 : upd H4 pd o l = some (.lst rs4) := by rw [upd_ne (Ne.symm n2)]; exact hrs4
          refine ⟨_, rfl, .inl ⟨rfl, _, sqL hrs5⟩, _, rfl, l, rs4, _, rfl, rfl, hrs5, small (by omega), ?_⟩
          have tt5 := t5 _ _ htt4
          have ps6 := ps5.snoc (y := (a', Y)) hrs5 tt5 ttl
          have t6 : Tups (upd H4 pd o) (upd (upd H4 pd o) l (.lst (rs4 ++ [.ref tt]))) := Tups.upd hrs5 (fun xs z => nomatch z)
          have nd6 : NDict P w (upd (upd H4 pd o) l (.lst (rs4 ++ [.ref tt]))) pd ((pairs2 ++ [(a', Y)]).map kP) := by
            rw [List.map_append]
            exact nd5.at t6 (upd_ne n2)
          have ll6 : LlEx (upd (upd H4 pd o) l (.lst (rs4 ++ [.ref tt]))) ar T [gl, l, pd, ar] := (ll4.at (upd_ne n6) (Keep.upd (by simp))).at (upd_ne n7) (Keep.upd (by simp))
          have g6 : upd (upd H4 pd o) l (.lst (rs4 ++ [.ref tt])) gl = some (.lst (gs.map onv)) := by rw [upd_ne gnl, upd_ne gnp]; exact hg4
          have hl2 := (List.getElem?_eq_some_iff.mp hy2).1
          refine ⟨_, rfl, .inl ⟨rfl, _, sqL g6⟩, _, rfl, false, rfl, iteF ⟨_, rfl, _, rfl, pd, _, kP (a', Y), pairs2.length, rfl, nd6, ⟨_, rfl⟩, key_pair (t6 _ _ tt5), kP_dep _, by rw [List.getElem?_map, List.getElem?_append_right (Nat.le_refl _)]; simp, gl, _, _, rfl, rfl, g6, sm, fin (pairs2 ++ [(a', Y)]) (some pairs2.length) _ (same_mut (same_mut e4 hpd0) hl0) ps6 nd6 ll6 row3 g6 (by rw [List.getElem?_append_left hl2]; exact hy2) (t6 _ _ (t5 _ _ hh4))⟩⟩
    · rintro σ' H2 ⟨pairs2, gs, w9, w10, w11, e2, rfl, ps2, nd2, ll2, row2, hgs, hg2, hy2, hh2⟩
      have hgs2 : gs.length = k := by simpa using hgs
      have row3 := row2.done hgs2
      obtain ⟨rsA, hA, _⟩ := id ll2
      have hAl : rsA.length = T.length := by obtain ⟨rs, g1, g2, _⟩ := ll2; rw [hA] at g1; cases g1; exact g2
      have hl2 := (List.getElem?_eq_some_iff.mp hy2).1
      have hfew2 := RR.pair_few (nodup_of_map nd2.nd) row2.rng
      refine ⟨_, rfl, .inl ⟨rfl, _, sqL hA⟩, _, rfl, ar, rsA, _, rfl, rfl, hA, small (by omega), m - 1, by omega, ?_⟩
      have hlen3 : (T ++ [gs]).length = T.length + 1 := by simp
      have ll3 := ll2.weak.snoc (by simp) hA hg2 (by simp [gnl, gnp, gna])
      have t3 : Tups H2 (upd H2 ar (.lst (rsA ++ [.ref gl]))) := Tups.upd hA (fun xs z => nomatch z)
      refine (hPv _ _ _).mpr ⟨pairs2, T ++ [gs], _, _, _, _, _, by omega, by omega, same_mut e2 har0, by rw [hlen3], ps2.at (upd_ne (Ne.symm n7)) t3, nd2.at t3 (upd_ne (Ne.symm n6)), ll3, row3⟩
  · rw [decide_eq_false (by omega)]
    have hTl : T.length = pairs.length := by omega
    refine iteF ⟨_, rfl, _, rfl, Evl.sz_of (show 2 ≤ 100000 by decide), fun pp hpp => ?_⟩
    exact q _ pp l ar T pairs (e1.trans (same_new hpp)) upd_same (hps.same (same_new hpp)) (hll.ll.mono (same_new hpp)) (hrow.tab hTl) (by omega)
end
end RK
/-! W9: loops that tell two watchers apart. -/
namespace RK
open PySem PySem.Spec PyProof.Rows L2
/-- the items may be lists of their own -/
theorem lc_relD {R : Hp → Hp → Prop} {F : Addr → Prop} {J : It} {n : Nat} {G : Hp → Prop} {Y : Nat → Hp → V → Hp → Prop} (gr : Grow R F) (wk : Walk J n G Y) {g : TG} {te : TE} {vs : List Nat} {σ : L2.St} {H1 : Hp} {D : Addr} {Qd : Hp → Prop} (hn : n ≤ 10000) (hD : H1 D = none) (hF : F D) (Rel : Nat → V → Hp → Prop)
    (hRel : ∀ i x H H', R H H' → Rel i x H → Rel i x H') (hRelD : ∀ i x H o, Rel i x H → (∃ acc, H D = some (.lst acc)) → Rel i x (upd H D (.lst o))) (hG : ∀ H, R H1 H → G H)
    (hs : ∀ i x H H', i < n → R H1 H → (∃ acc, H D = some (.lst acc)) → Y i H x H' → ∀ Kt : V → Hp → Prop, (∀ y H4, R H H4 → Rel i y H4 → Kt y H4) → g x (wipe σ vs) H' fun σ2 H2 => wipe σ2 vs = wipe σ vs ∧ te σ2 H2 Kt)
    (hd : ∀ xs H, R H1 H → H D = some (.lst xs) → xs.length = n → (∀ i x, xs[i]? = some x → Rel i x H) → Qd H) :
    Turns J (upd H1 D (.lst [])) Qd (lcOne g tYes te vs σ D) := by
  refine turns_walk wk (fun i H => R H1 H ∧ ∃ xs, H D = some (.lst xs) ∧ xs.length = i ∧ ∀ j x, xs[j]? = some x → Rel j x H) ⟨gr.wr (gr.refl _) hD, [], upd_same, rfl, fun j x h => by simp at h⟩ (fun i H _ p => hG H p.1) ?_ fun H p => ?_
  · intro i x H H' hi p y
    obtain ⟨e1, xs, hx, hl, hr⟩ := p
    have z := hs i x H H' hi e1 ⟨xs, hx⟩ y (fun y H4 => ∃ acc, H4 D = some (.lst acc) ∧ acc.length < sizeLine ∧ (R H1 (upd H4 D (.lst (acc ++ [y]))) ∧ ∃ xs, upd H4 D (.lst (acc ++ [y])) D = some (.lst xs) ∧ xs.length = i + 1 ∧ ∀ j x, xs[j]? = some x → Rel j x (upd H4 D (.lst (acc ++ [y]))))) fun y H4 e4 r4 => ?_
    · exact z
    · have h4 := gr.keep e4 hF hx
      refine ⟨xs, h4, small (by omega), gr.wr (gr.trans e1 e4) hD, xs ++ [y], upd_same, by simp [hl], fun j x hj => ?_⟩
      by_cases hji : j < xs.length
      · rw [List.getElem?_append_left hji] at hj
        exact hRelD _ _ _ _ (hRel _ _ _ _ e4 (hr j x hj)) ⟨_, h4⟩
      · have : j = xs.length := by
          have := (List.getElem?_eq_some_iff.mp hj).1
          simp at this
          omega
        subst this
        rw [List.getElem?_append_right (Nat.le_refl _)] at hj
        simp at hj
        subst hj
        rw [hl]
        exact hRelD _ _ _ _ r4 ⟨_, h4⟩
  · obtain ⟨e1, xs, hx, hl, hr⟩ := p
    exact hd xs H e1 hx hl hr
/-- items that are told one by one -/
theorem list_is {α : Type} {f : α → V} {xs : List V} {l : List α} (hl : xs.length = l.length) (h : ∀ (i : Nat) (x : V), xs[i]? = some x → ∃ a : α, l[i]? = some a ∧ x = f a) : xs = l.map f := by
  refine List.ext_getElem? fun i => ?_
  by_cases hi : i < xs.length
  · obtain ⟨a, ha, e⟩ := h i xs[i] (List.getElem?_eq_getElem hi)
    rw [List.getElem?_map, ha, List.getElem?_eq_getElem hi, e]
    rfl
  · rw [List.getElem?_eq_none (by omega), List.getElem?_eq_none (by simp; omega)]
def bareG (pairs : List (Nat × Option Nat)) (N : List Nat) : Option Nat → Option Nat
  | none => none
  | some j => match pairs[j]? with
    | some (_, b) => if RR.isEnd N b = true then none else some j
    | none => some j
theorem bare_is (pairs : List (Nat × Option Nat)) (N : List Nat) (T : RR.Arr) : RR.bareOf pairs N T = T.map fun r => r.map (bareG pairs N) := by
  unfold RR.bareOf
  refine List.map_congr_left fun r _ => List.map_congr_left fun g _ => ?_
  cases g <;> rfl
section
variable {P : Program} {w : World} {K : PySem.W.Frag} {mg : Str → Option Value} {base : Heap}
/-- two texts that stand as a pair -/
def TwoAt (H : Hp) (r : V) (u v : List Nat) : Prop := ∃ p, r = .ref p ∧ H p = some (.tup [.str (txt u), .str (txt v)])
def Signs (k : Nat) (u : List Nat) : Prop := (∀ p ∈ u, p < k) ∧ u.length ≤ 120
def sp_loop_apart (K : PySem.W.Frag) : Sp := fun vs H Q _ => ∃ (v1 v2 : V) (k : Nat) (A B : RR.Arr) (M N : List Nat), vs = [v1, v2] ∧ InsAt (CW_ K) H v1 k A M ∧ InsAt (CW_ K) H v2 k B N ∧ RR.ArrOk k A ∧ RR.ArrOk k B ∧ k ≤ 8 ∧ A.length ≤ 10 ∧ B.length ≤ 10 ∧
  ∀ H' r, Same H H' → ((∃ u v, TwoAt H' r u v ∧ RR.ApartSome A M B N u v ∧ Signs k u ∧ Signs k v) ∨ (r = .non ∧ RR.ApartNone A M B N)) → Q r H'
theorem ok_loop_apart (G : Gs K mg) (h_paired : Fn P w K mg base 3 d_paired p_paired (sp_paired K)) (h_Watcher_marks : Fn P w K mg base 1 d_Watcher_marks p_Watcher_marks (sp_Watcher_marks K)) (h_back_row : Fn P w K mg base 2 d_back_row p_back_row (sp_back_row K)) (h_first_row_to : Fn P w K mg base 1 d_first_row_to p_first_row_to (sp_first_row_to K)) : Fn P w K mg base 4 d_loop_apart p_loop_apart (sp_loop_apart K) := by
  refine fn_mk G 29 rfl sc_loop_apart (fun vs H Q E h => by obtain ⟨_, _, _, _, _, _, _, rfl, _⟩ := h; rfl) (fun _ _ _ _ _ _ us hl => match us, hl with | [_, _], _ => rfl) (fun cdv A outer s H vs Q E hr h => ?_)
  have hu1 := hu_of hr
  have hu64 := hr.units
  have hrN := roomN.of hr
  refine both (pss_cons (ps_asg (pe_fn h_paired (hr.mono (by decide)) rfl (G.g (x := "paired")) (pa_cons (pv 0) (pa_cons (pv 1) (pa_cons pe_bl pa_nil)))) (pg_tupK (n := 2) rfl rfl (pgs_cons (pg_name sc_loop_apart.nd (i := 2) rfl (by first | exact .inl rfl | exact .inr rfl | exact .inr (.inl rfl) | exact .inr (.inr rfl))) (pgs_cons (pg_name sc_loop_apart.nd (i := 3) rfl (by first | exact .inl rfl | exact .inr rfl | exact .inr (.inl rfl) | exact .inr (.inr rfl))) pgs_nil))))
      (pss_cons (ps_for PassesOwn.never rfl (pi_enumK rfl rfl (G.f (x := "enumerate")) (pa_cons (pv 2) pa_nil)) (pg_tupK (n := 2) rfl rfl (pgs_cons (pg_name sc_loop_apart.nd (i := 4) rfl (by first | exact .inl rfl | exact .inr rfl | exact .inr (.inl rfl) | exact .inr (.inr rfl))) (pgs_cons (pg_name sc_loop_apart.nd (i := 5) rfl (by first | exact .inl rfl | exact .inr rfl | exact .inr (.inl rfl) | exact .inr (.inr rfl))) pgs_nil))) (pss_one (ps_if (PW.pt (pw_and (pt_cmpR (op_inK rfl) (pe_ix (ix_tupK rfl) (pv 5) pe_int (fun _ _ => rfl)) (pe_pr h_Watcher_marks (hr.mono (by decide)) G.wc.cl G.wm (pv 0)) rfl) (pw_and1 (pt_cmpR (op_notInK rfl) (pe_ix (ix_tupK rfl) (pv 5) pe_int (fun _ _ => rfl)) (pe_pr h_Watcher_marks (hr.mono (by decide)) G.wc.cl G.wm (pv 1)) rfl)))) (pss_cons (ps_setLc (i := 6) rfl sc_loop_apart.nd rfl rfl rfl (pi_listK rfl (pv 3)) (blkOk_by (own := [("row", 8)]) (by first | (show blkC n_loop_apart (defScope s_loop_apart) _ _ = true; decide +kernel) | rfl)) (fun _ _ _ _ _ => (pg_name sc_loop_apart.nd (i := 8) rfl (by first | exact .inl rfl | exact .inr rfl | exact .inr (.inl rfl) | exact .inr (.inr rfl)))) (fun _ _ _ _ _ => pts_nil) (fun _ _ _ _ _ => (pe_lc rfl sc_loop_apart.nd (pi_listK rfl (pv 8)) (blkOk_by (own := [("goal", 7)]) (by first | (show blkC n_loop_apart (defScope s_loop_apart) _ _ = true; decide +kernel) | rfl)) (fun _ _ _ _ _ => (pg_name sc_loop_apart.nd (i := 7) rfl (by first | exact .inl rfl | exact .inr rfl | exact .inr (.inl rfl) | exact .inr (.inr rfl)))) (fun _ _ _ _ _ => pts_nil) (fun _ _ _ _ _ => (pe_ifExp (PW.pt (pw_or (pt_cmp (pc_isN (pv 7))) (pw_or1 (pt_cmpR (op_inK rfl) (pe_ix (ix_tupK rfl) (pe_ix (ix_listK rfl) (pv 2) (pv 7) (fun _ _ => rfl)) pe_int (fun _ _ => rfl)) (pe_pr h_Watcher_marks (hr.mono (by decide)) G.wc.cl G.wm (pv 1)) rfl)))) pe_non (pv 7))))))
      (pss_cons (ps_set (i := 9) sc_loop_apart.nd rfl (by first | exact .inl rfl | exact .inr rfl | exact .inr (.inl rfl) | exact .inr (.inr rfl)) (pe_fn h_back_row (hr.mono (by decide)) rfl (G.g (x := "back_row")) (pa_cons (pv 6) (pa_cons (pv 4) pa_nil))))
      (pss_one (ps_if (pt_cmp (pc_notN (pv 9))) (pss_one (ps_ret (pe_tup (pa_cons (pe_fn h_first_row_to (hr.mono (by decide)) rfl (G.g (x := "first_row_to")) (pa_cons (pv 3) (pa_cons pe_int (pa_cons (pe_lst (pa_cons (pv 4) pa_nil)) pa_nil)))) (pa_cons (pv 9) pa_nil))))) pss_nil)))) pss_nil)))
      (pss_one (ps_ret pe_non)))) ?_
  obtain ⟨v1, v2, k, A1, B1, M, N, rfl, hv1, hv2, oA, oB, hk, hA10, hB10, q⟩ := h
  refine ⟨_, rfl, _, rfl, v1, v2, k, A1, B1, M, N, rfl, hv1, hv2, oA, oB, hk, hA10, hB10, fun H1 p l ar T pairs e1 hp hps hll tab h200 => ⟨p, _, rfl, sqT hp, rfl, _, _, rfl, _, _, rfl, rfl, ?_⟩⟩
  obtain ⟨a1, dx1, t1, x1, y1, rfl, i1, i2, i3, m1, rfl, i5⟩ := hv1
  obtain ⟨a2, dx2, t2, x2, y2, rfl, j1, j2, j3, m2, rfl, j5⟩ := hv2
  obtain ⟨rs, hrl, hrlen, hrs⟩ := id hps
  have okT := tab.ok
  refine ⟨_, rfl, l, rs, rfl, sqL hrl, ?_⟩
  refine for_it walk_enum (fun i σ' H' => Same H1 H' ∧ ∃ z4 z5 z6 z7 z8 z9, σ' = [some (.ref a1), some (.ref a2), some (.ref l), some (.ref ar), z4, z5, z6, z7, z8, z9] ∧
    ∀ j a b, j < i → pairs[j]? = some (a, b) → a ∈ M → RR.isEnd N b = false → ∀ u, u ≠ [] → RR.run (RR.bareOf pairs N T) (some j) u ≠ some j) ⟨Same.refl _, none, none, none, none, none, none, rfl, fun j a b h => absurd h (by omega)⟩ (fun i σ' H' _ e => sqL (e.1 _ _ hrl)) ?_ ?_
  · rintro i v σ' H2 _ hi ⟨e2, z4, z5, z6, z7, z8, z9, rfl, no⟩ ⟨Tt, x, y, rfl, hT, rfl, hx, hy⟩
    cases hx
    have hip : i < pairs.length := by omega
    obtain ⟨⟨pa, pb⟩, hpi⟩ : ∃ x, pairs[i]? = some x := ⟨_, List.getElem?_eq_getElem hip⟩
    obtain ⟨bA, rfl, hbA⟩ := hrs i y _ hy hpi
    have e3 : Same H1 (upd H2 Tt (.tup [.int (i : Nat), .ref bA])) := e2.trans (same_new hT)
    generalize hH3 : upd H2 Tt (.tup [.int (i : Nat), .ref bA]) = H3 at e3 ⊢
    have tt : H3 Tt = some (.tup [.int (i : Nat), .ref bA]) := by rw [← hH3, upd_same]
    have eH := e1.trans e3
    refine ⟨Tt, _, rfl, sqT tt, rfl, _, _, rfl, _, _, rfl, rfl, ?_⟩
    refine ⟨_, rfl, bA, _, 0, _, rfl, rfl, sqT (e3 _ _ hbA), atE (j := 0) rfl rfl, _, rfl, a1, dx1, _, rfl, eH _ _ i1, a1, dx1, t1, _, _, rfl, eH _ _ i1, eH _ _ i2, rfl, m1, _, rfl, .inr (sqT (eH _ _ i5)), flat_on (some pa), flat_nats M, _, rfl, ?_⟩
    have skip : (pa ∈ M → RR.isEnd N pb = false → ∀ u, u ≠ [] → RR.run (RR.bareOf pairs N T) (some i) u ≠ some i) → ∀ j a b, j < i + 1 → pairs[j]? = some (a, b) → a ∈ M → RR.isEnd N b = false → ∀ u, u ≠ [] → RR.run (RR.bareOf pairs N T) (some j) u ≠ some j := by
      intro h j a b hj hab
      by_cases hji : j < i
      · exact no j a b hji hab
      · have : j = i := by omega
        subst this
        rw [hpi] at hab
        cases hab
        exact h
    have eM : inV (onv (some pa)) (M.map nv) = RR.isEnd M (some pa) := in_nats _ _
    rw [if_neg (by decide)]
    rw [show inV (nv pa) (M.map nv) = RR.isEnd M (some pa) from eM]
    by_cases hM : pa ∈ M
    · rw [show RR.isEnd M (some pa) = true from decide_eq_true hM]
      refine iteT ⟨_, rfl, bA, _, 1, _, rfl, rfl, sqT (e3 _ _ hbA), atE (j := 1) rfl rfl, _, rfl, a2, dx2, _, rfl, eH _ _ j1, a2, dx2, t2, _, _, rfl, eH _ _ j1, eH _ _ j2, rfl, m2, _, rfl, .inr (sqT (eH _ _ j5)), flat_on pb, flat_nats N, _, rfl, ?_⟩
      rw [if_pos rfl, in_nats]
      cases hN : RR.isEnd N pb with
      | true => exact iteF ⟨e3, _, _, _, _, _, _, rfl, skip fun _ h => by rw [hN] at h; cases h⟩
      | false =>
        obtain ⟨rsA, hrA, hrAlen, hrAs⟩ := id hll
        have hTl := tab.len
        refine iteT ⟨_, rfl, ar, rfl, ⟨rsA, sqL (e3 _ _ hrA)⟩, fun D hD => ?_⟩
        refine lc_relD grow_same walk_list (by omega) hD trivial (fun j x H => ∃ r b, T[j]? = some r ∧ x = .ref b ∧ b ≠ D ∧ H b = some (.lst ((r.map (bareG pairs N)).map onv))) (fun j x H H' e ⟨r, b, f1, f2, f3, f4⟩ => ⟨r, b, f1, f2, f3, e _ _ f4⟩) (fun j x H o ⟨r, b, f1, f2, f3, f4⟩ _ => ⟨r, b, f1, f2, f3, by rw [upd_ne f3]; exact f4⟩) (fun H e => sqL (e _ _ (e3 _ _ hrA))) ?_ ?_
        · rintro j x _ H4 hj e4 ⟨acc, hacc⟩ ⟨rfl, hx⟩ Kt hK
          have hjT : j < T.length := by omega
          obtain ⟨c, rfl, hc⟩ := hrAs j x _ hx (List.getElem?_eq_getElem hjT)
          have hw := tab.wid T[j] (List.getElem_mem hjT)
          have hc4 := e4 _ _ (e3 _ _ hc)
          refine ⟨rfl, _, rfl, c, rfl, ⟨_, sqL hc4⟩, fun D2 hD2 => ?_⟩
          have hDD : D2 ≠ D := fun z => by rw [z, hacc] at hD2; cases hD2
          refine lc_rel grow_same walk_list (by rw [List.length_map]; omega) hD2 trivial (fun c2 x2 _ => ∃ g, T[j][c2]? = some g ∧ x2 = onv (bareG pairs N g)) (fun _ _ _ _ _ h => h) (fun _ _ _ _ h _ => h) (fun H e => sqL (e _ _ hc4)) ?_ ?_
          · rintro c2 x2 _ H5 hc2 e5 ⟨rfl, hx2⟩ Kt2 hK2
            rw [List.getElem?_map] at hx2
            obtain ⟨g, hg, rfl⟩ := Option.map_eq_some_iff.mp hx2
            refine ⟨rfl, _, rfl, _, rfl, ?_⟩
            cases g with
            | none => exact iteT (iteT (hK2 _ _ (Same.refl _) ⟨none, hg, rfl⟩))
            | some gq =>
              have hgq : gq < T.length := okT.rng T[j] (List.getElem_mem hjT) gq (List.mem_of_getElem? hg)
              obtain ⟨⟨qa, qb⟩, hq⟩ : ∃ x, pairs[gq]? = some x := ⟨_, List.getElem?_eq_getElem (by omega)⟩
              have hrq : rs[gq]? = some (rs[gq]'(by omega)) := List.getElem?_eq_getElem (by omega)
              obtain ⟨bq, eq, hbq⟩ := hrs gq _ _ hrq hq
              rw [eq] at hrq
              have e35 := e3.trans (e4.trans e5)
              have eH5 := e1.trans e35
              refine iteF ⟨_, rfl, _, rfl, l, rs, _, _, rfl, rfl, sqL (e35 _ _ hrl), atE (j := gq) rfl hrq, bq, _, 1, _, rfl, rfl, sqT (e35 _ _ hbq), atE (j := 1) rfl rfl, _, rfl, a2, dx2, _, rfl, eH5 _ _ j1, a2, dx2, t2, _, _, rfl, eH5 _ _ j1, eH5 _ _ j2, rfl, m2, _, rfl, .inr (sqT (eH5 _ _ j5)), flat_on qb, flat_nats N, _, rfl, ?_⟩
              rw [if_neg (by decide), in_nats]
              have eb : bareG pairs N (some gq) = if RR.isEnd N qb = true then none else some gq := by
                show (match pairs[gq]? with
                  | some (_, b) => if RR.isEnd N b = true then none else some gq
                  | none => some gq) = _
                rw [hq]
              cases hNq : RR.isEnd N qb with
              | true => exact iteT (hK2 _ _ (Same.refl _) ⟨some gq, hg, by rw [eb, hNq]; rfl⟩)
              | false => exact iteF ⟨_, rfl, hK2 _ _ (Same.refl _) ⟨some gq, hg, by rw [eb, hNq]; rfl⟩⟩
          · intro xs H5 e5 hx5 hlen5 hall5
            have hxs : xs = (T[j].map (bareG pairs N)).map onv := list_is (f := onv) (by rw [hlen5]; simp) fun c2 x2 h2 => by
              obtain ⟨g, hg, e⟩ := hall5 c2 x2 h2
              exact ⟨bareG pairs N g, by rw [List.getElem?_map, hg]; rfl, e⟩
            exact hK _ _ e5 ⟨T[j], D2, List.getElem?_eq_getElem hjT, rfl, hDD, by rw [hx5, hxs]⟩
        · intro xs H4 e4 hx4 hlen4 hall4
          have hbare : LlAt H4 D (RR.bareOf pairs N T) := by
            rw [bare_is]
            refine ⟨xs, hx4, by rw [List.length_map]; omega, fun j x r g1 g2 => ?_⟩
            obtain ⟨r0, b, f1, f2, f3, f4⟩ := hall4 j x g1
            rw [List.getElem?_map, f1] at g2
            cases g2
            exact ⟨b, f2, f4⟩
          have blen : (RR.bareOf pairs N T).length = T.length := by rw [bare_is, List.length_map]
          refine ⟨_, rfl, _, rfl, D, i, k, RR.bareOf pairs N T, rfl, hbare, RR.bareOf_ok okT pairs N, hk, by omega, by omega, fun H5 r e5 hr => ?_⟩
          have e45 := e3.trans (e4.trans e5)
          rcases hr with ⟨u, rfl, h1, h2, h3, h4⟩ | ⟨rfl, h1⟩
          · refine ⟨_, rfl, true, rfl, iteT ⟨_, rfl, _, rfl, Evl.sz_of (show 1 ≤ 100000 by decide), fun gl hgl => ⟨ar, gl, 0, i, k, T, rfl, (hll.mono e45).mono (same_new hgl), okT, hk, by omega, by omega, upd_same, fun H6 r2 e6 hr2 => ?_⟩⟩⟩
            rcases hr2 with ⟨u2, rfl, f1, f2, f3⟩ | ⟨rfl, f1⟩
            · refine ⟨_, rfl, Evl.sz_of (show 2 ≤ 100000 by decide), fun pp hpp => ?_⟩
              exact q _ _ (((e1.trans e45).trans (same_new hgl)).trans (e6.trans (same_new hpp))) (.inl ⟨u2, u, ⟨pp, rfl, upd_same⟩, RR.apart_sound tab hpi hM f2 h1 h3, ⟨f1, by omega⟩, ⟨h2, by omega⟩⟩)
            · obtain ⟨wd, hwd⟩ := tab.reach i hip
              exact absurd hwd (f1 wd)
          · exact ⟨_, rfl, false, rfl, iteF ⟨e45, _, _, _, _, _, _, rfl, skip fun _ _ => h1⟩⟩
    · rw [show RR.isEnd M (some pa) = false from decide_eq_false hM]
      exact iteF (iteF ⟨e3, _, _, _, _, _, _, rfl, skip fun h => absurd h hM⟩)
  · rintro σ' H2 ⟨e2, z4, z5, z6, z7, z8, z9, rfl, no⟩
    refine q _ _ (e1.trans e2) (.inr ⟨rfl, fun u v hv h1 => Classical.byContradiction fun h2 => ?_⟩)
    obtain ⟨spot, a, b, wd, g1, g2, g3, g4, g5⟩ := RR.apart_complete tab oA oB hv h1 h2
    exact no spot a b (by rw [hrlen]; exact (List.getElem?_eq_some_iff.mp g1).1) g1 g2 g3 wd g4 g5
def TwoOr (H : Hp) (r : V) (k : Nat) (A : RR.Arr) (M : List Nat) (B : RR.Arr) (N : List Nat) : Prop :=
  (∃ u v, TwoAt H r u v ∧ (RR.ApartSome A M B N u v ∨ RR.ApartSome B N A M u v) ∧ Signs k u ∧ Signs k v) ∨ (r = .non ∧ RR.ApartNone A M B N ∧ RR.ApartNone B N A M)
def spUnlike (K : PySem.W.Frag) : Sp := fun vs H Q _ => ∃ (v1 v2 : V) (k : Nat) (A B : RR.Arr) (M N : List Nat), vs = [v1, v2] ∧ InsAt (CW_ K) H v1 k A M ∧ InsAt (CW_ K) H v2 k B N ∧ RR.ArrOk k A ∧ RR.ArrOk k B ∧ k ≤ 8 ∧ A.length ≤ 10 ∧ B.length ≤ 10 ∧
  ∀ H' r, Same H H' → TwoOr H' r k A M B N → Q r H'
abbrev sp_loop_unlike (K : PySem.W.Frag) : Sp := spUnlike K
abbrev sp_unlike_loop (K : PySem.W.Frag) : Sp := spUnlike K
theorem ok_loop_unlike (G : Gs K mg) (h_loop_apart : Fn P w K mg base 4 d_loop_apart p_loop_apart (sp_loop_apart K)) : Fn P w K mg base 5 d_loop_unlike p_loop_unlike (sp_loop_unlike K) := by
  refine fn_mk G 30 rfl sc_loop_unlike (fun vs H Q E h => by obtain ⟨_, _, _, _, _, _, _, rfl, _⟩ := h; rfl) (fun _ _ _ _ _ _ us hl => match us, hl with | [_, _], _ => rfl) (fun cdv A outer s H vs Q E hr h => ?_)
  have hu1 := hu_of hr
  have hu64 := hr.units
  have hrN := roomN.of hr
  refine both (pss_cons (ps_set (i := 2) sc_loop_unlike.nd rfl (by first | exact .inl rfl | exact .inr rfl | exact .inr (.inl rfl) | exact .inr (.inr rfl)) (pe_fn h_loop_apart (hr.mono (by decide)) rfl (G.g (x := "loop_apart")) (pa_cons (pv 0) (pa_cons (pv 1) pa_nil))))
      (pss_one (ps_ret (pe_ifExp (pt_cmp (pc_isN (pv 2))) (pe_fn h_loop_apart (hr.mono (by decide)) rfl (G.g (x := "loop_apart")) (pa_cons (pv 1) (pa_cons (pv 0) pa_nil))) (pv 2))))) ?_
  obtain ⟨v1, v2, k, A1, B1, M, N, rfl, hv1, hv2, oA, oB, hk, hA10, hB10, q⟩ := h
  refine ⟨_, rfl, _, rfl, v1, v2, k, A1, B1, M, N, rfl, hv1, hv2, oA, oB, hk, hA10, hB10, fun H1 r e1 hr => ?_⟩
  rcases hr with ⟨u, v, ⟨p, rfl, h1⟩, h2, h3, h4⟩ | ⟨rfl, h1⟩
  · exact ⟨_, rfl, false, rfl, iteF ⟨_, rfl, q _ _ e1 (.inl ⟨u, v, ⟨p, rfl, h1⟩, .inl h2, h3, h4⟩)⟩⟩
  · refine ⟨_, rfl, true, rfl, iteT ⟨_, rfl, _, rfl, v2, v1, k, B1, A1, N, M, rfl, hv2.mono e1, hv1.mono e1, oB, oA, hk, hB10, hA10, fun H2 r e2 hr => ?_⟩⟩
    rcases hr with ⟨u, v, ⟨p, rfl, f1⟩, h2, h3, h4⟩ | ⟨rfl, f1⟩
    · exact q _ _ (e1.trans e2) (.inl ⟨u, v, ⟨p, rfl, f1⟩, .inr h2, h3, h4⟩)
    · exact q _ _ (e1.trans e2) (.inr ⟨rfl, h1, f1⟩)
theorem ok_unlike_loop (G : Gs K mg) (h_check_watchers : Fn P w K mg base 3 d_check_watchers p_check_watchers (sp_check_watchers K)) (h_loop_unlike : Fn P w K mg base 5 d_loop_unlike p_loop_unlike (sp_loop_unlike K)) : Fn P w K mg base 6 d_unlike_loop p_unlike_loop (sp_unlike_loop K) := by
  refine fn_mk G 31 rfl sc_unlike_loop (fun vs H Q E h => by obtain ⟨_, _, _, _, _, _, _, rfl, _⟩ := h; rfl) (fun _ _ _ _ _ _ us hl => match us, hl with | [_, _], _ => rfl) (fun cdv A outer s H vs Q E hr h => ?_)
  have hu1 := hu_of hr
  have hu64 := hr.units
  have hrN := roomN.of hr
  refine both (pss_cons (ps_expr (pe_fn h_check_watchers (hr.mono (by decide)) rfl (G.g (x := "check_watchers")) (pa_cons (pv 0) (pa_cons (pv 1) pa_nil))))
      (pss_one (ps_ret (pe_fn h_loop_unlike (hr.mono (by decide)) rfl (G.g (x := "loop_unlike")) (pa_cons (pv 0) (pa_cons (pv 1) pa_nil)))))) ?_
  obtain ⟨v1, v2, k, A1, B1, M, N, rfl, hv1, hv2, oA, oB, hk, hA10, hB10, q⟩ := h
  exact ⟨_, rfl, _, rfl, v1, v2, k, A1, B1, M, N, rfl, hv1, hv2, _, rfl, _, rfl, v1, v2, k, A1, B1, M, N, rfl, hv1, hv2, oA, oB, hk, hA10, hB10, q⟩
def sp_same_loops (K : PySem.W.Frag) : Sp := fun vs H Q _ => ∃ (v1 v2 : V) (k : Nat) (A B : RR.Arr) (M N : List Nat), vs = [v1, v2] ∧ InsAt (CW_ K) H v1 k A M ∧ InsAt (CW_ K) H v2 k B N ∧ RR.ArrOk k A ∧ RR.ArrOk k B ∧ k ≤ 8 ∧ A.length ≤ 10 ∧ B.length ≤ 10 ∧
  (∀ u v, ¬ RR.ApartSome A M B N u v ∧ ¬ RR.ApartSome B N A M u v) ∧ ∀ H', Same H H' → Q (.bl true) H'
theorem ok_same_loops (G : Gs K mg) (h_check_watchers : Fn P w K mg base 3 d_check_watchers p_check_watchers (sp_check_watchers K)) (h_loop_unlike : Fn P w K mg base 5 d_loop_unlike p_loop_unlike (sp_loop_unlike K)) : Fn P w K mg base 6 d_same_loops p_same_loops (sp_same_loops K) := by
  refine fn_mk G 32 rfl sc_same_loops (fun vs H Q E h => by obtain ⟨_, _, _, _, _, _, _, rfl, _⟩ := h; rfl) (fun _ _ _ _ _ _ us hl => match us, hl with | [_, _], _ => rfl) (fun cdv A outer s H vs Q E hr h => ?_)
  have hu1 := hu_of hr
  have hu64 := hr.units
  have hrN := roomN.of hr
  refine both (pss_cons (ps_expr (pe_fn h_check_watchers (hr.mono (by decide)) rfl (G.g (x := "check_watchers")) (pa_cons (pv 0) (pa_cons (pv 1) pa_nil))))
      (pss_one (ps_ret (pe_cmp (pc_isN (pe_fn h_loop_unlike (hr.mono (by decide)) rfl (G.g (x := "loop_unlike")) (pa_cons (pv 0) (pa_cons (pv 1) pa_nil)))))))) ?_
  obtain ⟨v1, v2, k, A1, B1, M, N, rfl, hv1, hv2, oA, oB, hk, hA10, hB10, no, q⟩ := h
  refine ⟨_, rfl, _, rfl, v1, v2, k, A1, B1, M, N, rfl, hv1, hv2, _, rfl, _, rfl, v1, v2, k, A1, B1, M, N, rfl, hv1, hv2, oA, oB, hk, hA10, hB10, fun H1 r e1 hr => ?_⟩
  rcases hr with ⟨u, v, _, h2, _⟩ | ⟨rfl, _⟩
  · rcases h2 with h2 | h2
    · exact absurd h2 (no u v).1
    · exact absurd h2 (no u v).2
  · exact q _ e1
end
end RK
/-! W10: stands that are reached. -/
namespace RK
open PySem PySem.Spec PyProof.Rows L2
/-- the keys' dict of True -/
def setK (E : List Nat) : List (Key × V) := E.map fun (q : Nat) => (.inl (q : Int), V.bl true)
theorem setK_val (E : List Nat) (q : Nat) : valV (setK E) (.inl (q : Int)) = if q ∈ E then some (.bl true) else none := by
  induction E with
  | nil => simp [setK, valV_nil]
  | cons x E ih =>
    show valV ((.inl (x : Int), V.bl true) :: setK E) _ = _
    by_cases h : x = q
    · subst h
      rw [valV_pos rfl]
      simp
    · rw [valV_neg (fun z => h (by have := Sum.inl.inj z; omega)), ih]
      simp [Ne.symm h]
theorem setK_put {E : List Nat} {q : Nat} (h : q ∉ E) : putK (setK E) (.inl (q : Int)) (.bl true) = setK (E ++ [q]) := by
  rw [putK_new _ (by rw [setK_val, if_neg h])]
  simp [setK]
theorem setK_len (E : List Nat) : (setK E).length = E.length := by simp [setK]
/-- rows of tuples or lists -/
def AnyAt (H : Hp) (v : V) (G : RR.Arr) : Prop := (ArrAt H v G) ∨ ∃ a, v = .ref a ∧ LlAt H a G
theorem AnyAt.mono {H H' : Hp} {v : V} {G : RR.Arr} (e : Same H H') (h : AnyAt H v G) : AnyAt H' v G := by
  rcases h with h | ⟨a, rfl, h⟩
  · exact .inl (h.mono (same_tups e))
  · exact .inr ⟨a, rfl, h.mono e⟩
theorem yes_ {σ : L2.St} {H : Hp} {A B : Hp → Prop} (h : A H) : tYes σ H (fun b H3 => if b = true then A H3 else B H3) := by
  show if true = true then A H else B H
  exact iteT h
/-- arrows[..], a row to walk through -/
theorem any_row {K : PySem.W.Frag} {ta tb : TE} {σ : L2.St} {H H2 H0 : Hp} {v : V} {G : RR.Arr} {q : Nat} (hta : ∀ Kt : VK, Kt v H → ta σ H Kt) (htb : ∀ Kt : VK, Kt (nv q) H2 → tb σ H Kt) (e0 : Same H0 H2) (hG : AnyAt H0 v G) (hq : q < G.length) {R : It → Hp → Prop}
    (h : ∀ (J : It) (Gd : Hp → Prop), Walk J G[q].length Gd (YAt (G[q].map onv)) → (∀ H', Same H0 H' → Gd H') → R J H2) :
    (iTup K (fun σ H Q => tOp (rIxT K) ta tb σ H Q ∨ tOp (rIxL K) ta tb σ H Q)) σ H R ∨ (iList K (fun σ H Q => tOp (rIxT K) ta tb σ H Q ∨ tOp (rIxL K) ta tb σ H Q)) σ H R := by
  have hl : (G[q].map onv).length = G[q].length := List.length_map _
  rcases hG with ⟨a, rs, rfl, ha, hlen, hz⟩ | ⟨a, rfl, hL⟩
  · have g1 : rs[q]? = some (rs[q]'(by omega)) := List.getElem?_eq_getElem (by omega)
    obtain ⟨b, e, hb⟩ := hz q _ _ g1 (List.getElem?_eq_getElem hq)
    rw [e] at g1
    exact .inl (.inl (hta _ (htb _ ⟨a, rs, _, _, rfl, rfl, sqT (e0 _ _ ha), atE rfl g1, b, rfl, ⟨_, sqT (e0 _ _ hb)⟩, h _ _ (hl ▸ walk_tup) fun H' e => sqT (e _ _ hb)⟩)))
  · obtain ⟨rs, b, h1, h2, h3⟩ := hL.row hq
    exact .inr (.inr (hta _ (htb _ ⟨a, rs, _, _, rfl, rfl, sqL (e0 _ _ h1), atE rfl h2, b, rfl, ⟨_, sqL (e0 _ _ h3)⟩, h _ _ (hl ▸ walk_list) fun H' e => sqL (e _ _ h3)⟩)))
theorem setK_keys (S : List Nat) : ((setK S).map fun kv => kV kv.1) = S.map nv := by simp [setK, nv, kV]
theorem setK_at {S : List Nat} {i : Nat} {k : Key} {v : V} (h : (setK S)[i]? = some (k, v)) : ∃ q, S[i]? = some q ∧ k = .inl (q : Int) := by
  unfold setK at h
  rw [List.getElem?_map] at h
  obtain ⟨q, hq, e⟩ := Option.map_eq_some_iff.mp h
  exact ⟨q, hq, by cases e; rfl⟩
theorem setK_step {S : List Nat} {i q : Nat} (nd : S.Nodup) (h : S[i]? = some q) : putK (setK (S.take i)) (.inl (q : Int)) (.bl true) = setK (S.take (i + 1)) := by
  rw [take_next h]
  refine setK_put fun hm => ?_
  obtain ⟨j, hj⟩ := List.mem_iff_getElem?.mp hm
  have hjl := (List.getElem?_eq_some_iff.mp hj).1
  rw [List.length_take] at hjl
  rw [List.getElem?_take_of_lt (by omega)] at hj
  have := nd_ix nd hj h
  omega
/-- {stand: True for stand in stands}, a list of stands -/
theorem dc_set {K : PySem.W.Frag} {te : TE} {j : Nat} {vs : List Nat} {σ : L2.St} {H H2 : Hp} {b : Addr} {S : List Nat} {Q : VK} (nd : S.Nodup) (hl : S.length ≤ 10000) (hte : ∀ Kt : VK, Kt (.ref b) H2 → te σ H Kt) (hb : H2 b = some (.lst (S.map nv)))
    (hw : ∀ x, wipe ((wipe σ vs).set j (some x)) vs = wipe σ vs) (hj : ∀ x, ((wipe σ vs).set j (some x))[j]? = some (some x)) (q : ∀ D H', H2 D = none → Same H2 H' → H' D = some (.dK (setK S)) → Q (.ref D) H') :
    tDc (iList K te) (gName j) tYes (tVar j) (tC (.bl true)) vs σ H Q := by
  refine hte _ ⟨b, rfl, ⟨_, sqL hb⟩, fun D hD => ?_⟩
  refine turns_walk walk_list (fun i H' => Same H2 H' ∧ H' D = some (.dK (setK (S.take i)))) ⟨same_new hD, by rw [upd_same]; rfl⟩ (fun i H' _ p => sqL (p.1 _ _ hb)) ?_ ?_
  · rintro i x _ H4 hi ⟨e4, h4⟩ ⟨rfl, hx⟩
    rw [List.getElem?_map] at hx
    obtain ⟨r, hr, rfl⟩ := Option.map_eq_some_iff.mp hx
    refine ⟨hw _, ?_⟩
    simp only [tYes, if_true]
    refine ⟨_, hj _, _, .inl (r : Int), rfl, h4, small ?_, same_mut e4 hD, ?_⟩
    · rw [setK_len, List.length_take]
      omega
    · rw [upd_same, setK_step nd hr]
  · rintro H4 ⟨e4, h4⟩
    rw [List.length_map, List.take_length] at h4
    exact q D H4 hD e4 h4
/-- the same, the keys of a dict, that is locked meanwhile -/
theorem dc_setK {te : TE} {i j : Nat} {vs : List Nat} {D : Ends} {σ : L2.St} {H : Hp} {b : Addr} {S : List Nat} (nd : S.Nodup) (hl : S.length ≤ 10000) (hte : ∀ (H : Hp) (Kt : VK), Kt (.ref b) H → te σ H Kt) (hb : H b = some (.dK (setK S)))
    (hw : ∀ x, wipe ((wipe σ vs).set j (some x)) vs = wipe σ vs) (hj : ∀ x, ((wipe σ vs).set j (some x))[j]? = some (some x)) (q : ∀ d H', H d = none → Same H H' → H' d = some (.dK (setK S)) → D.nx (σ.set i (some (.ref d))) H') :
    tLock (tAsg (tDc (iKeys te) (gName j) tYes (tVar j) (tC (.bl true)) vs) (gName i)) D σ H := by
  refine ⟨b, _, hb, True.intro, fun od => hte _ _ ⟨b, od, rfl, .inl ⟨setK S, upd_same, fun d hd => ?_⟩⟩⟩
  have hdb : d ≠ b := fun z => by rw [z, upd_same] at hd; cases hd
  have hd0 : H d = none := by rw [upd_ne hdb] at hd; exact hd
  refine turns_walk walk_keys (fun i H' => Same (upd H b (.frz od (.dK (setK S)))) H' ∧ H' d = some (.dK (setK (S.take i)))) ⟨same_new hd, by rw [upd_same]; rfl⟩ (fun i H' _ p => p.1 _ _ upd_same) ?_ ?_
  · rintro i x _ H4 hi ⟨e4, h4⟩ ⟨rfl, k, v, hx, rfl⟩
    obtain ⟨r, hr, rfl⟩ := setK_at hx
    refine ⟨hw _, ?_⟩
    simp only [tYes, if_true]
    refine ⟨_, hj _, _, .inl (r : Int), rfl, h4, small ?_, same_mut e4 hd, ?_⟩
    · rw [setK_len, List.length_take]
      omega
    · rw [upd_same, setK_step nd hr]
  · rintro H4 ⟨e4, h4⟩
    rw [setK_len, List.take_length] at h4
    refine ⟨e4 _ _ upd_same, q d _ hd0 (fun a o ha => ?_) (by rw [upd_ne hdb]; exact h4)⟩
    by_cases hab : a = b
    · subst hab
      rw [upd_same, ← ha, hb]
    · rw [upd_ne hab]
      exact e4 _ _ (by rw [upd_ne hab]; exact ha)
section
variable {P : Program} {w : World} {K : PySem.W.Frag} {mg : Str → Option Value} {base : Heap}
def sp_reached (K : PySem.W.Frag) : Sp := fun vs H Q _ => ∃ (v : V) (b : Addr) (G : RR.Arr) (S : List Nat), vs = [v, .ref b] ∧ AnyAt H v G ∧ (H b = some (.lst (S.map nv)) ∨ H b = some (.dK (setK S))) ∧ S.Nodup ∧ (∀ s ∈ S, s < G.length) ∧ (∀ r ∈ G, ∀ q, some q ∈ r → q < G.length) ∧ G.length ≤ 200 ∧ (∀ r ∈ G, r.length ≤ 2000) ∧
  ∀ H' d seen, Same H H' → H' d = some (.dK (setK seen)) → (∀ q, q ∈ seen ↔ RR.Rch G S q) → Q (.ref d) H'
theorem ok_reached (G : Gs K mg) : Fn P w K mg base 1 d_reached p_reached (sp_reached K) := by
  refine fn_mk G 10 rfl sc_reached (fun vs H Q E h => by obtain ⟨_, _, _, _, rfl, _⟩ := h; rfl) (fun _ _ _ _ _ _ us hl => match us, hl with | [_, _], _ => rfl) (fun cdv A outer s H vs Q E hr h => ?_)
  have hu1 := hu_of hr
  have hu64 := hr.units
  have hrN := roomN.of hr
  refine both (pss_cons (PS.or (ps_setDc (i := 2) rfl sc_reached.nd rfl rfl rfl (pi_listK rfl (pv 1)) (blkOk_by (own := [("stand", 3)]) (by first | (show blkC n_reached (defScope s_reached) _ _ = true; decide +kernel) | rfl)) (fun _ _ _ _ _ => (pg_name sc_reached.nd (i := 3) rfl (by first | exact .inl rfl | exact .inr rfl | exact .inr (.inl rfl) | exact .inr (.inr rfl)))) (fun _ _ _ _ _ => pts_nil) (fun _ _ _ _ _ => (pv 3)) (fun _ _ _ _ _ => pe_bl)) (ps_lock (ps_setDc (i := 2) rfl sc_reached.nd rfl rfl rfl (pi_keys (pv 1)) (blkOk_by (own := [("stand", 3)]) (by first | (show blkC n_reached (defScope s_reached) _ _ = true; decide +kernel) | rfl)) (fun _ _ _ _ _ => (pg_name sc_reached.nd (i := 3) rfl (by first | exact .inl rfl | exact .inr rfl | exact .inr (.inl rfl) | exact .inr (.inr rfl)))) (fun _ _ _ _ _ => pts_nil) (fun _ _ _ _ _ => (pv 3)) (fun _ _ _ _ _ => pe_bl))))
      (pss_cons (ps_set (i := 4) sc_reached.nd rfl (by first | exact .inl rfl | exact .inr rfl | exact .inr (.inl rfl) | exact .inr (.inr rfl)) (PE.or (pe_callTy (call_listK rfl) rfl (G.f (x := "list")) bo_list (pa_cons (pv 1) pa_nil)) (pe_callTy (call_list_dK rfl) rfl (G.f (x := "list")) bo_list (pa_cons (pv 1) pa_nil))))
      (pss_cons (ps_while PassesOwn.never (pt_cmpR op_gt (pe_callB (call_lenK rfl) rfl (G.f (x := "len")) bo_len (pa_cons (pv 4) pa_nil)) pe_int (nomark _)) (pss_one (ps_for PassesOwn.never rfl (PI.or (pi_tupK rfl (PE.or (pe_ix (ix_tupK rfl) (pv 0) (pe_bm0K rfl PySem.F.plainAttrs_list PySem.F.slot_list_pop PySem.F.type_list_pop mt_pop (pv 4)) (fun _ _ => rfl)) (pe_ix (ix_listK rfl) (pv 0) (pe_bm0K rfl PySem.F.plainAttrs_list PySem.F.slot_list_pop PySem.F.type_list_pop mt_pop (pv 4)) (fun _ _ => rfl)))) (pi_listK rfl (PE.or (pe_ix (ix_tupK rfl) (pv 0) (pe_bm0K rfl PySem.F.plainAttrs_list PySem.F.slot_list_pop PySem.F.type_list_pop mt_pop (pv 4)) (fun _ _ => rfl)) (pe_ix (ix_listK rfl) (pv 0) (pe_bm0K rfl PySem.F.plainAttrs_list PySem.F.slot_list_pop PySem.F.type_list_pop mt_pop (pv 4)) (fun _ _ => rfl))))) (pg_name sc_reached.nd (i := 5) rfl (by first | exact .inl rfl | exact .inr rfl | exact .inr (.inl rfl) | exact .inr (.inr rfl))) (pss_one (ps_if (PW.pt (pw_and (pt_cmp (pc_notN (pv 5))) (pw_and1 (pt_cmp (pc_dnotinN hu1 (pv 5) (pv 2)))))) (pss_cons (ps_dput hu1 (pv 2) (pv 5) pe_bl rfl)
      (pss_one (ps_expr (pe_bmK rfl PySem.F.plainAttrs_list PySem.F.slot_list_append PySem.F.type_list_append mt_append (pv 4) (pa_cons (pv 5) pa_nil))))) pss_nil)))))
      (pss_one (ps_ret (pv 2)))))) ?_
  obtain ⟨v, b, G2, S, rfl, hG, hb, nd, hS, hr, h200, hw, q⟩ := h
  have hSl : S.length ≤ G2.length := by
    have := RR.nodup_len nd (m := List.range G2.length) fun x hx => List.mem_range.mpr (hS x hx)
    simpa using this
  refine (fun (rest : ∀ d H', H d = none → Same H H' → H' d = some (.dK (setK S)) → _) => hb.elim (fun hb => .inl (dc_set nd (by omega) (fun Kt h => ⟨_, rfl, h⟩) hb (fun _ => rfl) (fun _ => rfl) rest)) (fun hb => .inr (dc_setK nd (by omega) (fun H Kt h => ⟨_, rfl, h⟩) hb (fun _ => rfl) (fun _ => rfl) rest))) ?_
  intro d H1 hd0 e1 h1
  refine (fun (rest : ∀ l, H1 l = none → _) => hb.elim (fun hb => .inl ⟨_, rfl, b, _, rfl, .inl (sqL (e1 _ _ hb)), rest⟩) (fun hb => .inr ⟨_, rfl, b, _, rfl, e1 _ _ hb, fun l hl => by rw [setK_keys]; exact rest l hl⟩)) ?_
  intro l hl
  have hdl : d ≠ l := ne_of_none h1 hl
  have hl0 : H l = none := by
    cases z : H l with
    | none => rfl
    | some o => have := e1 _ _ z; rw [hl] at this; cases this
  obtain ⟨Pv, hPv⟩ : ∃ Pv : Nat → L2.St → Hp → Prop, ∀ m σ' H', Pv m σ' H' ↔ ∃ (seen line : List Nat) (z3 z5 : Option V), 2 * (G2.length - seen.length) + line.length ≤ m ∧ Same H H' ∧ σ' = [some v, some (.ref b), some (.ref d), z3, some (.ref l), z5] ∧ H' d = some (.dK (setK seen)) ∧ H' l = some (.lst (line.map nv)) ∧
    seen.Nodup ∧ (∀ x ∈ seen, x < G2.length ∧ RR.Rch G2 S x) ∧ (∀ x ∈ S, x ∈ seen) ∧ (∀ x ∈ line, x ∈ seen) ∧ line.length ≤ seen.length ∧ (∀ x ∈ seen, x ∉ line → ∀ g, some g ∈ G2.getD x [] → g ∈ seen) := ⟨_, fun _ _ _ => Iff.rfl⟩
  refine ⟨Pv, ⟨_, (hPv _ _ _).mpr ⟨S, S, _, _, Nat.le_refl _, e1.trans (same_new hl), rfl, by rw [upd_ne hdl]; exact h1, upd_same, nd, fun x hx => ⟨hS x hx, .base hx⟩, fun x hx => hx, fun x hx => hx, Nat.le_refl _, fun x h1 h2 => absurd h1 h2⟩⟩, ?_⟩
  intro m σ' H' hp
  obtain ⟨seen, line, z3, z5, hm, e2, rfl, k1, k2, snd, srg, sS, sl, sll, scl⟩ := (hPv _ _ _).mp hp
  have hsn : seen.length ≤ G2.length := by
    have := RR.nodup_len snd (m := List.range G2.length) fun x hx => List.mem_range.mpr (srg x hx).1
    simpa using this
  refine ⟨_, rfl, l, _, rfl, .inl (sqL k2), _, _, rfl, rfl, _, rfl, ?_⟩
  rcases List.eq_nil_or_concat line with rfl | ⟨line', x, rfl⟩
  · refine iteF ⟨_, rfl, q _ d seen e2 k1 (RR.rch_closed sS (fun x hx g hg => scl x hx (by simp) g hg) fun x hx => (srg x hx).2)⟩
  · rw [List.concat_eq_append] at *
    rw [decide_eq_true (by rw [List.length_map, List.length_append]; simp)]
    have hx := sl x (by simp)
    have hxr := (srg x hx).1
    have hrl := hw G2[x] (List.getElem_mem hxr)
    have k1' : upd H' l (.lst ((line' ++ [x]).map nv).dropLast) d = some (.dK (setK seen)) := by rw [upd_ne hdl]; exact k1
    have k2' : upd H' l (.lst ((line' ++ [x]).map nv).dropLast) l = some (.lst (line'.map nv)) := by rw [upd_same, List.map_append]; simp
    have e3 : Same H (upd H' l (.lst ((line' ++ [x]).map nv).dropLast)) := same_mut e2 hl0
    generalize hH3 : upd H' l (.lst ((line' ++ [x]).map nv).dropLast) = H3 at e3 k1' k2'
    refine iteT ⟨fun σ' H' => ∃ m', m' < m ∧ Pv m' σ' H', fun _ _ h => h, any_row (H2 := H3) (v := v) (G := G2) (q := x) (fun Kt h => ⟨_, rfl, h⟩) (fun Kt h => ⟨_, rfl, .inl ⟨rfl, _, sqL k2⟩, l, _, nv x, rfl, rfl, k2, by simp, by rw [hH3]; exact h⟩) e3 hG hxr fun J Gd wk hGd => ?_⟩
    refine for_it wk (fun i σ' H' => ∃ (seen2 line2 : List Nat) (z3 z5 : Option V), 2 * (G2.length - seen2.length) + line2.length ≤ m - 1 ∧ Same H H' ∧ σ' = [some v, some (.ref b), some (.ref d), z3, some (.ref l), z5] ∧ H' d = some (.dK (setK seen2)) ∧ H' l = some (.lst (line2.map nv)) ∧
      seen2.Nodup ∧ (∀ x ∈ seen2, x < G2.length ∧ RR.Rch G2 S x) ∧ (∀ x ∈ S, x ∈ seen2) ∧ (∀ x ∈ line2, x ∈ seen2) ∧ line2.length ≤ seen2.length ∧ x ∈ seen2 ∧ (∀ y ∈ seen2, y ∉ line2 → y ≠ x → ∀ g, some g ∈ G2.getD y [] → g ∈ seen2) ∧ (∀ p g, p < i → G2[x][p]? = some (some g) → g ∈ seen2)) ?_ ?_ ?_ ?_
    · refine ⟨seen, line', z3, z5, by simp at hm; omega, e3, rfl, k1', k2', snd, srg, sS, fun y hy => sl y (by simp [hy]), by simp at sll; omega, hx, fun y h1 h2 h3 => scl y h1 (by simp [h2, h3]), fun p g h => absurd h (by omega)⟩
    · rintro i σ' H4 _ ⟨_, _, _, _, _, e, _⟩
      exact hGd _ e
    · rintro i y σ' _ H4 hi ⟨seen2, line2, w3, w5, hm2, e4, rfl, f1, f2, f3, f4, f5, f6, f7, f8, f9, f10⟩ ⟨rfl, hy⟩
      rw [List.getElem?_map] at hy
      obtain ⟨o, ho, rfl⟩ := Option.map_eq_some_iff.mp hy
      refine ⟨_, rfl, _, rfl, ?_⟩
      cases o with
      | none =>
        refine iteF (iteF ⟨seen2, line2, w3, _, hm2, e4, rfl, f1, f2, f3, f4, f5, f6, f7, f8, f9, fun p g hp hg => ?_⟩)
        by_cases hpi : p < i
        · exact f10 p g hpi hg
        · have : p = i := by omega
          subst this
          rw [ho] at hg
          cases hg
      | some g =>
        refine iteT ⟨_, rfl, _, rfl, .inl ⟨d, _, rfl, DGet.k (k := .inl (g : Int)) f1, _, rfl, ?_⟩⟩
        rw [setK_val]
        have hgm : some g ∈ G2.getD x [] := by
          rw [RR.getD_row hxr]
          exact List.mem_of_getElem? ho
        by_cases hin : g ∈ seen2
        · rw [if_pos hin]
          refine iteF ⟨seen2, line2, w3, _, hm2, e4, rfl, f1, f2, f3, f4, f5, f6, f7, f8, f9, fun p g2 hp hg => ?_⟩
          by_cases hpi : p < i
          · exact f10 p g2 hpi hg
          · have : p = i := by omega
            subst this
            rw [ho] at hg
            cases hg
            exact hin
        · rw [if_neg hin]
          have hgl : g < G2.length := hr G2[x] (List.getElem_mem hxr) g (List.mem_of_getElem? ho)
          have f3' : (seen2 ++ [g]).Nodup := by
            rw [List.nodup_append]
            refine ⟨f3, by simp, fun a ha c hc e => ?_⟩
            simp at hc
            subst hc e
            exact hin ha
          have hsn2 : (seen2 ++ [g]).length ≤ G2.length := by
            have := RR.nodup_len f3' (m := List.range G2.length) fun y hy => List.mem_range.mpr (by
              rcases List.mem_append.mp hy with hy | hy
              · exact (f4 y hy).1
              · simp at hy
                subst hy
                exact hgl)
            simpa using this
          have hsn3 : seen2.length + 1 ≤ G2.length := by simpa using hsn2
          refine iteT ⟨_, rfl, _, rfl, d, _, rfl, DPut.k (k := .inl (g : Int)) f1 (small (by rw [setK_len]; omega)), ?_⟩
          rw [setK_put hin]
          have f2' : upd H4 d (.dK (setK (seen2 ++ [g]))) l = some (.lst (line2.map nv)) := by rw [upd_ne (Ne.symm hdl)]; exact f2
          refine ⟨_, rfl, .inl ⟨rfl, _, sqL f2'⟩, _, rfl, l, _, _, rfl, rfl, f2', small (by rw [List.length_map]; omega), ?_⟩
          refine ⟨seen2 ++ [g], line2 ++ [g], w3, _, by simp; omega, same_mut (same_mut e4 hd0) hl0, rfl, by rw [upd_ne hdl, upd_same], by rw [upd_same, List.map_append]; rfl, f3', fun y hy => ?_, fun y hy => List.mem_append_left _ (f5 y hy), fun y hy => ?_, by simp; omega, List.mem_append_left _ f8, fun y hy hny hyx g2 hg2 => ?_, fun p g2 hp hg2 => ?_⟩
          · rcases List.mem_append.mp hy with hy | hy
            · exact f4 y hy
            · simp at hy
              subst hy
              exact ⟨hgl, .step (f4 x f8).2 hgm⟩
          · rcases List.mem_append.mp hy with hy | hy
            · exact List.mem_append_left _ (f6 y hy)
            · exact List.mem_append_right _ hy
          · rcases List.mem_append.mp hy with hy | hy
            · exact List.mem_append_left _ (f9 y hy (fun h => hny (List.mem_append_left _ h)) hyx g2 hg2)
            · exact absurd (List.mem_append_right _ hy) hny
          · by_cases hpi : p < i
            · exact List.mem_append_left _ (f10 p g2 hpi hg2)
            · have : p = i := by omega
              subst this
              rw [ho] at hg2
              cases hg2
              simp
    · rintro σ' H4 ⟨seen2, line2, w3, w5, hm2, e4, rfl, f1, f2, f3, f4, f5, f6, f7, f8, f9, f10⟩
      have hm1 : 1 ≤ m := by simp at hm; omega
      refine ⟨m - 1, by omega, (hPv _ _ _).mpr ⟨seen2, line2, w3, w5, hm2, e4, rfl, f1, f2, f3, f4, f5, f6, f7, fun y h1 h2 g hg => ?_⟩⟩
      by_cases hyx : y = x
      · subst hyx
        rw [RR.getD_row hxr] at hg
        obtain ⟨p, hp⟩ := List.mem_iff_getElem?.mp hg
        exact f10 p g (List.getElem?_eq_some_iff.mp hp).1 hp
      · exact f9 y h1 h2 hyx g hg
def sp_turned_back (K : PySem.W.Frag) : Sp := fun vs H Q _ => ∃ (v : V) (k : Nat) (A : RR.Arr), vs = [v] ∧ ArrAt H v A ∧ RR.ArrOk k A ∧ k ≤ 8 ∧ A.length ≤ 200 ∧
  ∀ H' l B, Same H H' → LlAt H' l B → B.length = A.length → RR.Backs A B → (∀ r ∈ B, r.length ≤ 2000 ∧ ∀ q, some q ∈ r → q < B.length) → Q (.ref l) H'
/-- lists at places of their own that hold the stands told by c -/
def BkAt (H : Hp) (D : Addr) (bs : List Addr) (c : Nat → List Nat) : Prop := H D = some (.lst (bs.map V.ref)) ∧ ∀ q b, bs[q]? = some b → H b = some (.lst ((c q).map nv))
theorem ok_turned_back (G : Gs K mg) : Fn P w K mg base 1 d_turned_back p_turned_back (sp_turned_back K) := by
  refine fn_mk G 11 rfl sc_turned_back (fun vs H Q E h => by obtain ⟨_, _, _, rfl, _⟩ := h; rfl) (fun _ _ _ _ _ _ us hl => match us, hl with | [_], _ => rfl) (fun cdv A outer s H vs Q E hr h => ?_)
  have hu1 := hu_of hr
  have hu64 := hr.units
  have hrN := roomN.of hr
  refine both (pss_cons (ps_setLc (i := 1) rfl sc_turned_back.nd rfl rfl rfl (pi_tupK rfl (pv 0)) (blkOk_by (own := [("row", 2)]) (by first | (show blkC n_turned_back (defScope s_turned_back) _ _ = true; decide +kernel) | rfl)) (fun _ _ _ _ _ => (pg_name sc_turned_back.nd (i := 2) rfl (by first | exact .inl rfl | exact .inr rfl | exact .inr (.inl rfl) | exact .inr (.inr rfl)))) (fun _ _ _ _ _ => pts_nil) (fun _ _ _ _ _ => (pe_lst pa_nil)))
      (pss_cons (ps_for PassesOwn.never rfl (pi_enumTK rfl rfl (G.f (x := "enumerate")) (pa_cons (pv 0) pa_nil)) (pg_tupK (n := 2) rfl rfl (pgs_cons (pg_name sc_turned_back.nd (i := 3) rfl (by first | exact .inl rfl | exact .inr rfl | exact .inr (.inl rfl) | exact .inr (.inr rfl))) (pgs_cons (pg_name sc_turned_back.nd (i := 2) rfl (by first | exact .inl rfl | exact .inr rfl | exact .inr (.inl rfl) | exact .inr (.inr rfl))) pgs_nil))) (pss_one (ps_for PassesOwn.never rfl (pi_tupK rfl (pv 2)) (pg_name sc_turned_back.nd (i := 4) rfl (by first | exact .inl rfl | exact .inr rfl | exact .inr (.inl rfl) | exact .inr (.inr rfl))) (pss_one (ps_if (pt_cmp (pc_notN (pv 4))) (pss_one (ps_expr (pe_bmK rfl PySem.F.plainAttrs_list PySem.F.slot_list_append PySem.F.type_list_append mt_append (pe_ix (ix_listK rfl) (pv 1) (pv 4) (fun _ _ => rfl)) (pa_cons (pv 3) pa_nil)))) pss_nil)))))
      (pss_one (ps_ret (pv 1))))) ?_
  obtain ⟨v, k, B, rfl, ⟨a, rs, rfl, ha, hl, hz⟩, ok, hk, h200, q⟩ := h
  refine ⟨_, rfl, a, rfl, ⟨rs, sqT ha⟩, fun D hD => ?_⟩
  refine lc_it walk_tup (fun i H' => Same H H' ∧ ∃ bs : List Addr, H' D = some (.lst (bs.map V.ref)) ∧ bs.length = i ∧ bs.Nodup ∧ D ∉ bs ∧ ∀ b ∈ bs, H b = none ∧ H' b = some (.lst [])) ⟨same_new hD, [], by rw [upd_same]; rfl, rfl, List.nodup_nil, by simp, fun b h => by simp at h⟩ (fun i H' _ p => sqT (p.1 _ _ ha)) ?_ ?_
  · rintro i x _ H4 hi ⟨e4, bs, f1, f2, f3, f4, f5⟩ ⟨rfl, hx⟩
    refine ⟨rfl, yes_ ⟨Evl.sz_of (show 0 ≤ 100000 by decide), fun b hb => ⟨_, by rw [upd_ne (ne_of_none f1 hb)]; exact f1, small (by simp; omega), same_mut (e4.trans (same_new hb)) hD, bs ++ [b], by rw [upd_same, List.map_append]; rfl, by simp [f2], ?_, ?_, fun c hc => ?_⟩⟩⟩
    · rw [List.nodup_append]
      refine ⟨f3, by simp, fun y hy z hz e => ?_⟩
      simp at hz
      subst hz e
      rw [(f5 y hy).2] at hb
      cases hb
    · intro h
      rcases List.mem_append.mp h with h | h
      · exact f4 h
      · simp at h
        rw [← h, f1] at hb
        cases hb
    · have hcD : c ≠ D := fun z => by
        rw [z] at hc
        rcases List.mem_append.mp hc with h | h
        · exact f4 h
        · simp at h
          rw [← h, f1] at hb
          cases hb
      rw [upd_ne hcD]
      rcases List.mem_append.mp hc with h | h
      · obtain ⟨g1, g2⟩ := f5 c h
        exact ⟨g1, by rw [upd_ne (ne_of_none g2 hb)]; exact g2⟩
      · simp at h
        subst h
        refine ⟨?_, upd_same⟩
        cases z : H c with
        | none => rfl
        | some o => have := e4 _ _ z; rw [hb] at this; cases this
  rintro H1 ⟨e1, bs, b1, b2, b3, b4, b5⟩
  have bH : ∀ (H' : Hp) (c : Nat → List Nat), BkAt H' D bs c → ∀ (x y : Nat) (b : Addr), bs[x]? = some b → BkAt (upd H' b (.lst (((c x) ++ [y]).map nv))) D bs (fun z => if z = x then c x ++ [y] else c z) := by
    rintro H' c ⟨c1, c2⟩ x y b hb
    refine ⟨?_, fun z b2 hb2 => ?_⟩
    · rw [upd_ne (fun e => b4 (by rw [e]; exact List.mem_of_getElem? hb))]
      exact c1
    · by_cases hzx : z = x
      · subst hzx
        rw [hb] at hb2
        cases hb2
        rw [upd_same]
        simp
      · have hne : b2 ≠ b := fun e => hzx (nd_ix b3 (by rw [hb2, e]) hb)
        rw [upd_ne hne, c2 z b2 hb2]
        simp [hzx]
  refine ⟨_, rfl, a, rs, rfl, sqT (e1 _ _ ha), ?_⟩
  refine for_it walk_enumT (fun i σ' H' => Same H H' ∧ ∃ (c : Nat → List Nat) (z2 z3 z4 : Option V), σ' = [some (.ref a), some (.ref D), z2, z3, z4] ∧ BkAt H' D bs c ∧ ∀ q, (c q).length ≤ i * 8 ∧ ∀ s', s' ∈ c q ↔ s' < i ∧ ∃ p, RR.goalAt B s' p = some q) ⟨e1, fun _ => [], none, none, none, rfl, ⟨b1, fun q b hb => (b5 b (List.mem_of_getElem? hb)).2⟩, fun q => ⟨by simp, fun s' => by simp⟩⟩ (fun i σ' H' _ e => sqT (e.1 _ _ ha)) ?_ ?_
  · rintro i x σ' H2 _ hi ⟨e2, c, z2, z3, z4, rfl, hc, hm⟩ ⟨T, y1, y2, rfl, hT, rfl, hx, hy⟩
    cases hx
    obtain ⟨r, hr, b, rfl, hb⟩ := ArrAt.row hl hz hy
    have hiB : i < B.length := (List.getElem?_eq_some_iff.mp hr).1
    have hrl := ok.wid r (List.mem_of_getElem? hr)
    have hri : r = B[i] := by rw [List.getElem?_eq_getElem hiB] at hr; exact (Option.some.inj hr).symm
    have e3 : Same H (upd H2 T (.tup [.int (i : Nat), .ref b])) := e2.trans (same_new hT)
    have hc3 : BkAt (upd H2 T (.tup [.int (i : Nat), .ref b])) D bs c := ⟨by rw [upd_ne (ne_of_none hc.1 hT)]; exact hc.1, fun q b2 hb2 => by rw [upd_ne (ne_of_none (hc.2 q b2 hb2) hT)]; exact hc.2 q b2 hb2⟩
    refine ⟨T, _, rfl, sqT upd_same, rfl, _, _, rfl, _, _, rfl, rfl, _, rfl, b, rfl, ⟨_, sqT (e3 _ _ hb)⟩, ?_⟩
    refine for_it walk_tup (fun j σ' H' => Same H H' ∧ ∃ (c : Nat → List Nat) (z4 : Option V), σ' = [some (.ref a), some (.ref D), some (.ref b), some (nv i), z4] ∧ BkAt H' D bs c ∧ ∀ q, (c q).length ≤ i * 8 + j ∧ ∀ s', s' ∈ c q ↔ (s' < i ∧ ∃ p, RR.goalAt B s' p = some q) ∨ (s' = i ∧ ∃ p, p < j ∧ r[p]? = some (some q))) ⟨e3, c, _, rfl, hc3, fun q => ⟨(hm q).1, fun s' => by rw [(hm q).2]; simp⟩⟩ (fun j σ' H' _ e => sqT (e.1 _ _ hb)) ?_ ?_
    · rintro j y σ' _ H4 hj ⟨e4, c4, w4, rfl, hc4, hm4⟩ ⟨rfl, hy⟩
      rw [List.getElem?_map] at hy
      obtain ⟨o, ho, rfl⟩ := Option.map_eq_some_iff.mp hy
      have grow : ∀ (c5 : Nat → List Nat), (∀ q, (c5 q).length ≤ i * 8 + (j + 1)) → (∀ q s', s' ∈ c5 q ↔ s' ∈ c4 q ∨ (s' = i ∧ o = some q)) → ∀ q, (c5 q).length ≤ i * 8 + (j + 1) ∧ ∀ s', s' ∈ c5 q ↔ (s' < i ∧ ∃ p, RR.goalAt B s' p = some q) ∨ (s' = i ∧ ∃ p, p < j + 1 ∧ r[p]? = some (some q)) := by
        intro c5 h1 h2 q
        refine ⟨h1 q, fun s' => ?_⟩
        rw [h2, (hm4 q).2]
        constructor
        · rintro ((h | ⟨h, p, hp, hq⟩) | ⟨h, h3⟩)
          · exact .inl h
          · exact .inr ⟨h, p, by omega, hq⟩
          · exact .inr ⟨h, j, by omega, by rw [ho, h3]⟩
        · rintro (h | ⟨h, p, hp, hq⟩)
          · exact .inl (.inl h)
          · by_cases hpj : p < j
            · exact .inl (.inr ⟨h, p, hpj, hq⟩)
            · have : p = j := by omega
              subst this
              rw [ho] at hq
              exact .inr ⟨h, Option.some.inj hq⟩
      refine ⟨_, rfl, _, rfl, ?_⟩
      cases o with
      | none => exact iteF ⟨e4, c4, _, rfl, hc4, grow c4 (fun q => by have := (hm4 q).1; omega) fun q s' => by simp⟩
      | some g =>
        have hg : g < B.length := ok.rng r (List.mem_of_getElem? hr) g (List.mem_of_getElem? ho)
        have hbg : bs[g]? = some (bs[g]'(by omega)) := List.getElem?_eq_getElem (by omega)
        have h8 := (hm4 g).1
        have hlen : i * 8 ≤ 200 * 8 := Nat.mul_le_mul_right 8 (by omega)
        rw [List.length_map] at hj
        refine iteT ⟨_, rfl, _, rfl, D, _, _, .ref (bs[g]'(by omega)), rfl, rfl, sqL hc4.1, atE (j := g) rfl (by rw [List.getElem?_map, hbg]; rfl), .inl ⟨rfl, _, sqL (hc4.2 g _ hbg)⟩, _, rfl, _, _, _, rfl, rfl, hc4.2 g _ hbg, small (by rw [List.length_map]; omega), ?_⟩
        have hH : H (bs[g]'(by omega)) = none := (b5 _ (List.mem_of_getElem? hbg)).1
        have hb7 := bH H4 c4 hc4 g i _ hbg
        rw [List.map_append] at hb7
        refine ⟨same_mut e4 hH, _, _, rfl, hb7, grow _ (fun q => ?_) fun q s' => ?_⟩
        · by_cases hq : q = g
          · subst hq
            simp
            omega
          · simp [hq]
            have := (hm4 q).1
            omega
        · by_cases hq : q = g
          · subst hq
            simp
          · simp [hq]
            intro _ h
            exact absurd h.symm hq
    · rintro σ' H4 ⟨e4, c4, w4, rfl, hc4, hm4⟩
      rw [List.length_map, hrl] at hm4
      refine ⟨e4, c4, _, _, _, rfl, hc4, fun q => ⟨by have := (hm4 q).1; omega, fun s' => ?_⟩⟩
      rw [(hm4 q).2]
      have key : (∃ p, p < k ∧ r[p]? = some (some q)) ↔ ∃ p, RR.goalAt B i p = some q := by
        constructor
        · rintro ⟨p, hp, h⟩
          refine ⟨p, ?_⟩
          have hpl : p < B[i].length := by rw [← hri]; omega
          rw [goalAt_get hiB hpl]
          subst hri
          rw [List.getElem?_eq_getElem (by omega)] at h
          exact Option.some.inj h
        · rintro ⟨p, h⟩
          by_cases hp : p < k
          · have hpl : p < B[i].length := by rw [← hri]; omega
            rw [goalAt_get hiB hpl] at h
            refine ⟨p, hp, ?_⟩
            subst hri
            rw [List.getElem?_eq_getElem (by omega), h]
          · rw [RR.goalAt_sign ok (by omega)] at h
            cases h
      rw [key]
      constructor
      · rintro (⟨h1, h2⟩ | ⟨h1, h2⟩)
        · exact ⟨by omega, h2⟩
        · subst h1
          exact ⟨by omega, h2⟩
      · rintro ⟨h1, h2⟩
        by_cases h : s' < i
        · exact .inl ⟨h, h2⟩
        · have : s' = i := by omega
          subst this
          exact .inr ⟨rfl, h2⟩
  · rintro σ' H2 ⟨e2, c, z2, z3, z4, rfl, hc, hm⟩
    rw [hl] at hm
    have hB2 : ∀ q s', some s' ∈ ((List.range B.length).map fun q => (c q).map some).getD q [] ↔ q < B.length ∧ s' ∈ c q := by
      intro q s'
      rw [List.getD_eq_getElem?_getD, List.getElem?_map]
      by_cases hq : q < B.length
      · rw [List.getElem?_range hq]
        simp [hq]
      · rw [List.getElem?_eq_none (by simp; omega)]
        simp [hq]
    refine ⟨_, rfl, q _ D ((List.range B.length).map fun q => (c q).map some) e2 ⟨bs.map V.ref, hc.1, by simp [b2, hl], fun i x r h1 h2 => ?_⟩ (by simp) (fun q s' => ?_) fun r hr => ?_⟩
    · rw [List.getElem?_map] at h1
      obtain ⟨b, hb, rfl⟩ := Option.map_eq_some_iff.mp h1
      rw [List.getElem?_map] at h2
      obtain ⟨q', hq', rfl⟩ := Option.map_eq_some_iff.mp h2
      have hib := (List.getElem?_eq_some_iff.mp hb).1
      rw [List.getElem?_range (by omega)] at hq'
      cases hq'
      refine ⟨b, rfl, ?_⟩
      rw [hc.2 i b hb, List.map_map]
      rfl
    · rw [hB2, (hm q).2]
      constructor
      · rintro ⟨_, _, h⟩
        exact h
      · rintro ⟨p, h⟩
        refine ⟨RR.goalAt_lt ok h, ?_, p, h⟩
        by_cases hs : s' < B.length
        · exact hs
        · rw [RR.goalAt_out (by omega)] at h
          cases h
    · obtain ⟨q', hq', rfl⟩ := List.mem_map.mp hr
      have h8 := (hm q').1
      have hlen : B.length * 8 ≤ 200 * 8 := Nat.mul_le_mul_right 8 h200
      refine ⟨by rw [List.length_map]; omega, fun x hx => ?_⟩
      obtain ⟨y, hy, e⟩ := List.mem_map.mp hx
      cases e
      rw [List.length_map, List.length_range]
      exact ((hm q').2 x |>.mp hy).1
/-- the stands that are reached and lead on to an end -/
def sp_useful_of (K : PySem.W.Frag) : Sp := fun vs H Q _ => ∃ (v : V) (d : Addr) (k : Nat) (A : RR.Arr) (E : List Nat), vs = [v, .ref d] ∧ ArrAt H v A ∧ H d = some (.dK (setK E)) ∧ RR.ArrOk k A ∧ k ≤ 8 ∧ A.length ≤ 200 ∧ E.Nodup ∧ (∀ e ∈ E, e < A.length) ∧
  ∀ H' l (p : Nat → Bool), Same H H' → H' l = some (.lst (((List.range A.length).filter p).map nv)) → (∀ q, q < A.length → (p q = true ↔ (∃ u, RR.run A (some 0) u = some q) ∧ ∃ u, RR.lang A E (some q) u = true)) → Q (.ref l) H'
theorem ok_useful_of (G : Gs K mg) (h_reached : Fn P w K mg base 1 d_reached p_reached (sp_reached K)) (h_turned_back : Fn P w K mg base 1 d_turned_back p_turned_back (sp_turned_back K)) : Fn P w K mg base 2 d_useful_of p_useful_of (sp_useful_of K) := by
  refine fn_mk G 12 rfl sc_useful_of (fun vs H Q E h => by obtain ⟨_, _, _, _, _, rfl, _⟩ := h; rfl) (fun _ _ _ _ _ _ us hl => match us, hl with | [_, _], _ => rfl) (fun cdv A outer s H vs Q E hr h => ?_)
  have hu1 := hu_of hr
  have hu64 := hr.units
  have hrN := roomN.of hr
  refine both (pss_cons (ps_asg (pe_tup (pa_cons (pe_fn h_reached (hr.mono (by decide)) rfl (G.g (x := "reached")) (pa_cons (pv 0) (pa_cons (pe_lst (pa_cons pe_int pa_nil)) pa_nil))) (pa_cons (pe_fn h_reached (hr.mono (by decide)) rfl (G.g (x := "reached")) (pa_cons (pe_fn h_turned_back (hr.mono (by decide)) rfl (G.g (x := "turned_back")) (pa_cons (pv 0) pa_nil)) (pa_cons (pv 1) pa_nil))) pa_nil))) (pg_tupK (n := 2) rfl rfl (pgs_cons (pg_name sc_useful_of.nd (i := 2) rfl (by first | exact .inl rfl | exact .inr rfl | exact .inr (.inl rfl) | exact .inr (.inr rfl))) (pgs_cons (pg_name sc_useful_of.nd (i := 3) rfl (by first | exact .inl rfl | exact .inr rfl | exact .inr (.inl rfl) | exact .inr (.inr rfl))) pgs_nil))))
      (pss_one (ps_ret (pe_lc rfl sc_useful_of.nd (pi_range1 rfl (G.f (x := "range")) (pa_cons (pe_callB (call_lenK rfl) rfl (G.f (x := "len")) bo_len (pa_cons (pv 0) pa_nil)) pa_nil)) (blkOk_by (own := [("stand", 4)]) (by first | (show blkC n_useful_of (defScope s_useful_of) _ _ = true; decide +kernel) | rfl)) (fun _ _ _ _ _ => (pg_name sc_useful_of.nd (i := 4) rfl (by first | exact .inl rfl | exact .inr rfl | exact .inr (.inl rfl) | exact .inr (.inr rfl)))) (fun _ _ _ _ _ => (pts_one (PW.pt (pw_and (pt_cmp (pc_din hu1 (pv 4) (pv 2))) (pw_and1 (pt_cmp (pc_din hu1 (pv 4) (pv 3)))))))) (fun _ _ _ _ _ => (pv 4)))))) ?_
  obtain ⟨v, d, k, B, F, rfl, hA, hd, ok, hk, h200, nd, hF, q⟩ := h
  refine ⟨_, rfl, Evl.sz_of (show 1 ≤ 100000 by decide), fun l0 hl0 => ?_⟩
  refine ⟨v, l0, B, [0], rfl, .inl (hA.mono (same_tups (same_new hl0))), .inl upd_same, by simp, by simp; exact ok.pos, ok.rng, h200, fun r hr => by rw [ok.wid r hr]; omega, fun H1 d1 s1 e1 h1 m1 => ?_⟩
  have e1' := (same_new hl0).trans e1
  refine ⟨_, rfl, v, k, B, rfl, hA.mono (same_tups e1'), ok, hk, h200, fun H2 l2 B2 e2 hB2 hlen hbk hrow => ?_⟩
  refine ⟨_, rfl, .ref l2, d, B2, F, rfl, .inr ⟨l2, rfl, hB2⟩, .inr (e2 _ _ (e1' _ _ hd)), nd, fun s hs => by rw [hlen]; exact hF s hs, fun r hr => (hrow r hr).2, by omega, fun r hr => (hrow r hr).1, fun H3 d3 s3 e3 h3 m3 => ?_⟩
  refine ⟨Evl.sz_of (show 2 ≤ 100000 by decide), fun t ht => ⟨t, _, rfl, sqT upd_same, rfl, _, _, rfl, _, _, rfl, rfl, ?_⟩⟩
  have e4 := e1'.trans (e2.trans (e3.trans (same_new (o := .tup [.ref d1, .ref d3]) ht)))
  have k1 := same_new (o := .tup [.ref d1, .ref d3]) ht _ _ (e3 _ _ (e2 _ _ h1))
  have k3 := same_new (o := .tup [.ref d1, .ref d3]) ht _ _ h3
  obtain ⟨a, rs, rfl, ha, hl, hz⟩ := hA
  refine ⟨_, rfl, a, rs, rfl, .inr (sqT (e4 _ _ ha)), _, rfl, by omega, by omega, fun D hD => ?_⟩
  refine lc_fil grow_same walk_range (Rb := fun i b => b = (decide (i ∈ s1) && decide (i ∈ s3))) (f := nv) (by simp; omega) hD trivial (fun _ _ => trivial) ?_ (fun x σ H A B h k => h _ _ k) ?_
  · rintro i x _ H4 hi e5 ⟨rfl, hx⟩
    obtain rfl : x = nv i := by rw [hx]; show V.int (0 + (i : Int)) = _; rw [Int.zero_add]; rfl
    refine ⟨rfl, fun Kb hKb => ?_⟩
    refine ⟨_, rfl, _, rfl, d1, _, rfl, DGet.k (k := .inl (i : Int)) (e5 _ _ k1), _, rfl, ?_⟩
    rw [setK_val]
    by_cases h1 : i ∈ s1
    · rw [if_pos h1]
      refine iteT ⟨_, rfl, _, rfl, d3, _, rfl, DGet.k (k := .inl (i : Int)) (e5 _ _ k3), _, rfl, ?_⟩
      rw [setK_val]
      by_cases h2 : i ∈ s3
      · rw [if_pos h2]
        exact hKb _ _ (Same.refl _) (by simp [h1, h2]) fun _ Kx hKx => ⟨_, rfl, hKx _ (Same.refl _)⟩
      · rw [if_neg h2]
        exact hKb _ _ (Same.refl _) (by simp [h1, h2]) fun h => by cases h
    · rw [if_neg h1]
      exact iteF (hKb _ _ (Same.refl _) (by simp [h1]) fun h => by cases h)
  · intro p H4 e5 hp hD4
    have hn : ((rs.length : Nat) : Int).toNat = B.length := by simp [hl]
    rw [hn] at hp hD4
    refine q _ D p (e4.trans e5) hD4 fun x hx => ?_
    rw [hp x hx, ← RR.rch_run, ← RR.lang_some, ← RR.rch_back hbk, ← m1, ← m3]
    simp
end
end RK
/-! W11: kinds of stands. -/
namespace RK
open PySem PySem.Spec PyProof.Rows L2
theorem call_setK {X : Cx} {K : PySem.W.Frag} {P : Program} {w : World} (hc : X.calm = true) (hu : X.A.units + 64 < cLine) (e : X.K = K) (eP : X.prog = P) (ew : X.w = w) : CallR X (.type "set") (rSetOfT K P w) := by
  subst e eP ew
  exact cr_setOfT hc hu
theorem call_sortedK {X : Cx} {K : PySem.W.Frag} {P : Program} {w : World} (hc : X.calm = true) (e : X.K = K) (eP : X.prog = P) (ew : X.w = w) : CallR X (.builtin "sorted") (rSortedM K P w) := by
  subst e eP ew
  exact cr_sortedM hc
theorem pe_getNK {X : Cx} {P : Program} {w : World} {o i : Expr} {td ty : TE} {pos : Pos} (eP : X.prog = P) (ew : X.w = w) (hu : roomN X.A) (ho : PE X o td) (hi : PE X i ty) (hs : NoSl i) : PE X (.Subscript o i pos) (tGetN P w td ty) := by
  subst eP ew
  exact pe_getN hu ho hi hs
/-- a dict that tells f of each of these -/
def dictF (U : List Nat) (f : Nat → V) : List (Key × V) := U.map fun (x : Nat) => (.inl (x : Int), f x)
theorem dictF_val (U : List Nat) (f : Nat → V) (q : Nat) : valV (dictF U f) (.inl (q : Int)) = if q ∈ U then some (f q) else none := by
  induction U with
  | nil => simp [dictF, valV_nil]
  | cons x U ih =>
    show valV ((.inl (x : Int), f x) :: dictF U f) _ = _
    by_cases h : x = q
    · subst h
      rw [valV_pos rfl]
      simp
    · rw [valV_neg (fun z => h (by have := Sum.inl.inj z; omega)), ih]
      simp [Ne.symm h]
theorem dictF_step {U : List Nat} {f : Nat → V} {i q : Nat} (nd : U.Nodup) (h : U[i]? = some q) : putK (dictF (U.take i) f) (.inl (q : Int)) (f q) = dictF (U.take (i + 1)) f := by
  rw [take_next h, putK_new]
  · simp [dictF]
  · rw [dictF_val, if_neg]
    intro hm
    obtain ⟨j, hj⟩ := List.mem_iff_getElem?.mp hm
    have hjl := (List.getElem?_eq_some_iff.mp hj).1
    rw [List.length_take] at hjl
    rw [List.getElem?_take_of_lt (by omega)] at hj
    have := nd_ix nd hj h
    omega
theorem dictF_len (U : List Nat) (f : Nat → V) : (dictF U f).length = U.length := by simp [dictF]
theorem dictF_vals (U : List Nat) (f : Nat → V) : (dictF U f).map (·.2) = U.map f := by simp [dictF]
theorem seq_asg {te : TE} {g : TG} {u : TS} {D : Ends} {σ : L2.St} {H : Hp} (h : te σ H (fun x H1 => g x σ H1 (u D))) : tSeq (tAsg te g) u D σ H := h
theorem one_asg {te : TE} {g : TG} {D : Ends} {σ : L2.St} {H : Hp} (h : te σ H (fun x H1 => g x σ H1 D.nx)) : tAsg te g D σ H := h
/-- {x: f(x) for x in U} -/
theorem dc_f {K : PySem.W.Frag} {te tv : TE} {j : Nat} {vs : List Nat} {σ : L2.St} {H H2 : Hp} {b : Addr} {U : List Nat} {f : Nat → V} {Q : VK} (nd : U.Nodup) (hl : U.length ≤ 10000) (hte : ∀ Kt : VK, Kt (.ref b) H2 → te σ H Kt) (hb : H2 b = some (.lst (U.map nv)))
    (hw : ∀ x, wipe ((wipe σ vs).set j (some x)) vs = wipe σ vs) (hj : ∀ x, ((wipe σ vs).set j (some x))[j]? = some (some x))
    (htv : ∀ x, x ∈ U → ∀ H', Same H2 H' → ∀ Kt : VK, (∀ H5, Same H' H5 → Kt (f x) H5) → tv ((wipe σ vs).set j (some (nv x))) H' Kt)
    (q : ∀ D H', H2 D = none → Same H2 H' → H' D = some (.dK (dictF U f)) → Q (.ref D) H') :
    tDc (iList K te) (gName j) tYes (tVar j) tv vs σ H Q := by
  refine hte _ ⟨b, rfl, ⟨_, sqL hb⟩, fun D hD => ?_⟩
  refine turns_walk walk_list (fun i H' => Same H2 H' ∧ H' D = some (.dK (dictF (U.take i) f))) ⟨same_new hD, by rw [upd_same]; rfl⟩ (fun i H' _ p => sqL (p.1 _ _ hb)) ?_ ?_
  · rintro i x _ H4 hi ⟨e4, h4⟩ ⟨rfl, hx⟩
    rw [List.getElem?_map] at hx
    obtain ⟨r, hr, rfl⟩ := Option.map_eq_some_iff.mp hx
    refine ⟨hw _, yes_ ⟨_, hj _, htv r (List.mem_of_getElem? hr) H4 e4 _ fun H5 e5 => ⟨_, .inl (r : Int), rfl, e5 _ _ h4, small ?_, same_mut (e4.trans e5) hD, ?_⟩⟩⟩
    · rw [dictF_len, List.length_take]
      omega
    · rw [upd_same, dictF_step nd hr]
  · rintro H4 ⟨e4, h4⟩
    rw [List.length_map, List.take_length] at h4
    exact q D H4 hD e4 h4
def kM (m : List Int) : NestedKey := .tup (m.map NestedKey.num)
theorem kM_inj {a b : List Int} (h : kM a = kM b) : a = b := by
  have h2 := NestedKey.tup.inj h
  exact List.map_inj_right (fun x y e => NestedKey.num.inj e) |>.mp h2
theorem keys_ints {H : Hp} : ∀ m : List Int, KeysAt H (m.map NestedKey.num) (m.map V.int)
  | [] => .nil
  | x :: m => .cons (.int x) (keys_ints m)
theorem key_mark {H : Hp} {b : Addr} {m : List Int} (h : H b = some (.tup (m.map V.int))) : KeyAt H (kM m) (.ref b) := .tup h (keys_ints m)
theorem kM_depA : ∀ m : List Int, NestedKey.depthAll (m.map NestedKey.num) = 0
  | [] => by simp [NestedKey.depthAll]
  | x :: m => by simp [NestedKey.depthAll, NestedKey.depth, kM_depA m]
theorem kM_dep (m : List Int) : (kM m).depth ≤ 8 := by
  unfold kM
  simp only [NestedKey.depth, kM_depA]
  omega
theorem mem_kM {ms : List (List Int)} {m : List Int} : kM m ∈ ms.map kM ↔ m ∈ ms := by
  constructor
  · intro h
    obtain ⟨y, hy, e⟩ := List.mem_map.mp h
    rw [← kM_inj e]
    exact hy
  · exact fun h => List.mem_map.mpr ⟨m, h, rfl⟩
section
variable {P : Program} {w : World} {K : PySem.W.Frag} {mg : Str → Option Value} {base : Heap}
def sp_kinds_of (K : PySem.W.Frag) : Sp := fun vs H Q _ => ∃ (v : V) (de l : Addr) (k : Nat) (A : RR.Arr) (E U : List Nat), vs = [v, .ref de, .ref l] ∧ ArrAt H v A ∧ H de = some (.dK (setK E)) ∧ H l = some (.lst (U.map nv)) ∧ RR.ArrOk k A ∧ k ≤ 8 ∧ U.Nodup ∧ U ≠ [] ∧ (∀ x ∈ U, x < A.length) ∧ U.length < 60 ∧ RR.Useful A E U ∧
  ∀ H' d (κ : Nat → Int), Same H H' → H' d = some (.dK (dictF U fun x => .int (κ x))) → (∀ x ∈ U, ∀ y ∈ U, κ x = κ y ↔ RR.lang A E (some x) = RR.lang A E (some y)) → (∀ x ∈ U, 0 ≤ κ x) → Q (.ref d) H'
theorem ok_kinds_of (G : Gs K mg) : Fn P w K mg base 1 d_kinds_of p_kinds_of (sp_kinds_of K) := by
  refine fn_mk G 13 rfl sc_kinds_of (fun vs H Q E h => by obtain ⟨_, _, _, _, _, _, _, rfl, _⟩ := h; rfl) (fun _ _ _ _ _ _ us hl => match us, hl with | [_, _, _], _ => rfl) (fun cdv A outer s H vs Q E hr h => ?_)
  have hu1 := hu_of hr
  have hu64 := hr.units
  have hrN := roomN.of hr
  refine both (pss_cons (ps_set (i := 3) sc_kinds_of.nd rfl (by first | exact .inl rfl | exact .inr rfl | exact .inr (.inl rfl) | exact .inr (.inr rfl)) (pe_dc rfl sc_kinds_of.nd (pi_listK rfl (pv 2)) (blkOk_by (own := [("stand", 4)]) (by first | (show blkC n_kinds_of (defScope s_kinds_of) _ _ = true; decide +kernel) | rfl)) (fun _ _ _ _ _ => (pg_name sc_kinds_of.nd (i := 4) rfl (by first | exact .inl rfl | exact .inr rfl | exact .inr (.inl rfl) | exact .inr (.inr rfl)))) (fun _ _ _ _ _ => pts_nil) (fun _ _ _ _ _ => (pv 4)) (fun _ _ _ _ _ => (pe_callTy call_int1 rfl (G.f (x := "int")) bo_int (pa_cons (pe_cmp (pc_din hu1 (pv 4) (pv 1))) pa_nil)))))
      (pss_cons (ps_par (i := 5) (j := 6) rfl sc_kinds_of.nd rfl rfl (by decide) rfl rfl (pa_cons (pe_lenSetA rfl rfl (G.f (x := "len")) rfl (G.f (x := "set")) (pe_listVals rfl rfl (G.f (x := "list")) (pv 3))) (pa_cons pe_int pa_nil)) rfl)
      (pss_cons (ps_while PassesOwn.never (pt_cmpR op_ne (pv 5) (pv 6) (nomark _)) (pss_cons (ps_set (i := 7) sc_kinds_of.nd rfl (by first | exact .inl rfl | exact .inr rfl | exact .inr (.inl rfl) | exact .inr (.inr rfl)) pe_dnewK)
      (pss_cons (ps_for PassesOwn.never rfl (pi_listK rfl (pv 2)) (pg_name sc_kinds_of.nd (i := 4) rfl (by first | exact .inl rfl | exact .inr rfl | exact .inr (.inl rfl) | exact .inr (.inr rfl))) (pss_cons (ps_setLc (i := 8) rfl sc_kinds_of.nd rfl rfl rfl (pi_tupK rfl (pe_ix (ix_tupK rfl) (pv 0) (pv 4) (fun _ _ => rfl))) (blkOk_by (own := [("goal", 9)]) (by first | (show blkC n_kinds_of (defScope s_kinds_of) _ _ = true; decide +kernel) | rfl)) (fun _ _ _ _ _ => (pg_name sc_kinds_of.nd (i := 9) rfl (by first | exact .inl rfl | exact .inr rfl | exact .inr (.inl rfl) | exact .inr (.inr rfl)))) (fun _ _ _ _ _ => pts_nil) (fun _ _ _ _ _ => (pe_getN2 hu1 (pv 3) (pv 9) (pe_un un_neg pe_int) ⟨rfl, rfl, rfl, rfl⟩)))
      (pss_one (ps_dput hu1 (pv 7) (pv 4) (pe_tup (pa_cons (pe_dget hu1 (pv 3) (pv 4) (fun _ _ => rfl)) (pa_starK rfl (pv 8) pa_nil))) rfl))))
      (pss_cons (ps_set (i := 10) sc_kinds_of.nd rfl (by first | exact .inl rfl | exact .inr rfl | exact .inr (.inl rfl) | exact .inr (.inr rfl)) (pe_callB (call_sortedK (K := K) (P := P) (w := w) rfl rfl rfl rfl) rfl (G.f (x := "sorted")) bo_sorted (pa_cons (pe_callTy (call_setK (K := K) (P := P) (w := w) rfl hu64 rfl rfl rfl) rfl (G.f (x := "set")) bo_set (pa_cons (pe_listVals rfl rfl (G.f (x := "list")) (pv 7)) pa_nil)) pa_nil)))
      (pss_cons (ps_set (i := 11) sc_kinds_of.nd rfl (by first | exact .inl rfl | exact .inr rfl | exact .inr (.inl rfl) | exact .inr (.inr rfl)) (pe_dcN rfl hrN sc_kinds_of.nd (pi_enumK rfl rfl (G.f (x := "enumerate")) (pa_cons (pv 10) pa_nil)) (blkOk_by (own := [("place", 12), ("mark", 13)]) (by first | (show blkC n_kinds_of (defScope s_kinds_of) _ _ = true; decide +kernel) | rfl)) (fun _ _ _ _ _ => (pg_tupK (n := 2) rfl rfl (pgs_cons (pg_name sc_kinds_of.nd (i := 12) rfl (by first | exact .inl rfl | exact .inr rfl | exact .inr (.inl rfl) | exact .inr (.inr rfl))) (pgs_cons (pg_name sc_kinds_of.nd (i := 13) rfl (by first | exact .inl rfl | exact .inr rfl | exact .inr (.inl rfl) | exact .inr (.inr rfl))) pgs_nil)))) (fun _ _ _ _ _ => pts_nil) (fun _ _ _ _ _ => (pv 13)) (fun _ _ _ _ _ => (pv 12))))
      (pss_cons (ps_set (i := 3) sc_kinds_of.nd rfl (by first | exact .inl rfl | exact .inr rfl | exact .inr (.inl rfl) | exact .inr (.inr rfl)) (pe_dc rfl sc_kinds_of.nd (pi_listK rfl (pv 2)) (blkOk_by (own := [("stand", 4)]) (by first | (show blkC n_kinds_of (defScope s_kinds_of) _ _ = true; decide +kernel) | rfl)) (fun _ _ _ _ _ => (pg_name sc_kinds_of.nd (i := 4) rfl (by first | exact .inl rfl | exact .inr rfl | exact .inr (.inl rfl) | exact .inr (.inr rfl)))) (fun _ _ _ _ _ => pts_nil) (fun _ _ _ _ _ => (pv 4)) (fun _ _ _ _ _ => (pe_getNK rfl rfl hrN (pv 11) (pe_dget hu1 (pv 7) (pv 4) (fun _ _ => rfl)) (fun _ _ => rfl)))))
      (pss_one (ps_par (i := 5) (j := 6) rfl sc_kinds_of.nd rfl rfl (by decide) rfl rfl (pa_cons (pe_callB (call_lenK rfl) rfl (G.f (x := "len")) bo_len (pa_cons (pv 10) pa_nil)) (pa_cons (pv 5) pa_nil)) rfl))))))))
      (pss_one (ps_ret (pv 3)))))) ?_
  obtain ⟨v, de, l, k, B, F, U, rfl, ⟨a, rs, rfl, ha, hlr, hz⟩, hde, hl, ok, hk, nd, hne, hlt, h60, hU, q⟩ := h
  refine seq_asg (dc_f (f := fun x => .int (if x ∈ F then 1 else 0)) nd (by omega) (fun Kt h => ⟨_, rfl, h⟩) hl (fun _ => rfl) (fun _ => rfl) (fun x hx H' e Kt hK => ?_) ?_)
  · refine ⟨_, rfl, _, rfl, de, _, rfl, DGet.k (k := .inl (x : Int)) (e _ _ hde), .inr ⟨_, rfl, ?_⟩⟩
    rw [setK_val]
    by_cases h : x ∈ F
    · simp only [if_pos h]
      have := hK H' (Same.refl _)
      simp only [if_pos h] at this
      exact this
    · simp only [if_neg h]
      have := hK H' (Same.refl _)
      simp only [if_neg h] at this
      exact this
  intro kd0 H1 hkd0 e1 h1
  refine ⟨_, rfl, kd0, _, rfl, h1, fun p hp => ⟨p, U.map fun x => if x ∈ F then 1 else 0, rfl, ?_, by rw [List.length_map]; omega, fun ds hnd hds => ⟨_, _, rfl, ?_⟩⟩⟩
  · rw [dictF_vals, List.map_map]
    exact sqL upd_same
  have c0 : RR.Cnt U (fun x => if x ∈ F then 1 else 0) ds.length := ⟨ds, hnd, fun z => by rw [hds, List.mem_map], rfl⟩
  have kk0 : RR.KOk B F U (fun x => if x ∈ F then 1 else 0) := by
    refine ⟨fun x _ => by split <;> omega, fun x _ y _ h => ?_, fun x _ y _ h => ?_⟩
    · have h2 := congrFun h []
      rw [RR.lang_nil, RR.lang_nil] at h2
      have h3 : decide (x ∈ F) = decide (y ∈ F) := h2
      by_cases hx : x ∈ F <;> by_cases hy : y ∈ F <;> simp [hx, hy] at h3 ⊢
    · show decide (x ∈ F) = decide (y ∈ F)
      by_cases hx : x ∈ F <;> by_cases hy : y ∈ F <;> simp [hx, hy] at h ⊢
  obtain ⟨Pv, hPv⟩ : ∃ Pv : Nat → L2.St → Hp → Prop, ∀ m σ' H', Pv m σ' H' ↔ ∃ (κ : Nat → Int) (kd : Addr) (many before : Nat) (z4 z7 z8 z9 z10 z11 z12 z13 : Option V), m + before = U.length + 1 ∧ Same H H' ∧
    σ' = [some (.ref a), some (.ref de), some (.ref l), some (.ref kd), z4, some (nv many), some (nv before), z7, z8, z9, z10, z11, z12, z13] ∧ H' kd = some (.dK (dictF U fun x => .int (κ x))) ∧ RR.KOk B F U κ ∧ RR.Cnt U κ many ∧
    (before = 0 ∨ ∃ κp, RR.KOk B F U κp ∧ RR.Cnt U κp before ∧ ∀ x ∈ U, ∀ y ∈ U, κ x = κ y ↔ RR.mark B U κp x = RR.mark B U κp y) := ⟨_, fun _ _ _ => Iff.rfl⟩
  refine ⟨Pv, ⟨U.length + 1, (hPv _ _ _).mpr ⟨_, kd0, ds.length, 0, _, _, _, _, _, _, _, _, rfl, e1.trans (same_new hp), rfl, same_new hp _ _ h1, kk0, c0, .inl rfl⟩⟩, ?_⟩
  intro m σ' H' hp
  obtain ⟨κ, kd, many, before, z4, z7, z8, z9, z10, z11, z12, z13, hm, e2, rfl, hkd, kk, cnt, hbef⟩ := (hPv _ _ _).mp hp
  have hmany := cnt.le
  have hmany1 := cnt.pos hne
  have hdec : decide (V.int (many : Int) = V.int (before : Int)) = decide (many = before) := by
    by_cases h : many = before
    · rw [decide_eq_true h, h]
      exact decide_eq_true rfl
    · rw [decide_eq_false h]
      exact decide_eq_false fun e => h (by have := V.int.inj e; omega)
  refine ⟨_, rfl, _, rfl, rfl, _, rfl, ?_⟩
  show if (!decide (V.int (many : Int) = V.int (before : Int))) = true then _ else _
  rw [hdec]
  by_cases hmb : many = before
  · rw [decide_eq_true hmb]
    rcases hbef with h0 | ⟨κp, kkp, cp, hκ⟩
    · omega
    · rw [← hmb] at cp
      exact iteF ⟨_, rfl, q _ kd κ e2 hkd (kkp.last kk ok hU hlt hκ cp cnt) fun x hx => (kk.rng x hx).1⟩
  · rw [decide_eq_false hmb]
    have hgt : before < many := by
      rcases hbef with h0 | ⟨κp, kkp, cp, hκ⟩
      · omega
      · have := cp.mono cnt fun x hx y hy e => by
          have h2 := (hκ x hx y hy).mp e
          rw [RR.mark_eq ok (hlt x hx) (hlt y hy)] at h2
          exact h2.1
        omega
    refine iteT ⟨fun σ' H' => ∃ m', m' < m ∧ Pv m' σ' H', fun _ _ h => h, fun md hmd => ?_⟩
    have hmd0 : H md = none := by
      cases z : H md with
      | none => rfl
      | some o => have := e2 _ _ z; rw [hmd] at this; cases this
    have hkm : kd ≠ md := ne_of_none hkd hmd
    have key : ∀ (j : Nat) (r : Nat), U[j]? = some r → ∀ (g : Nat → Addr) (t : Addr), dictF (U.take j) (fun x => V.ref (g x)) = dictF (U.take j) (fun x => V.ref (if x = r then t else g x)) := by
      intro j r hr g t
      unfold dictF
      refine List.map_congr_left fun x hx => ?_
      have hxr : x ≠ r := fun e => by
        obtain ⟨i, hi⟩ := List.mem_iff_getElem?.mp hx
        have hil := (List.getElem?_eq_some_iff.mp hi).1
        rw [List.length_take] at hil
        rw [List.getElem?_take_of_lt (by omega), e] at hi
        have := nd_ix nd hi hr
        omega
      simp only [if_neg hxr]
    have e3 : Same H (upd H' md (.dK [])) := e2.trans (same_new hmd)
    refine ⟨_, rfl, l, rfl, ⟨_, sqL (e3 _ _ hl)⟩, ?_⟩
    refine for_it walk_list (fun j σ' H2 => Same H H2 ∧ H2 kd = some (.dK (dictF U fun x => .int (κ x))) ∧ ∃ (g : Nat → Addr) (z4 z8 z9 z10 z11 z12 z13 : Option V), σ' = [some (.ref a), some (.ref de), some (.ref l), some (.ref kd), z4, some (nv many), some (nv before), some (.ref md), z8, z9, z10, z11, z12, z13] ∧
      H2 md = some (.dK (dictF (U.take j) fun x => .ref (g x))) ∧ ∀ x ∈ U.take j, H2 (g x) = some (.tup ((RR.mark B U κ x).map V.int))) ⟨e3, by rw [upd_ne hkm]; exact hkd, fun _ => 0, _, _, _, _, _, _, _, rfl, upd_same, fun x h => by simp at h⟩ (fun j σ' H2 _ e => sqL (e.1 _ _ hl)) ?_ ?_
    · rintro j x σ' _ H2 hj ⟨f1, f2, g, w4, w8, w9, w10, w11, w12, w13, rfl, f3, f4⟩ ⟨rfl, hx⟩
      rw [List.getElem?_map] at hx
      obtain ⟨r, hr, rfl⟩ := Option.map_eq_some_iff.mp hx
      have hrU := List.mem_of_getElem? hr
      have hrB := hlt r hrU
      have g1 : rs[r]? = some (rs[r]'(by omega)) := List.getElem?_eq_getElem (by omega)
      obtain ⟨b, eb, hb⟩ := hz r _ _ g1 (List.getElem?_eq_getElem hrB)
      rw [eb] at g1
      have hw := ok.wid B[r] (List.getElem_mem hrB)
      refine seq_asg ⟨_, rfl, _, rfl, a, rs, _, _, rfl, rfl, sqT (f1 _ _ ha), atE (j := r) rfl g1, b, rfl, ⟨_, sqT (f1 _ _ hb)⟩, fun D hD => ?_⟩
      refine lc_rel grow_same walk_tup (by rw [List.length_map]; omega) hD trivial (fun p x _ => ∃ o, B[r][p]? = some o ∧ x = V.int (RR.kx U κ o)) (fun _ _ _ _ _ h => h) (fun _ _ _ _ h _ => h) (fun H e => sqT (e _ _ (f1 _ _ hb))) ?_ ?_
      · rintro p x _ H4 hp e4 ⟨rfl, hxp⟩ Kt hK
        rw [List.getElem?_map] at hxp
        obtain ⟨o, ho, rfl⟩ := Option.map_eq_some_iff.mp hxp
        have hk4 := e4 _ _ f2
        refine ⟨rfl, _, rfl, kd, rfl, .inl ⟨_, .inl hk4⟩, _, rfl, 1, rfl, _, .inl hk4, ?_⟩
        cases o with
        | none => exact .inl ⟨rfl, hK _ _ (Same.refl _) ⟨none, ho, rfl⟩⟩
        | some y =>
          refine .inr ⟨.inl (y : Int), rfl, ?_⟩
          rw [dictF_val]
          refine hK _ _ (Same.refl _) ⟨some y, ho, ?_⟩
          by_cases hy : y ∈ U
          · simp [hy, RR.kx]
          · simp [hy, RR.kx]
      · intro xs H4 e4 hx4 hlen4 hall4
        have hxs : xs = (B[r].map (RR.kx U κ)).map V.int := list_is (f := V.int) (by rw [hlen4]; simp) fun p y hy => by
          obtain ⟨o, ho, e⟩ := hall4 p y hy
          exact ⟨RR.kx U κ o, by rw [List.getElem?_map, ho]; rfl, e⟩
        have hxl : xs.length = k := by rw [hlen4, List.length_map, hw]
        have hk4 := e4 _ _ f2
        have hm4 := e4 _ _ f3
        have dg := DGet.k (k := .inl (r : Int)) hk4
        rw [dictF_val, if_pos hrU] at dg
        refine ⟨_, rfl, _, rfl, kd, _, rfl, dg, _, rfl, D, _, rfl, .inr (sqL hx4), Evl.sz_of (by simp; omega), fun t ht => ⟨_, rfl, _, rfl, md, _, rfl, DPut.k (k := .inl (r : Int)) (by rw [upd_ne (ne_of_none hm4 ht)]; exact hm4) (small (by rw [dictF_len, List.length_take]; omega)), ?_⟩⟩
        have emark : V.int (κ r) :: (xs ++ []) = (RR.mark B U κ r).map V.int := by
          rw [List.append_nil, hxs]
          unfold RR.mark
          rw [RR.getD_row hrB]
          rfl
        have ht4 : ∀ c o, H4 c = some o → t ≠ c := fun c o h z => by rw [z, h] at ht; cases ht
        refine ⟨same_mut ((f1.trans e4).trans (same_new ht)) hmd0, by rw [upd_ne hkm, upd_ne (Ne.symm (ht4 _ _ hk4))]; exact hk4, fun x => if x = r then t else g x, _, _, _, _, _, _, _, rfl, ?_, fun x hx => ?_⟩
        · rw [upd_same, key j r hr g t]
          have := dictF_step (f := fun x => V.ref (if x = r then t else g x)) nd hr
          simp only [if_pos] at this
          rw [this]
        · have hmt : t ≠ md := ht4 _ _ hm4
          rw [take_next hr] at hx
          show upd (upd H4 t _) md _ (if x = r then t else g x) = _
          by_cases hxr : x = r
          · rw [if_pos hxr, upd_ne hmt, upd_same, hxr]
            exact congrArg (fun z => some (HO.tup z)) emark
          · rw [if_neg hxr]
            have hxt : x ∈ U.take j := by
              rcases List.mem_append.mp hx with h | h
              · exact h
              · simp at h
                exact absurd h hxr
            have g4 := e4 _ _ (f4 x hxt)
            rw [upd_ne (fun z => by rw [z, hm4] at g4; cases g4), upd_ne (Ne.symm (ht4 _ _ g4))]
            exact g4
    · rintro σ' H2 ⟨f1, f2, g, w4, w8, w9, w10, w11, w12, w13, rfl, f3, f4⟩
      rw [List.length_map, List.take_length] at f3 f4
      have hml : ∀ x ∈ U, (RR.mark B U κ x).length = k + 1 := fun x hx => by
        unfold RR.mark
        rw [List.length_cons, List.length_map, RR.row_len ok (hlt x hx)]
      refine ⟨_, rfl, md, _, rfl, f3, fun vl hvl => ⟨vl, U.map fun x => (g x, RR.mark B U κ x), rfl, ?_, fun p hp => ?_, by rw [List.length_map]; omega, fun st L hst hL1 hL2 => ?_⟩⟩
      · rw [dictF_vals, List.map_map]
        exact sqL upd_same
      · obtain ⟨x, hx, rfl⟩ := List.mem_map.mp hp
        exact sqT (by rw [upd_ne (ne_of_none (f4 x hx) hvl)]; exact f4 x hx)
      have e5 := (f1.trans (same_new (o := .lst ((dictF U fun x => V.ref (g x)).map (·.2))) hvl)).trans (same_new (o := SetTO P w st L) hst)
      have gx5 : ∀ x ∈ U, upd (upd H2 vl (.lst ((dictF U fun x => V.ref (g x)).map (·.2)))) st (SetTO P w st L) (g x) = some (.tup ((RR.mark B U κ x).map V.int)) := fun x hx => same_new hst _ _ (same_new hvl _ _ (f4 x hx))
      have inL : ∀ p ∈ L, ∃ x ∈ U, p = (g x, RR.mark B U κ x) := fun p hp => by
        obtain ⟨x, hx, e⟩ := List.mem_map.mp (hL1 p hp)
        exact ⟨x, hx, e.symm⟩
      have k5 := same_new (o := SetTO P w st L) hst _ _ (same_new (o := .lst ((dictF U fun x => V.ref (g x)).map (·.2))) hvl _ _ f2)
      have m5 := same_new (o := SetTO P w st L) hst _ _ (same_new (o := .lst ((dictF U fun x => V.ref (g x)).map (·.2))) hvl _ _ f3)
      refine ⟨st, L, rfl, upd_same, fun p hp => ?_, fun L' ol hperm hnd' h64 hol => ?_⟩
      · obtain ⟨x, hx, rfl⟩ := inL p hp
        exact ⟨sqT (gx5 x hx), List.cons_ne_nil _ _⟩
      generalize hH5 : upd (upd H2 vl (.lst ((dictF U fun x => V.ref (g x)).map (·.2)))) st (SetTO P w st L) = H5 at e5 gx5 k5 m5 hol ⊢
      have allL : ∀ x ∈ U, RR.mark B U κ x ∈ L'.map (·.2) := fun x hx => by
        have h1 := hL2 (g x, RR.mark B U κ x) (List.mem_map.mpr ⟨x, hx, rfl⟩)
        obtain ⟨p, hp, e⟩ := List.mem_map.mp h1
        exact List.mem_map.mpr ⟨p, hperm.mem_iff.mpr hp, e⟩
      have inL' : ∀ p ∈ L', ∃ x ∈ U, p = (g x, RR.mark B U κ x) := fun p hp => inL p (hperm.mem_iff.mp hp)
      obtain ⟨ms, hms⟩ : ∃ ms, ms = L'.map (·.2) := ⟨_, rfl⟩
      rw [← hms] at allL hnd'
      have hmlen : ms.length = L'.length := by rw [hms, List.length_map]
      obtain ⟨ix, hix⟩ : ∃ ix : Nat → Nat, ∀ x ∈ U, ms[ix x]? = some (RR.mark B U κ x) := by
        refine Classical.axiomOfChoice (r := fun x (i : Nat) => x ∈ U → ms[i]? = some (RR.mark B U κ x)) fun x => ?_
        by_cases hx : x ∈ U
        · obtain ⟨i, hi⟩ := List.mem_iff_getElem?.mp (allL x hx)
          exact ⟨i, fun _ => hi⟩
        · exact ⟨0, fun h => absurd h hx⟩
      refine ⟨_, rfl, ol, _, rfl, sqL upd_same, fun pd hpd born => ?_⟩
      have k6 := same_new (o := .lst (L'.map fun q => V.ref q.1)) hol _ _ k5
      have m6 := same_new (o := .lst (L'.map fun q => V.ref q.1)) hol _ _ m5
      have e6 := e5.trans (same_new (o := .lst (L'.map fun q => V.ref q.1)) hol)
      have o6 : upd H5 ol (.lst (L'.map fun q => V.ref q.1)) ol = some (.lst (L'.map fun q => V.ref q.1)) := upd_same
      have gx6 : ∀ x ∈ U, upd H5 ol (.lst (L'.map fun q => V.ref q.1)) (g x) = some (.tup ((RR.mark B U κ x).map V.int)) := fun x hx => same_new hol _ _ (gx5 x hx)
      have nd0 := nd_born (P := P) (w := w) (H := upd H5 ol (.lst (L'.map fun q => V.ref q.1))) born
      generalize hH6 : upd H5 ol (.lst (L'.map fun q => V.ref q.1)) = H6 at k6 m6 e6 o6 gx6 hpd nd0 ⊢
      refine turns_walk walk_enum (fun i H' => Same H6 H' ∧ NDict P w H' pd ((ms.take i).map kM)) ⟨same_new hpd, nd0⟩ (fun i H' _ p => sqL (p.1 _ _ o6)) ?_ ?_
      · rintro i x H7 _ hi ⟨e7, nd7⟩ ⟨T, x1, y1, rfl, hT, rfl, hx, hy⟩
        cases hx
        have hy2 : (L'.map fun q => V.ref q.1)[i]? = some y1 := hy
        rw [List.getElem?_map] at hy2
        obtain ⟨p, hp, rfl⟩ := Option.map_eq_some_iff.mp hy2
        obtain ⟨x, hxU, rfl⟩ := inL' p (List.mem_of_getElem? hp)
        have hmi : ms[i]? = some (RR.mark B U κ x) := by rw [hms, List.getElem?_map, hp]; rfl
        have hil := (List.getElem?_eq_some_iff.mp hmi).1
        have e8 : Same H6 (upd H7 T (.tup [.int (i : Nat), .ref (g x)])) := e7.trans (same_new hT)
        refine ⟨T, _, rfl, sqT upd_same, rfl, _, _, rfl, _, _, rfl, rfl, rfl, yes_ ⟨_, rfl, _, rfl, (ms.take i).map kM, kM (RR.mark B U κ x), nd7.same (same_new hT), ⟨_, rfl⟩, key_mark (e8 _ _ (gx6 x hxU)), kM_dep _, fun h => ?_, by rw [List.length_map, List.length_take]; omega, by rw [List.length_map, List.length_take, Nat.min_eq_left (by omega)], fun o ho nd9 => ⟨same_mut e8 hpd, ?_⟩⟩⟩
        · have h2 := mem_kM.mp h
          obtain ⟨j, hj⟩ := List.mem_iff_getElem?.mp h2
          have hjl := (List.getElem?_eq_some_iff.mp hj).1
          rw [List.length_take] at hjl
          rw [List.getElem?_take_of_lt (by omega)] at hj
          have := nd_ix hnd' hj hmi
          omega
        · rw [take_next hmi, List.map_append]
          exact nd9
      · rintro H7 ⟨e7, nd7⟩
        rw [List.length_map, ← hmlen, List.take_length] at nd7
        dsimp only [gName]
        refine seq_asg (dc_f (f := fun x => .int ((ix x : Nat) : Int)) nd (by omega) (fun Kt h => ⟨_, rfl, h⟩) (e7 _ _ (e6 _ _ hl)) (fun _ => rfl) (fun _ => rfl) (fun x hx H8 e8 Kt hK => ?_) ?_)
        · have dg := DGet.k (k := .inl (x : Int)) (e8 _ _ (e7 _ _ m6))
          rw [dictF_val, if_pos hx] at dg
          exact ⟨_, rfl, _, rfl, _, rfl, md, _, rfl, dg, pd, _, kM (RR.mark B U κ x), ix x, rfl, nd7.same e8, ⟨_, rfl⟩, key_mark (e8 _ _ (e7 _ _ (gx6 x hx))), kM_dep _, by rw [List.getElem?_map, hix x hx]; rfl, hK _ (Same.refl _)⟩
        · intro kd' H8 hkd' e8 h8
          obtain ⟨κ', hκ'⟩ : ∃ κ' : Nat → Int, κ' = fun x => ((ix x : Nat) : Int) := ⟨_, rfl⟩
          have hκ2 : ∀ x, κ' x = ((ix x : Nat) : Int) := fun x => by rw [hκ']
          have h8' : H8 kd' = some (.dK (dictF U fun x => .int (κ' x))) := by rw [hκ']; exact h8
          clear hκ'
          refine ⟨_, rfl, ol, _, rfl, .inl (sqL (e8 _ _ (e7 _ _ o6))), _, rfl, _, _, rfl, m - (many - before), by omega, (hPv _ _ _).mpr ⟨κ', kd', L'.length, many, _, _, _, _, _, _, _, _, by omega, e6.trans (e7.trans e8), by rw [List.length_map]; rfl, h8', ?_, ?_, .inr ⟨κ, kk, cnt, ?_⟩⟩⟩
          · refine kk.next ok hU hlt (fun x hx => ?_) ?_
            · have := (List.getElem?_eq_some_iff.mp (hix x hx)).1
              rw [hκ2]
              omega
            · intro x hx y hy
              constructor
              · intro h
                have h2 : ix x = ix y := by rw [hκ2, hκ2] at h; omega
                have h3 := hix x hx
                rw [h2, hix y hy] at h3
                exact (Option.some.inj h3).symm
              · intro h
                have h3 := hix x hx
                rw [h] at h3
                have := nd_ix hnd' h3 (hix y hy)
                rw [hκ2, hκ2]
                omega
          · refine ⟨(List.range L'.length).map fun (i : Nat) => (i : Int), ?_, fun z => ?_, by simp⟩
            · exact List.Pairwise.map _ (fun a b h e => h (by omega)) List.nodup_range
            · rw [List.mem_map]
              constructor
              · rintro ⟨i, hi, rfl⟩
                have hi2 := List.mem_range.mp hi
                obtain ⟨x, hx, e⟩ := inL' L'[i] (List.getElem_mem hi2)
                refine ⟨x, hx, ?_⟩
                have h3 : ms[i]? = some (RR.mark B U κ x) := by rw [hms, List.getElem?_map, List.getElem?_eq_getElem hi2, e]; rfl
                have := nd_ix hnd' (hix x hx) h3
                rw [hκ2]
                omega
              · rintro ⟨x, hx, rfl⟩
                have := (List.getElem?_eq_some_iff.mp (hix x hx)).1
                exact ⟨ix x, List.mem_range.mpr (by omega), (hκ2 x).symm⟩
          · intro x hx y hy
            constructor
            · intro h
              have h2 : ix x = ix y := by rw [hκ2, hκ2] at h; omega
              have h3 := hix x hx
              rw [h2, hix y hy] at h3
              exact (Option.some.inj h3).symm
            · intro h
              have h3 := hix x hx
              rw [h] at h3
              have := nd_ix hnd' h3 (hix y hy)
              rw [hκ2, hκ2]
              omega
end
end RK
/-! W12: the least reader told. -/
namespace RK
open PySem PySem.Spec PyProof.Rows L2
/-- {stand: True for stand in ends}, a tuple of stands -/
theorem dc_setT {K : PySem.W.Frag} {te : TE} {j : Nat} {vs : List Nat} {σ : L2.St} {H H2 : Hp} {b : Addr} {S : List Nat} {Q : VK} (nd : S.Nodup) (hl : S.length ≤ 10000) (hte : ∀ Kt : VK, Kt (.ref b) H2 → te σ H Kt) (hb : H2 b = some (.tup (S.map nv)))
    (hw : ∀ x, wipe ((wipe σ vs).set j (some x)) vs = wipe σ vs) (hj : ∀ x, ((wipe σ vs).set j (some x))[j]? = some (some x)) (q : ∀ D H', H2 D = none → Same H2 H' → H' D = some (.dK (setK S)) → Q (.ref D) H') :
    tDc (iTup K te) (gName j) tYes (tVar j) (tC (.bl true)) vs σ H Q := by
  refine hte _ ⟨b, rfl, ⟨_, sqT hb⟩, fun D hD => ?_⟩
  refine turns_walk walk_tup (fun i H' => Same H2 H' ∧ H' D = some (.dK (setK (S.take i)))) ⟨same_new hD, by rw [upd_same]; rfl⟩ (fun i H' _ p => sqT (p.1 _ _ hb)) ?_ ?_
  · rintro i x _ H4 hi ⟨e4, h4⟩ ⟨rfl, hx⟩
    rw [List.getElem?_map] at hx
    obtain ⟨r, hr, rfl⟩ := Option.map_eq_some_iff.mp hx
    refine ⟨hw _, yes_ ⟨_, hj _, _, .inl (r : Int), rfl, h4, small ?_, same_mut e4 hD, ?_⟩⟩
    · rw [setK_len, List.length_take]
      omega
    · rw [upd_same, setK_step nd hr]
  · rintro H4 ⟨e4, h4⟩
    rw [List.length_map, List.take_length] at h4
    exact q D H4 hD e4 h4
/-- a list of rows -/
def RowsAt (H : Hp) (a : Addr) (G : RR.Arr) : Prop := ∃ rs, H a = some (.lst rs) ∧ rs.length = G.length ∧ ∀ (i : Nat) (x : V) (r : List (Option Nat)), rs[i]? = some x → G[i]? = some r → RowAt H x r
theorem RowsAt.at {H H' : Hp} {a : Addr} {G : RR.Arr} (h : RowsAt H a G) (e : H' a = H a) (t : Tups H H') : RowsAt H' a G :=
  let ⟨rs, h1, h2, h3⟩ := h; ⟨rs, e.trans h1, h2, fun i x r g1 g2 => (h3 i x r g1 g2).mono t⟩
theorem RowsAt.same {H H' : Hp} {a : Addr} {G : RR.Arr} (h : RowsAt H a G) (e : Same H H') : RowsAt H' a G := by
  obtain ⟨rs, h1, h2⟩ := id h
  exact h.at (by rw [h1]; exact e _ _ h1) (same_tups e)
theorem RowsAt.snoc {H : Hp} {a t : Addr} {G : RR.Arr} {rs : List V} {r : List (Option Nat)} (h : RowsAt H a G) (hr : H a = some (.lst rs)) (ht : H t = some (.tup (r.map onv))) : RowsAt (upd H a (.lst (rs ++ [.ref t]))) a (G ++ [r]) := by
  obtain ⟨rs', h1, h2, h3⟩ := h
  rw [hr] at h1
  cases h1
  have tu : Tups H (upd H a (.lst (rs ++ [.ref t]))) := Tups.upd hr (fun xs z => nomatch z)
  refine ⟨rs ++ [.ref t], upd_same, by simp [h2], fun i x z g1 g2 => ?_⟩
  by_cases hi : i < rs.length
  · rw [List.getElem?_append_left hi] at g1
    rw [List.getElem?_append_left (by omega)] at g2
    exact (h3 i x z g1 g2).mono tu
  · have hi2 := (List.getElem?_eq_some_iff.mp g1).1
    have : i = rs.length := by simp at hi2; omega
    subst this
    rw [List.getElem?_append_right (Nat.le_refl _)] at g1
    rw [h2, List.getElem?_append_right (Nat.le_refl _)] at g2
    simp at g1 g2
    subst g1 g2
    exact ⟨t, rfl, tu _ _ ht⟩
theorem if_in {tu : TS} {D : Ends} {σ : L2.St} {H : Hp} {i j q : Nat} {d : Addr} {F : List Nat} (hi : σ[i]? = some (some (nv q))) (hj : σ[j]? = some (some (.ref d))) (hd : H d = some (.dK (setK F))) (h1 : q ∈ F → tu D σ H) (h2 : q ∉ F → D.nx σ H) :
    tIfS (tB (tDIn (tVar i) (tVar j))) tu tNext D σ H := by
  refine ⟨_, hi, _, hj, d, _, rfl, DGet.k (k := .inl (q : Int)) hd, _, rfl, ?_⟩
  rw [setK_val]
  by_cases h : q ∈ F
  · rw [if_pos h]
    exact iteT (h1 h)
  · rw [if_neg h]
    exact iteF (h2 h)
theorem shut_if {K : PySem.W.Frag} {D : Ends} {σ : L2.St} {H : Hp} {st i : Nat} {rl sl fd : Addr} {rs : List V} {sh F : List Nat} (h4 : σ[4]? = some (some (nv st))) (h9 : σ[9]? = some (some (.ref fd))) (h8 : σ[8]? = some (some (.ref rl))) (h10 : σ[10]? = some (some (.ref sl)))
    (hf : H fd = some (.dK (setK F))) (hr : H rl = some (.lst rs)) (hs : H sl = some (.lst (sh.map nv))) (hlen : rs.length = i) (hsm : sh.length ≤ 1000)
    (rest : ∀ (H5 : Hp) (sh' : List Nat), (H5 = H ∨ H5 = upd H sl (.lst (sh'.map nv))) → H5 sl = some (.lst (sh'.map nv)) → sh' = (if decide (st ∈ F) = true then sh ++ [i] else sh) → D.nx σ H5) :
    tIfS (tB (tDIn (tVar 4) (tVar 9))) (tDrop (tBM K "list" rAppend (tVar 10) (tCons (tCB (Evl.rLenS K) (tCons (tVar 8) tNil)) tNil))) tNext D σ H := by
  refine if_in h4 h9 hf (fun h => ?_) (fun h => rest H sh (.inl rfl) hs (by rw [decide_eq_false h]; rfl))
  have e : (sh.map nv ++ [V.int (rs.length : Nat)]) = (sh ++ [i]).map nv := by rw [List.map_append, hlen]; rfl
  refine ⟨_, h10, .inl ⟨rfl, _, sqL hs⟩, _, h8, rl, rs, rfl, .inl (sqL hr), sl, _, _, rfl, rfl, hs, small (by rw [List.length_map]; omega), ?_⟩
  rw [e]
  exact rest _ (sh ++ [i]) (.inr rfl) upd_same (by rw [decide_eq_true h]; rfl)
/-- the dict that tells each kind's place in the line -/
structure Nums (κ : Nat → Int) (kvs : List (Key × V)) (ln : List Nat) : Prop where
  at_ : ∀ i q, ln[i]? = some q → valV kvs (.inl (κ q)) = some (nv i)
  src : ∀ z : Int, valV kvs (.inl z) ≠ none → ∃ q ∈ ln, κ q = z
  len : kvs.length ≤ ln.length
theorem Nums.add {κ : Nat → Int} {kvs : List (Key × V)} {ln : List Nat} (h : Nums κ kvs ln) {g : Nat} (hn : valV kvs (.inl (κ g)) = none) : Nums κ (putK kvs (.inl (κ g)) (nv ln.length)) (ln ++ [g]) where
  at_ := fun i q hq => by
    rw [valV_put]
    by_cases hi : i < ln.length
    · rw [List.getElem?_append_left hi] at hq
      have h1 := h.at_ i q hq
      rw [if_neg (fun z => by rw [z, hn] at h1; cases h1)]
      exact h1
    · have hi2 := (List.getElem?_eq_some_iff.mp hq).1
      have : i = ln.length := by simp at hi2; omega
      subst this
      rw [List.getElem?_append_right (Nat.le_refl _)] at hq
      simp at hq
      subst hq
      rw [if_pos rfl]
  src := fun z hz => by
    rw [valV_put] at hz
    by_cases e : (Sum.inl z : Key) = .inl (κ g)
    · exact ⟨g, by simp, (Sum.inl.inj e).symm⟩
    · rw [if_neg e] at hz
      obtain ⟨q, hq, e2⟩ := h.src z hz
      exact ⟨q, List.mem_append_left _ hq, e2⟩
  len := by
    have h1 := length_putK kvs (.inl (κ g)) (nv ln.length)
    have h2 := h.len
    rw [List.length_append]
    simp
    omega
section
variable {P : Program} {w : World} {K : PySem.W.Frag} {mg : Str → Option Value} {base : Heap}
def sp_least_of (K : PySem.W.Frag) : Sp := fun vs H Q _ => ∃ (vA vE : V) (k : Nat) (A : RR.Arr) (E : List Nat), vs = [nv k, vA, vE] ∧ ArrAt H vA A ∧ NatsAt H vE E ∧ RR.ArrOk k A ∧ (1 ≤ k ∧ k ≤ 8) ∧ A.length < 60 ∧ E.Nodup ∧ (∀ e ∈ E, e < A.length) ∧
  ∀ H' p x y, Same H H' → H' p = some (.tup [x, y]) → ArrAt H' x (RR.leastL k (RR.lang A E (some 0))).1 → NatsAt H' y (RR.leastL k (RR.lang A E (some 0))).2 → Q (.ref p) H'
theorem ok_least_of (G : Gs K mg) (h_useful_of : Fn P w K mg base 2 d_useful_of p_useful_of (sp_useful_of K)) (h_kinds_of : Fn P w K mg base 1 d_kinds_of p_kinds_of (sp_kinds_of K)) : Fn P w K mg base 3 d_least_of p_least_of (sp_least_of K) := by
  refine fn_mk G 14 rfl sc_least_of (fun vs H Q E h => by obtain ⟨_, _, _, _, _, rfl, _⟩ := h; rfl) (fun _ _ _ _ _ _ us hl => match us, hl with | [_, _, _], _ => rfl) (fun cdv A outer s H vs Q E hr h => ?_)
  have hu1 := hu_of hr
  have hu64 := hr.units
  have hrN := roomN.of hr
  refine both (pss_cons (ps_set (i := 3) sc_least_of.nd rfl (by first | exact .inl rfl | exact .inr rfl | exact .inr (.inl rfl) | exact .inr (.inr rfl)) (pe_fn h_useful_of (hr.mono (by decide)) rfl (G.g (x := "useful_of")) (pa_cons (pv 1) (pa_cons (pe_dc rfl sc_least_of.nd (pi_tupK rfl (pv 2)) (blkOk_by (own := [("stand", 4)]) (by first | (show blkC n_least_of (defScope s_least_of) _ _ = true; decide +kernel) | rfl)) (fun _ _ _ _ _ => (pg_name sc_least_of.nd (i := 4) rfl (by first | exact .inl rfl | exact .inr rfl | exact .inr (.inl rfl) | exact .inr (.inr rfl)))) (fun _ _ _ _ _ => pts_nil) (fun _ _ _ _ _ => (pv 4)) (fun _ _ _ _ _ => pe_bl)) pa_nil))))
      (pss_cons (ps_if (pt_cmpR (op_notInK rfl) pe_int (pv 3) rfl) (pss_one (ps_ret (pe_tup (pa_cons (pe_tup (pa_cons (pe_op (op_repK rfl) (pe_tup (pa_cons pe_non pa_nil)) (pv 0)) pa_nil)) (pa_cons (pe_tup pa_nil) pa_nil))))) pss_nil)
      (pss_cons (ps_set (i := 5) sc_least_of.nd rfl (by first | exact .inl rfl | exact .inr rfl | exact .inr (.inl rfl) | exact .inr (.inr rfl)) (pe_fn h_kinds_of (hr.mono (by decide)) rfl (G.g (x := "kinds_of")) (pa_cons (pv 1) (pa_cons (pe_dc rfl sc_least_of.nd (pi_tupK rfl (pv 2)) (blkOk_by (own := [("stand", 4)]) (by first | (show blkC n_least_of (defScope s_least_of) _ _ = true; decide +kernel) | rfl)) (fun _ _ _ _ _ => (pg_name sc_least_of.nd (i := 4) rfl (by first | exact .inl rfl | exact .inr rfl | exact .inr (.inl rfl) | exact .inr (.inr rfl)))) (fun _ _ _ _ _ => pts_nil) (fun _ _ _ _ _ => (pv 4)) (fun _ _ _ _ _ => pe_bl)) (pa_cons (pv 3) pa_nil)))))
      (pss_cons (ps_par3 (i := 6) (j := 7) (l := 8) rfl sc_least_of.nd rfl rfl rfl (by decide) (by decide) (by decide) rfl rfl rfl (pa_cons (pe_disp (pps_cons (pe_dget hu1 (pv 5) pe_int (fun _ _ => rfl)) pe_int pps_nil) rfl rfl (by simp) (by decide)) (pa_cons (pe_lst (pa_cons pe_int pa_nil)) (pa_cons (pe_lst pa_nil) pa_nil))) rfl)
      (pss_cons (ps_setDc (i := 9) rfl sc_least_of.nd rfl rfl rfl (pi_tupK rfl (pv 2)) (blkOk_by (own := [("stand", 4)]) (by first | (show blkC n_least_of (defScope s_least_of) _ _ = true; decide +kernel) | rfl)) (fun _ _ _ _ _ => (pg_name sc_least_of.nd (i := 4) rfl (by first | exact .inl rfl | exact .inr rfl | exact .inr (.inl rfl) | exact .inr (.inr rfl)))) (fun _ _ _ _ _ => pts_nil) (fun _ _ _ _ _ => (pv 4)) (fun _ _ _ _ _ => pe_bl))
      (pss_cons (ps_set (i := 10) sc_least_of.nd rfl (by first | exact .inl rfl | exact .inr rfl | exact .inr (.inl rfl) | exact .inr (.inr rfl)) (pe_lst pa_nil))
      (pss_cons (ps_while PassesOwn.never (pt_cmpR op_gt (pe_callB (call_lenK rfl) rfl (G.f (x := "len")) bo_len (pa_cons (pv 7) pa_nil)) (pe_callB (call_lenK rfl) rfl (G.f (x := "len")) bo_len (pa_cons (pv 8) pa_nil)) (nomark _)) (pss_cons (ps_set (i := 4) sc_least_of.nd rfl (by first | exact .inl rfl | exact .inr rfl | exact .inr (.inl rfl) | exact .inr (.inr rfl)) (pe_ix (ix_listK rfl) (pv 7) (pe_callB (call_lenK rfl) rfl (G.f (x := "len")) bo_len (pa_cons (pv 8) pa_nil)) (fun _ _ => rfl)))
      (pss_cons (ps_if (pt_cmp (pc_din hu1 (pv 4) (pv 9))) (pss_one (ps_expr (pe_bmK rfl PySem.F.plainAttrs_list PySem.F.slot_list_append PySem.F.type_list_append mt_append (pv 10) (pa_cons (pe_callB (call_lenK rfl) rfl (G.f (x := "len")) bo_len (pa_cons (pv 8) pa_nil)) pa_nil)))) pss_nil)
      (pss_cons (ps_set (i := 11) sc_least_of.nd rfl (by first | exact .inl rfl | exact .inr rfl | exact .inr (.inl rfl) | exact .inr (.inr rfl)) (pe_lst pa_nil))
      (pss_cons (ps_for PassesOwn.never rfl (pi_tupK rfl (pe_ix (ix_tupK rfl) (pv 1) (pv 4) (fun _ _ => rfl))) (pg_name sc_least_of.nd (i := 12) rfl (by first | exact .inl rfl | exact .inr rfl | exact .inr (.inl rfl) | exact .inr (.inr rfl))) (pss_cons (ps_set (i := 13) sc_least_of.nd rfl (by first | exact .inl rfl | exact .inr rfl | exact .inr (.inl rfl) | exact .inr (.inr rfl)) (pe_getN1 hu1 (pv 5) (pv 12) ⟨rfl, rfl, rfl, rfl⟩))
      (pss_cons (ps_if (PW.pt (pw_and (pt_cmp (pc_notN (pv 13))) (pw_and1 (pt_cmp (pc_dnotinN hu1 (pv 13) (pv 6)))))) (pss_cons (ps_dput hu1 (pv 6) (pv 13) (pe_callB (call_lenK rfl) rfl (G.f (x := "len")) bo_len (pa_cons (pv 7) pa_nil)) rfl)
      (pss_one (ps_expr (pe_bmK rfl PySem.F.plainAttrs_list PySem.F.slot_list_append PySem.F.type_list_append mt_append (pv 7) (pa_cons (pv 12) pa_nil))))) pss_nil)
      (pss_one (ps_expr (pe_bmK rfl PySem.F.plainAttrs_list PySem.F.slot_list_append PySem.F.type_list_append mt_append (pv 11) (pa_cons (pe_ifExp (pt_cmp (pc_isN (pv 13))) pe_non (pe_dget hu1 (pv 6) (pv 13) (fun _ _ => rfl))) pa_nil)))))))
      (pss_one (ps_expr (pe_bmK rfl PySem.F.plainAttrs_list PySem.F.slot_list_append PySem.F.type_list_append mt_append (pv 8) (pa_cons (pe_callTy (call_tupleK rfl) rfl (G.f (x := "tuple")) bo_tuple (pa_cons (pv 11) pa_nil)) pa_nil)))))))))
      (pss_one (ps_ret (pe_tup (pa_cons (pe_callTy (call_tupleK rfl) rfl (G.f (x := "tuple")) bo_tuple (pa_cons (pv 8) pa_nil)) (pa_cons (pe_callTy (call_tupleK rfl) rfl (G.f (x := "tuple")) bo_tuple (pa_cons (pv 10) pa_nil)) pa_nil)))))))))))) ?_
  obtain ⟨vA, vE, k, B, F, rfl, hA, ⟨be, rfl, hbe⟩, ok, hk, h60, nd, hF, q⟩ := h
  have ndE := nd
  refine ⟨_, rfl, dc_setT nd (by have := RR.nodup_len nd (m := List.range B.length) fun x hx => List.mem_range.mpr (hF x hx); simp at this; omega) (fun Kt h => ⟨_, rfl, h⟩) hbe (fun _ => rfl) (fun _ => rfl) fun de H1 hde0 e1 h1 => ?_⟩
  have hFl : F.length ≤ 10000 := by have := RR.nodup_len nd (m := List.range B.length) fun x hx => List.mem_range.mpr (hF x hx); simp at this; omega
  refine ⟨vA, de, k, B, F, rfl, hA.mono (same_tups e1), h1, ok, hk.2, by omega, nd, hF, fun H2 l p e2 h2 hp => ?_⟩
  have e12 := e1.trans e2
  obtain ⟨U, hU⟩ : ∃ U, U = (List.range B.length).filter p := ⟨_, rfl⟩
  have hz0 := RR.zero_useful hp ok
  have hUse := RR.useful_of hp ok
  have hUne : ∀ x ∈ U, RR.lang B F (some x) ≠ RR.emp := fun x hx => RR.useful_ne hp (by rw [← hU]; exact hx)
  rw [← hU] at h2 hz0 hUse
  have hUnd : U.Nodup := by rw [hU]; exact List.nodup_range.filter _
  have hUlt : ∀ x ∈ U, x < B.length := fun x hx => by rw [hU] at hx; exact List.mem_range.mp (List.mem_filter.mp hx).1
  have hUlen : U.length ≤ B.length := by rw [hU]; have := List.length_filter_le p (List.range B.length); simpa using this
  clear hU hp
  refine ⟨_, rfl, l, _, rfl, .inl (sqL h2), rfl, flat_nats U, _, rfl, ?_⟩
  rw [if_pos rfl, show inV (V.int 0) (U.map nv) = RR.isEnd U (some 0) from in_nats (some 0) U]
  obtain ⟨L, hL⟩ : ∃ L, L = RR.lang B F (some 0) := ⟨_, rfl⟩
  rw [← hL] at q hz0
  by_cases h0 : 0 ∈ U
  case neg =>
    rw [show RR.isEnd U (some 0) = false from decide_eq_false h0]
    have hLe : L = RR.emp := Classical.byContradiction fun h => h0 (hz0.mpr h)
    rw [hLe, RR.least_emp] at q
    refine iteT ⟨Evl.sz_of (show 1 ≤ 100000 by decide), fun l0 hl0 => ⟨_, rfl, rep_none upd_same hk fun b H3 e3 hb => ⟨Evl.sz_of (show 1 ≤ 100000 by decide), fun c hc => ⟨Evl.sz_of (show 0 ≤ 100000 by decide), fun d hd => ⟨Evl.sz_of (show 2 ≤ 100000 by decide), fun pp hpp => ?_⟩⟩⟩⟩⟩
    have sA := (same_new (o := .tup [.ref b]) hc).trans ((same_new (o := .tup []) hd).trans (same_new (o := .tup [.ref c, .ref d]) hpp))
    refine q _ pp (.ref c) (.ref d) (((e12.trans (same_new hl0)).trans e3).trans sA) upd_same ?_ ?_
    · exact ArrAt.mono (same_tups ((same_new hd).trans (same_new hpp))) (none_arr upd_same (same_new hc _ _ hb))
    · exact ⟨d, rfl, by rw [upd_ne (ne_of_none (show upd (upd H3 c (.tup [.ref b])) d (.tup []) d = _ from upd_same) hpp), upd_same]; rfl⟩
  have hLne := hz0.mp h0
  rw [show RR.isEnd U (some 0) = true from decide_eq_true h0]
  refine iteF ⟨_, rfl, dc_setT nd hFl (fun Kt h => ⟨_, rfl, h⟩) (e12 _ _ hbe) (fun _ => rfl) (fun _ => rfl) fun de2 H3 hde2 e3 h3 => ?_⟩
  have e13 := e12.trans e3
  refine ⟨_, rfl, vA, de2, l, k, B, F, U, rfl, hA.mono (same_tups e13), h3, e3 _ _ h2, ok, hk.2, hUnd, (fun h => by rw [h] at h0; cases h0), hUlt, by omega, hUse, fun H4 kd κ e4 h4 hκ hκ0 => ?_⟩
  have e14 := e13.trans e4
  intro nD hnD
  have dg0 := DGet.k (k := .inl ((0 : Nat) : Int)) (show upd H4 nD (.dK []) kd = _ from same_new hnD _ _ h4)
  rw [dictF_val, if_pos h0] at dg0
  refine ⟨_, rfl, kd, _, rfl, dg0, upd_same, [(.inl (κ 0), .int 0)], rfl, by show 1 ≤ 15; decide, Evl.sz_of (show 1 ≤ 100000 by decide), fun ll hll => ⟨Evl.sz_of (show 0 ≤ 100000 by decide), fun rl hrl => ⟨_, _, _, rfl, ?_⟩⟩⟩
  have hn4 : H4 nD = none := hnD
  have hll1 : upd (upd H4 nD (.dK [])) nD (.dK (mergeK [] [(.inl (κ 0), .int 0)])) ll = none := hll
  have d1 : ll ≠ nD := fun z => by rw [z, upd_same] at hll1; cases hll1
  have hll0 : H4 ll = none := by rw [upd_ne d1, upd_ne d1] at hll1; exact hll1
  have d2 : rl ≠ ll := fun z => by rw [z, upd_same] at hrl; cases hrl
  have d3 : rl ≠ nD := fun z => by rw [z, upd_ne (Ne.symm d1), upd_same] at hrl; cases hrl
  have hrl0 : H4 rl = none := by rw [upd_ne d2, upd_ne d3, upd_ne d3] at hrl; exact hrl
  have d4 : kd ≠ nD := ne_of_none h4 hn4
  have d5 : kd ≠ ll := ne_of_none h4 hll0
  have d6 : kd ≠ rl := ne_of_none h4 hrl0
  have back : ∀ c, H4 c = none → H c = none := fun c hc => by
    cases z : H c with
    | none => rfl
    | some o => have := e14 _ _ z; rw [hc] at this; cases this
  have gn := back _ hn4
  have gl := back _ hll0
  have gr := back _ hrl0
  have e7 : Same H (upd (upd (upd (upd H4 nD (.dK [])) nD (.dK (mergeK [] [(.inl (κ 0), .int 0)]))) ll (.lst [.int 0])) rl (.lst [])) := same_mut (same_mut (same_mut (same_mut e14 gn) gn) gl) gr
  have k7 : upd (upd (upd (upd H4 nD (.dK [])) nD (.dK (mergeK [] [(.inl (κ 0), .int 0)]))) ll (.lst [.int 0])) rl (.lst []) kd = some (.dK (dictF U fun x => .int (κ x))) := by rw [upd_ne d6, upd_ne d5, upd_ne d4, upd_ne d4]; exact h4
  have n7 : upd (upd (upd (upd H4 nD (.dK [])) nD (.dK (mergeK [] [(.inl (κ 0), .int 0)]))) ll (.lst [.int 0])) rl (.lst []) nD = some (.dK [(.inl (κ 0), nv 0)]) := by rw [upd_ne (Ne.symm d3), upd_ne (Ne.symm d1), upd_same]; rfl
  have l7 : upd (upd (upd (upd H4 nD (.dK [])) nD (.dK (mergeK [] [(.inl (κ 0), .int 0)]))) ll (.lst [.int 0])) rl (.lst []) ll = some (.lst ([0].map nv)) := by rw [upd_ne (Ne.symm d2), upd_same]; rfl
  have r7 : upd (upd (upd (upd H4 nD (.dK [])) nD (.dK (mergeK [] [(.inl (κ 0), .int 0)]))) ll (.lst [.int 0])) rl (.lst []) rl = some (.lst []) := upd_same
  generalize upd (upd (upd (upd H4 nD (.dK [])) nD (.dK (mergeK [] [(.inl (κ 0), .int 0)]))) ll (.lst [.int 0])) rl (.lst []) = H7 at e7 k7 n7 l7 r7
  dsimp only
  refine seq_asg (dc_setT nd hFl (fun Kt h => ⟨_, rfl, h⟩) (e7 _ _ hbe) (fun _ => rfl) (fun _ => rfl) fun fd H8 hfd0 e8 f8 => ?_)
  have c1 : nD ≠ fd := ne_of_none n7 hfd0
  have c2 : ll ≠ fd := ne_of_none l7 hfd0
  have c3 : rl ≠ fd := ne_of_none r7 hfd0
  have c4 : kd ≠ fd := ne_of_none k7 hfd0
  refine ⟨Evl.sz_of (show 0 ≤ 100000 by decide), fun sl hsl => ?_⟩
  have b1 : nD ≠ sl := ne_of_none (e8 _ _ n7) hsl
  have b2 : ll ≠ sl := ne_of_none (e8 _ _ l7) hsl
  have b3 : rl ≠ sl := ne_of_none (e8 _ _ r7) hsl
  have b4 : kd ≠ sl := ne_of_none (e8 _ _ k7) hsl
  have b5 : fd ≠ sl := ne_of_none f8 hsl
  have e9 := (e7.trans e8).trans (same_new (o := .lst []) hsl)
  have gs : H sl = none := by
    cases z : H sl with
    | none => rfl
    | some o => have := (e7.trans e8) _ _ z; rw [hsl] at this; cases this
  have ta8 : ∀ c o, H7 c = some o → upd H8 sl (.lst []) c = some o := fun c o h => same_new hsl _ _ (e8 _ _ h)
  have Fs : Nat → RR.Lg := fun x => RR.lang B F (some x)
  obtain ⟨Pv, hPv⟩ : ∃ Pv : Nat → L2.St → Hp → Prop, ∀ m σ' H', Pv m σ' H' ↔ ∃ (s : RR.LS) (ln : List Nat) (kvs : List (Key × V)) (i : Nat) (z4 z11 z12 z13 : Option V), m + i = U.length + 1 ∧ s = RR.lsIter k i ⟨[L], [], []⟩ ∧ s.rows.length = i ∧ s.line = ln.map (fun x => RR.lang B F (some x)) ∧ s.line.Nodup ∧ (∀ x ∈ ln, x ∈ U) ∧ i ≤ ln.length ∧ s.shut.length ≤ i ∧ Same H H' ∧
    σ' = [some (nv k), some vA, some (.ref be), some (.ref l), z4, some (.ref kd), some (.ref nD), some (.ref ll), some (.ref rl), some (.ref fd), some (.ref sl), z11, z12, z13] ∧ H' kd = some (.dK (dictF U fun x => .int (κ x))) ∧ H' fd = some (.dK (setK F)) ∧ H' nD = some (.dK kvs) ∧ Nums κ kvs ln ∧ H' ll = some (.lst (ln.map nv)) ∧ RowsAt H' rl s.rows ∧ H' sl = some (.lst (s.shut.map nv)) := ⟨_, fun _ _ _ => Iff.rfl⟩
  refine ⟨Pv, ⟨U.length + 1, (hPv _ _ _).mpr ⟨⟨[L], [], []⟩, [0], [(.inl (κ 0), nv 0)], 0, _, _, _, _, rfl, rfl, rfl, by rw [hL]; rfl, by simp, by simpa using h0, by simp, by simp, e9, rfl, ta8 _ _ k7, same_new hsl _ _ f8, ta8 _ _ n7, ?_, ta8 _ _ l7, ?_, upd_same⟩⟩, ?_⟩
  · refine ⟨fun i q hq => ?_, fun z hz => ?_, Nat.le_refl _⟩
    · cases i with
      | zero => cases hq; exact valV_pos rfl
      | succ i => simp at hq
    · by_cases e : (Sum.inl (κ 0) : Key) = .inl z
      · exact ⟨0, by simp, Sum.inl.inj e⟩
      · rw [valV_neg e] at hz
        exact absurd rfl hz
  · exact ⟨[], ta8 _ _ r7, rfl, fun i x r h => by simp at h⟩
  intro m σ' H' hp
  obtain ⟨s, ln, kvs, i, z4, z11, z12, z13, hm, hs, hsr, hsl2, hsn, hlU, hile, hshl, e10, rfl, k10, f10, n10, nums, l10, r10, s10⟩ := (hPv _ _ _).mp hp
  have hlnd : ln.Nodup := nodup_of_map (f := fun x => RR.lang B F (some x)) (by rw [← hsl2]; exact hsn)
  have hlnU := RR.nodup_len hlnd hlU
  obtain ⟨rs, hrs, hrsl, hrsz⟩ := id r10
  refine ⟨_, rfl, ll, _, rfl, .inl (sqL l10), _, rfl, rl, rs, rfl, .inl (sqL hrs), _, _, rfl, rfl, _, rfl, ?_⟩
  by_cases hil : i < ln.length
  case neg =>
    rw [decide_eq_false (by rw [List.length_map]; omega)]
    have hw := RR.ls_whole hLne hs (by omega) (by rw [hsl2, List.length_map]; omega)
    rw [hw] at q
    refine iteF ⟨_, rfl, rl, rs, rfl, .inl ⟨sqL hrs, fun t1 ht1 => ⟨_, rfl, sl, _, rfl, .inl ⟨sqL (same_new ht1 _ _ s10), fun t2 ht2 => ⟨Evl.sz_of (show 2 ≤ 100000 by decide), fun pp hpp => ?_⟩⟩⟩⟩⟩
    have sB := (same_new (o := .tup rs) ht1).trans ((same_new (o := .tup (s.shut.map nv)) ht2).trans (same_new (o := .tup [.ref t1, .ref t2]) hpp))
    have sC := (same_new (o := .tup (s.shut.map nv)) ht2).trans (same_new (o := .tup [.ref t1, .ref t2]) hpp)
    refine q _ pp (.ref t1) (.ref t2) (e10.trans sB) upd_same ?_ ?_
    · exact ⟨t1, rs, rfl, sC _ _ upd_same, hrsl, fun j x r g1 g2 => (hrsz j x r g1 g2).mono (same_tups sB)⟩
    · exact ⟨t2, rfl, same_new hpp _ _ upd_same⟩
  rw [decide_eq_true (by rw [List.length_map]; omega)]
  obtain ⟨st, hst⟩ : ∃ st, ln[i]? = some st := ⟨_, List.getElem?_eq_getElem hil⟩
  have hstU := hlU st (List.mem_of_getElem? hst)
  have hstB := hUlt st hstU
  have hline : s.line[s.rows.length]? = some (RR.lang B F (some st)) := by rw [hsl2, hsr, List.getElem?_map, hst]; rfl
  have hstep := RR.ls_step (k := k) hline
  have hnil : RR.lang B F (some st) [] = decide (st ∈ F) := rfl
  refine iteT ⟨fun σ' H' => ∃ m', m' < m ∧ Pv m' σ' H', fun _ _ h => h, _, rfl, _, rfl, rl, rs, rfl, .inl (sqL hrs), ll, _, _, nv st, rfl, rfl, sqL l10, atE (j := i) (by rw [hrsl, hsr]) (by rw [List.getElem?_map, hst]; rfl), ?_⟩
  dsimp only [gName]
  refine shut_if rfl rfl rfl rfl f10 hrs s10 (by rw [hrsl, hsr]) (by omega) fun H5 sh' hor s5 hsh' => ?_
  have e5 : Same H H5 := by
    rcases hor with rfl | rfl
    · exact e10
    · exact same_mut e10 gs
  have ot : ∀ c o, c ≠ sl → H' c = some o → H5 c = some o := fun c o hc h => by
    rcases hor with rfl | rfl
    · exact h
    · rw [upd_ne hc]; exact h
  have k5 := ot _ _ b4 k10
  have f5 := ot _ _ b5 f10
  have n5 := ot _ _ b1 n10
  have l5 := ot _ _ b2 l10
  have r5 : RowsAt H5 rl s.rows := by
    rcases hor with rfl | rfl
    · exact r10
    · exact r10.at (upd_ne b3) (Tups.upd s10 (fun xs z => nomatch z))
  clear hor ot
  refine ⟨Evl.sz_of (show 0 ≤ 100000 by decide), fun rw hrw => ?_⟩
  have a1 : nD ≠ rw := ne_of_none n5 hrw
  have a2 : ll ≠ rw := ne_of_none l5 hrw
  have a3 : kd ≠ rw := ne_of_none k5 hrw
  have a4 : fd ≠ rw := ne_of_none f5 hrw
  have a5 : sl ≠ rw := ne_of_none s5 hrw
  have a6 : rl ≠ rw := by obtain ⟨rs, h, _⟩ := id r5; exact ne_of_none h hrw
  have grw : H rw = none := by
    cases z : H rw with
    | none => rfl
    | some o => have := e5 _ _ z; rw [hrw] at this; cases this
  obtain ⟨a, rs2, rfl, ha, hlr, hz⟩ := hA
  obtain ⟨b, row, g1, g2, g3, g4, _⟩ := cell hlr hz ok hstB hk.1
  have hrow : row = B[st] := by rw [List.getElem?_eq_getElem hstB] at g2; exact (Option.some.inj g2).symm
  have e6 := e5.trans (same_new (o := .lst []) hrw)
  refine ⟨_, rfl, _, rfl, a, rs2, _, _, rfl, rfl, sqT (e6 _ _ ha), atE (j := st) rfl g1, b, rfl, ⟨_, sqT (e6 _ _ g3)⟩, ?_⟩
  have nw : ∀ c o, H5 c = some o → upd H5 rw (.lst []) c = some o := fun c o h => same_new hrw _ _ h
  refine for_it walk_tup (fun j σ' H2 => ∃ (x : List (Option Nat) × List RR.Lg) (ln2 : List Nat) (kvs2 : List (Key × V)) (z12 z13 : Option V), x = RR.rowFrom (RR.lang B F (some st)) ([], s.line) (List.range j) ∧ x.2 = ln2.map (fun y => RR.lang B F (some y)) ∧ x.2.Nodup ∧ (∀ y ∈ ln2, y ∈ U) ∧ ln.length ≤ ln2.length ∧ x.1.length = j ∧ Same H H2 ∧
    σ' = [some (nv k), some (.ref a), some (.ref be), some (.ref l), some (nv st), some (.ref kd), some (.ref nD), some (.ref ll), some (.ref rl), some (.ref fd), some (.ref sl), some (.ref rw), z12, z13] ∧ H2 kd = some (.dK (dictF U fun x => .int (κ x))) ∧ H2 fd = some (.dK (setK F)) ∧ H2 nD = some (.dK kvs2) ∧ Nums κ kvs2 ln2 ∧ H2 ll = some (.lst (ln2.map nv)) ∧
    RowsAt H2 rl s.rows ∧ H2 sl = some (.lst (sh'.map nv)) ∧ H2 rw = some (.lst (x.1.map onv))) ⟨_, ln, kvs, _, _, rfl, hsl2, hsn, hlU, Nat.le_refl _, rfl, e6, rfl, nw _ _ k5, nw _ _ f5, nw _ _ n5, nums, nw _ _ l5, r5.same (same_new hrw), nw _ _ s5, upd_same⟩ (fun j σ' H2 _ ⟨_, _, _, _, _, _, _, _, _, _, _, e, _⟩ => sqT (e _ _ g3)) ?_ ?_
  · rintro j y σ' _ H2 hj ⟨x, ln2, kvs2, w12, w13, hx, hx2, hxn, hlU2, hll2, hxl, e7', rfl, p1, p2, p3, p4, p5, p6, p7, p8⟩ ⟨rfl, hy⟩
    rw [List.length_map, g4] at hj
    rw [List.getElem?_map] at hy
    obtain ⟨o, ho, rfl⟩ := Option.map_eq_some_iff.mp hy
    have hgo : RR.goalAt B st j = o := by
      rw [goalAt_get hstB (by rw [← hrow]; omega)]
      subst hrow
      rw [List.getElem?_eq_getElem (by omega)] at ho
      exact Option.some.inj ho
    have hder : RR.deriv (RR.lang B F (some st)) j = RR.lang B F o := by rw [RR.deriv_lang]; show RR.lang B F (RR.goalAt B st j) = _; rw [hgo]
    have hsucc := RR.rowFrom_succ (RR.lang B F (some st)) ([], s.line) j
    rw [← hx] at hsucc
    have hln2 := RR.nodup_len (nodup_of_map (f := fun y => RR.lang B F (some y)) (by rw [← hx2]; exact hxn)) hlU2
    have fin : ∀ (x' : List (Option Nat) × List RR.Lg) (ln3 : List Nat) (kvs3 : List (Key × V)) (g : Option Nat) (z12 z13 : Option V) (H6 : Hp), x' = RR.rowStep (RR.lang B F (some st)) x j → x'.1 = x.1 ++ [g] → x'.2 = ln3.map (fun y => RR.lang B F (some y)) → x'.2.Nodup → (∀ y ∈ ln3, y ∈ U) → ln2.length ≤ ln3.length → Same H H6 →
        H6 kd = some (.dK (dictF U fun x => .int (κ x))) → H6 fd = some (.dK (setK F)) → H6 nD = some (.dK kvs3) → Nums κ kvs3 ln3 → H6 ll = some (.lst (ln3.map nv)) → RowsAt H6 rl s.rows → H6 sl = some (.lst (sh'.map nv)) → H6 rw = some (.lst (x.1.map onv)) →
        ∃ (x : List (Option Nat) × List RR.Lg) (ln2 : List Nat) (kvs2 : List (Key × V)) (y12 y13 : Option V), x = RR.rowFrom (RR.lang B F (some st)) ([], s.line) (List.range (j + 1)) ∧ x.2 = ln2.map (fun y => RR.lang B F (some y)) ∧ x.2.Nodup ∧ (∀ y ∈ ln2, y ∈ U) ∧ ln.length ≤ ln2.length ∧ x.1.length = j + 1 ∧ Same H (upd H6 rw (.lst (x'.1.map onv))) ∧
          ([some (nv k), some (.ref a), some (.ref be), some (.ref l), some (nv st), some (.ref kd), some (.ref nD), some (.ref ll), some (.ref rl), some (.ref fd), some (.ref sl), some (.ref rw), z12, z13] : L2.St) = [some (nv k), some (.ref a), some (.ref be), some (.ref l), some (nv st), some (.ref kd), some (.ref nD), some (.ref ll), some (.ref rl), some (.ref fd), some (.ref sl), some (.ref rw), y12, y13] ∧
          upd H6 rw (.lst (x'.1.map onv)) kd = some (.dK (dictF U fun x => .int (κ x))) ∧ upd H6 rw (.lst (x'.1.map onv)) fd = some (.dK (setK F)) ∧ upd H6 rw (.lst (x'.1.map onv)) nD = some (.dK kvs2) ∧ Nums κ kvs2 ln2 ∧ upd H6 rw (.lst (x'.1.map onv)) ll = some (.lst (ln2.map nv)) ∧
          RowsAt (upd H6 rw (.lst (x'.1.map onv))) rl s.rows ∧ upd H6 rw (.lst (x'.1.map onv)) sl = some (.lst (sh'.map nv)) ∧ upd H6 rw (.lst (x'.1.map onv)) rw = some (.lst (x.1.map onv)) := by
      intro x' ln3 kvs3 g y12 y13 H6 q1 q2 q3 q4 q5 q6 q7 q8 q9 q10 q11 q12 q13 q14 q15
      exact ⟨x', ln3, kvs3, y12, y13, by rw [hsucc, q1], q3, q4, q5, by omega, by rw [q2, List.length_append, hxl]; rfl, same_mut q7 grw, rfl, by rw [upd_ne a3]; exact q8, by rw [upd_ne a4]; exact q9, by rw [upd_ne a1]; exact q10, q11, by rw [upd_ne a2]; exact q12, q13.at (upd_ne a6) (Tups.upd q15 (fun xs z => nomatch z)), by rw [upd_ne a5]; exact q14, upd_same⟩
    have sm : (x.1.map onv).length < sizeLine := small (by rw [List.length_map]; omega)
    by_cases hin : ∃ g, o = some g ∧ g ∈ U
    · obtain ⟨g, rfl, hg⟩ := hin
      have hne := hUne g hg
      refine ⟨_, rfl, kd, rfl, .inl ⟨_, .inl p1⟩, _, rfl, _, .inl p1, .inr ⟨.inl (g : Int), rfl, ?_⟩⟩
      rw [dictF_val, if_pos hg, Option.getD_some]
      refine ⟨_, rfl, _, rfl, iteT ⟨_, rfl, _, rfl, .inl ⟨nD, _, rfl, DGet.k (k := .inl (κ g)) p3, _, rfl, ?_⟩⟩⟩
      cases e2 : valV kvs2 (.inl (κ g)) with
      | some jv =>
        obtain ⟨y, hy, hky⟩ := p4.src (κ g) (by rw [e2]; simp)
        obtain ⟨i', hi'⟩ := List.mem_iff_getElem?.mp hy
        have h1 := p4.at_ i' y hi'
        rw [hky, e2] at h1
        have h1 := Option.some.inj h1
        subst h1
        have hlang := (hκ y (hlU2 y hy) g hg).mp hky
        have hxi : x.2[i']? = some (RR.deriv (RR.lang B F (some st)) j) := by rw [hx2, List.getElem?_map, hi', hder, ← hlang]; rfl
        have hst' := RR.row_old hxn (by rw [hder]; exact hne) hxi
        have hfin := fin (x.1 ++ [some i'], x.2) ln2 kvs2 (some i') (some (nv g)) (some (.int (κ g))) H2 hst'.symm rfl hx2 hxn hlU2 (Nat.le_refl _) e7' p1 p2 p3 p4 p5 p6 p7 p8
        rw [List.map_append] at hfin
        refine iteF ⟨_, rfl, .inl ⟨rfl, _, sqL p8⟩, _, rfl, _, rfl, iteF ⟨_, rfl, _, rfl, nD, nv i', rfl, ?_, rw, _, _, rfl, rfl, p8, sm, hfin⟩⟩
        have dg := DGet.k (k := .inl (κ g)) p3
        rw [e2] at dg
        exact dg
      | none =>
        have hnin : RR.deriv (RR.lang B F (some st)) j ∉ x.2 := fun hm => by
          rw [hx2, hder] at hm
          obtain ⟨y, hy, e⟩ := List.mem_map.mp hm
          have hky := (hκ y (hlU2 y hy) g hg).mpr e
          obtain ⟨i', hi'⟩ := List.mem_iff_getElem?.mp hy
          have h1 := p4.at_ i' y hi'
          rw [hky, e2] at h1
          cases h1
        have hst' := RR.row_new (by rw [hder]; exact hne) hnin
        have hlen2 : x.2.length = ln2.length := by rw [hx2, List.length_map]
        refine iteT ⟨_, rfl, ll, _, rfl, .inl (sqL p5), _, rfl, _, rfl, nD, _, rfl, DPut.k (k := .inl (κ g)) p3 (small (by have := p4.len; omega)), ?_⟩
        rw [List.length_map]
        have l6 : upd H2 nD (.dK (putK kvs2 (.inl (κ g)) (V.int (ln2.length : Nat)))) ll = some (.lst (ln2.map nv)) := by rw [upd_ne d1]; exact p5
        refine ⟨_, rfl, .inl ⟨rfl, _, sqL l6⟩, _, rfl, ll, _, _, rfl, rfl, l6, small (by rw [List.length_map]; omega), ?_⟩
        obtain ⟨H6, hH6⟩ : ∃ H6, H6 = upd (upd H2 nD (.dK (putK kvs2 (.inl (κ g)) (V.int (ln2.length : Nat))))) ll (.lst (ln2.map nv ++ [onv (some g)])) := ⟨_, rfl⟩
        have o6 : ∀ c u, c ≠ nD → c ≠ ll → H2 c = some u → H6 c = some u := fun c u h1 h2 h3 => by rw [hH6, upd_ne h2, upd_ne h1]; exact h3
        have n6 : H6 nD = some (.dK (putK kvs2 (.inl (κ g)) (nv ln2.length))) := by rw [hH6, upd_ne (Ne.symm d1), upd_same]; rfl
        have l7' : H6 ll = some (.lst ((ln2 ++ [g]).map nv)) := by rw [hH6, upd_same, List.map_append]; rfl
        have t6 : Tups H2 H6 := by rw [hH6]; exact (Tups.upd p3 (fun xs z => nomatch z)).trans (Tups.upd l6 (fun xs z => nomatch z))
        have r6 : RowsAt H6 rl s.rows := p6.at (by rw [hH6, upd_ne d2, upd_ne d3]) t6
        have w6 := o6 _ _ (Ne.symm a1) (Ne.symm a2) p8
        have nums6 := p4.add e2
        have hfin := fin (x.1 ++ [some x.2.length], x.2 ++ [RR.deriv (RR.lang B F (some st)) j]) (ln2 ++ [g]) (putK kvs2 (.inl (κ g)) (nv ln2.length)) (some x.2.length) (some (nv g)) (some (.int (κ g))) H6 hst'.symm rfl
          (by rw [List.map_append, ← hx2, hder]; rfl) (by
            rw [List.nodup_append]
            refine ⟨hxn, by simp, fun u hu v hv e => ?_⟩
            simp at hv
            subst hv e
            exact hnin hu) (fun y hy => by
            rcases List.mem_append.mp hy with hy | hy
            · exact hlU2 y hy
            · simp at hy
              subst hy
              exact hg) (by simp) (by rw [hH6]; exact same_mut (same_mut e7' gn) gl) (o6 _ _ d4 d5 p1) (o6 _ _ (Ne.symm c1) (Ne.symm c2) p2) n6 nums6 l7' r6 (o6 _ _ (Ne.symm b1) (Ne.symm b2) p7) w6
        rw [List.map_append, hlen2] at hfin
        rw [← hH6]
        refine ⟨_, rfl, .inl ⟨rfl, _, sqL w6⟩, _, rfl, _, rfl, iteF ⟨_, rfl, _, rfl, nD, nv ln2.length, rfl, ?_, rw, _, _, rfl, rfl, w6, sm, hfin⟩⟩
        have dg := DGet.k (k := .inl (κ g)) n6
        rw [valV_put, if_pos rfl] at dg
        exact dg
    · have hemp : RR.deriv (RR.lang B F (some st)) j = RR.emp := by
        rw [hder]
        cases o with
        | none => exact RR.lang_none _ _
        | some g => exact Classical.byContradiction fun h => hin ⟨g, rfl, (hUse st hstU j g hgo).mpr h⟩
      have hst' := RR.row_emp (x := x) hemp
      have hfin := fin (x.1 ++ [none], x.2) ln2 kvs2 none (some (onv o)) (some .non) H2 hst'.symm rfl hx2 hxn hlU2 (Nat.le_refl _) e7' p1 p2 p3 p4 p5 p6 p7 p8
      rw [List.map_append] at hfin
      refine ⟨_, rfl, kd, rfl, .inl ⟨_, .inl p1⟩, _, rfl, _, .inl p1, ?_⟩
      cases o with
      | none => exact .inl ⟨rfl, _, rfl, _, rfl, iteF (iteF ⟨_, rfl, .inl ⟨rfl, _, sqL p8⟩, _, rfl, _, rfl, iteT ⟨rw, _, _, rfl, rfl, p8, sm, hfin⟩⟩)⟩
      | some g =>
        refine .inr ⟨.inl (g : Int), rfl, ?_⟩
        rw [dictF_val, if_neg (fun h => hin ⟨g, rfl, h⟩), Option.getD_none]
        exact ⟨_, rfl, _, rfl, iteF (iteF ⟨_, rfl, .inl ⟨rfl, _, sqL p8⟩, _, rfl, _, rfl, iteT ⟨rw, _, _, rfl, rfl, p8, sm, hfin⟩⟩)⟩
  · rintro σ' H2 ⟨x, ln2, kvs2, w12, w13, hx, hx2, hxn, hlU2, hll2, hxl, e7', rfl, p1, p2, p3, p4, p5, p6, p7, p8⟩
    rw [List.length_map, g4] at hx hxl
    obtain ⟨rs3, hrs3, hrs3l, hrs3z⟩ := id p6
    rw [← hx] at hstep
    refine ⟨_, rfl, .inl ⟨rfl, _, sqL hrs3⟩, _, rfl, rw, _, rfl, .inl ⟨sqL p8, fun t ht => ⟨rl, rs3, _, rfl, rfl, same_new ht _ _ hrs3, small (by omega), m - 1, by omega, (hPv _ _ _).mpr ?_⟩⟩⟩
    have q6 := (p6.same (same_new (o := .tup (x.1.map onv)) ht)).snoc (same_new ht _ _ hrs3) (r := x.1) upd_same
    have ne : ∀ c u, H2 c = some u → c ≠ rl → upd (upd H2 t (.tup (x.1.map onv))) rl (.lst (rs3 ++ [.ref t])) c = some u := fun c u h1 h2 => by rw [upd_ne h2]; exact same_new ht _ _ h1
    refine ⟨RR.lsStep k s, ln2, kvs2, i + 1, _, _, _, _, by omega, by rw [RR.lsIter_succ, ← hs], by rw [hstep]; simp [hsr], by rw [hstep]; exact hx2, by rw [hstep]; exact hxn, hlU2, by omega, ?_, same_mut (e7'.trans (same_new ht)) gr, rfl, ne _ _ p1 d6, ne _ _ p2 (Ne.symm c3), ne _ _ p3 (Ne.symm d3), p4, ne _ _ p5 (Ne.symm d2), ?_, ?_⟩
    · rw [hstep]
      dsimp only
      split
      · rw [List.length_append]
        simp
        omega
      · omega
    · rw [hstep]
      exact q6
    · have eshut : (RR.lsStep k s).shut = sh' := by
        rw [hstep, hsh', hnil, hsr]
      rw [eshut]
      exact ne _ _ p7 (Ne.symm b3)
def sp_made (K : PySem.W.Frag) : Sp := fun vs H Q _ => ∃ (vA vE : V) (k : Nat) (A : RR.Arr) (E : List Nat), vs = [nv k, vA, vE] ∧ ArrAt H vA A ∧ NatsAt H vE E ∧ RR.ArrOk k A ∧ (1 ≤ k ∧ k ≤ 8) ∧ A.length < 60 ∧ E.Nodup ∧ (∀ e ∈ E, e < A.length) ∧
  ∀ H' r, Same H H' → InsAt (CR_ K) H' r k (RR.leastL k (RR.lang A E (some 0))).1 (RR.leastL k (RR.lang A E (some 0))).2 → Q r H'
theorem ok_made (G : Gs K mg) (h_least_of : Fn P w K mg base 3 d_least_of p_least_of (sp_least_of K)) (h_Reader_init : Fn P w K mg base 4 d_Reader_init p_Reader_init (sp_Reader_init K)) : Fn P w K mg base 6 d_made p_made (sp_made K) := by
  refine fn_mk G 15 rfl sc_made (fun vs H Q E h => by obtain ⟨_, _, _, _, _, rfl, _⟩ := h; rfl) (fun _ _ _ _ _ _ us hl => match us, hl with | [_, _, _], _ => rfl) (fun cdv A outer s H vs Q E hr h => ?_)
  have hu1 := hu_of hr
  have hu64 := hr.units
  have hrN := roomN.of hr
  obtain ⟨_, gi2⟩ := G.i2
  refine both (pss_cons (ps_asg (pe_fn h_least_of (hr.mono (by decide)) rfl (G.g (x := "least_of")) (pa_cons (pv 0) (pa_cons (pv 1) (pa_cons (pv 2) pa_nil)))) (pg_tupK (n := 2) rfl rfl (pgs_cons (pg_name sc_made.nd (i := 3) rfl (by first | exact .inl rfl | exact .inr rfl | exact .inr (.inl rfl) | exact .inr (.inr rfl))) (pgs_cons (pg_name sc_made.nd (i := 4) rfl (by first | exact .inl rfl | exact .inr rfl | exact .inr (.inl rfl) | exact .inr (.inr rfl))) pgs_nil))))
      (pss_cons (ps_if (pt_cmpR op_gt (pe_callB (call_lenK rfl) rfl (G.f (x := "len")) bo_len (pa_cons (pv 3) pa_nil)) (pe_glob rfl gi2 ⟨_, rfl⟩ (v := .int 200)) (nomark _)) pss_never pss_nil)
      (pss_one (ps_ret (pe_mk (d := d_Reader_init) G.rc.mkr h_Reader_init (hr.mono (by decide)) rfl (G.g (x := "Reader")) (pa_cons (pv 0) (pa_cons (pv 3) (pa_cons (pv 4) pa_nil)))))))) ?_
  obtain ⟨vA, vE, k, B, F, rfl, hA, hE, ok, hk, h60, nd, hF, q⟩ := h
  have hE' : NatsAt H vE F := hE
  refine ⟨_, rfl, _, rfl, _, rfl, vA, vE, k, B, F, rfl, hA, hE, ok, hk, h60, nd, hF, fun H1 p x y e1 hp hx hy => ⟨p, _, rfl, sqT hp, rfl, _, _, rfl, _, _, rfl, rfl, ?_⟩⟩
  have hl := RR.least_arr (n := 60) ok F (by omega) (by omega)
  obtain ⟨A', hA'⟩ : ∃ A', A' = (RR.leastL k (RR.lang B F (some 0))).1 := ⟨_, rfl⟩
  obtain ⟨E', hE'⟩ : ∃ E', E' = (RR.leastL k (RR.lang B F (some 0))).2 := ⟨_, rfl⟩
  rw [← hA', ← hE'] at hl q
  rw [← hA'] at hx
  rw [← hE'] at hy
  have hEl : E'.length ≤ 60 := by
    have h1 := RR.nodup_len (hl.asc.imp (fun h => Nat.ne_of_lt h)) (m := List.range A'.length) fun x hx => List.mem_range.mpr (hl.lt x hx)
    have := hl.few
    simp at h1
    omega
  obtain ⟨a, rs, rfl, ha, hrl, hz⟩ := id hx
  have hfew := hl.few
  refine ⟨_, rfl, a, rs, rfl, .inr (sqT ha), _, _, rfl, rfl, _, rfl, ?_⟩
  rw [decide_eq_false (by omega)]
  refine iteF ⟨_, rfl, _, rfl, _, rfl, ?_⟩
  intro z dx hz1 hdx hne
  have sB := new_ins (C := CR_ K) hz1 hdx
  refine ⟨z, dx, _, _, k, A', E', rfl, upd_same, hx.mono (same_tups sB), hy.mono (same_tups sB), hk, hl.ok, by omega, hl.asc, hl.lt, by omega, fun H' t e h1 h2 => ⟨rfl, ?_⟩⟩
  obtain ⟨s1, s2⟩ := made_at hz1 hdx hx hy e h1 h2
  exact q H' _ (e1.trans s1) s2
def sp_least_by (K : PySem.W.Frag) : Sp := fun vs H Q _ => ∃ (v : V) (k : Nat) (A : RR.Arr) (E : List Nat), vs = [v] ∧ InsAt (CR_ K) H v k A E ∧ RR.ArrOk k A ∧ (1 ≤ k ∧ k ≤ 8) ∧ A.length < 60 ∧ E.Nodup ∧ (∀ e ∈ E, e < A.length) ∧
  ∀ H' r, Same H H' → InsAt (CR_ K) H' r k (RR.leastL k (RR.lang A E (some 0))).1 (RR.leastL k (RR.lang A E (some 0))).2 → Q r H'
abbrev sp_least (K : PySem.W.Frag) : Sp := sp_least_by K
theorem ok_least_by (G : Gs K mg) (h_made : Fn P w K mg base 6 d_made p_made (sp_made K)) (h_Reader_ends : Fn P w K mg base 1 d_Reader_ends p_Reader_ends (sp_Reader_ends K)) (h_Reader_arrows : Fn P w K mg base 1 d_Reader_arrows p_Reader_arrows (sp_Reader_arrows K)) (h_Reader_signs : Fn P w K mg base 1 d_Reader_signs p_Reader_signs (sp_Reader_signs K)) : Fn P w K mg base 7 d_least_by p_least_by (sp_least_by K) := by
  refine fn_mk G 37 rfl sc_least_by (fun vs H Q E h => by obtain ⟨_, _, _, _, rfl, _⟩ := h; rfl) (fun _ _ _ _ _ _ us hl => match us, hl with | [_], _ => rfl) (fun cdv A outer s H vs Q E hr h => ?_)
  have hu1 := hu_of hr
  have hu64 := hr.units
  have hrN := roomN.of hr
  refine both (pss_one (ps_ret (pe_fn h_made (hr.mono (by decide)) rfl (G.g (x := "made")) (pa_cons (pe_pr h_Reader_signs (hr.mono (by decide)) G.rc.cl G.rs (pv 0)) (pa_cons (pe_pr h_Reader_arrows (hr.mono (by decide)) G.rc.cl G.ra (pv 0)) (pa_cons (pe_pr h_Reader_ends (hr.mono (by decide)) G.rc.cl G.re (pv 0)) pa_nil)))))) ?_
  obtain ⟨v, k, B, F, rfl, ⟨a, dx, t, x, y, rfl, ha, ht, h1, h2⟩, ok, hk, h60, nd, hF, q⟩ := h
  exact ⟨_, rfl, a, dx, _, rfl, ha, a, dx, t, _, _, rfl, ha, ht, rfl, _, rfl, a, dx, _, rfl, ha, a, dx, t, _, _, rfl, ha, ht, rfl, _, rfl, a, dx, _, rfl, ha, a, dx, t, _, _, rfl, ha, ht, rfl, x, y, k, B, F, rfl, h1, h2, ok, hk, h60, nd, hF, q⟩
theorem ok_least (G : Gs K mg) (h_check_reader : Fn P w K mg base 1 d_check_reader p_check_reader (sp_check_reader K)) (h_least_by : Fn P w K mg base 7 d_least_by p_least_by (sp_least_by K)) : Fn P w K mg base 8 d_least p_least (sp_least K) := by
  refine fn_mk G 38 rfl sc_least (fun vs H Q E h => by obtain ⟨_, _, _, _, rfl, _⟩ := h; rfl) (fun _ _ _ _ _ _ us hl => match us, hl with | [_], _ => rfl) (fun cdv A outer s H vs Q E hr h => ?_)
  have hu1 := hu_of hr
  have hu64 := hr.units
  have hrN := roomN.of hr
  refine both (pss_cons (ps_expr (pe_fn h_check_reader (hr.mono (by decide)) rfl (G.g (x := "check_reader")) (pa_cons (pv 0) pa_nil)))
      (pss_one (ps_ret (pe_fn h_least_by (hr.mono (by decide)) rfl (G.g (x := "least_by")) (pa_cons (pv 0) pa_nil))))) ?_
  obtain ⟨v, k, B, F, rfl, hv, ok, hk, h60, nd, hF, q⟩ := h
  obtain ⟨a, dx, t, x, y, rfl, ha, ht, h1, h2⟩ := id hv
  exact ⟨_, rfl, a, _, _, rfl, ha, _, rfl, .ref a, k, B, F, rfl, hv, ok, hk, h60, nd, hF, q⟩
end
end RK
/-! W13: deeds. -/
namespace RK
open PySem PySem.Spec PyProof.Rows L2
/-- a deed: a tuple of pairs -/
def DeedAt (H : Hp) (v : V) (d : RR.Deed) : Prop := ∃ a rs, v = .ref a ∧ H a = some (.tup rs) ∧ rs.length = d.length ∧ ∀ (i : Nat) (x : V) (y : Option Nat × Bool), rs[i]? = some x → d[i]? = some y → ∃ b, x = .ref b ∧ H b = some (.tup [onv y.1, .bl y.2])
theorem DeedAt.mono {H H' : Hp} {v : V} {d : RR.Deed} (t : Tups H H') (h : DeedAt H v d) : DeedAt H' v d :=
  let ⟨a, rs, e, h1, h2, h3⟩ := h; ⟨a, rs, e, t _ _ h1, h2, fun i x y g1 g2 => let ⟨b, e1, e2⟩ := h3 i x y g1 g2; ⟨b, e1, t _ _ e2⟩⟩
theorem DeedAt.get {H : Hp} {a : Addr} {rs : List V} {d : RR.Deed} (h2 : rs.length = d.length) (h3 : ∀ (i : Nat) (x : V) (y : Option Nat × Bool), rs[i]? = some x → d[i]? = some y → ∃ b, x = .ref b ∧ H b = some (.tup [onv y.1, .bl y.2])) {i : Nat} {y : Option Nat × Bool} (hy : d[i]? = some y) : ∃ b, rs[i]? = some (.ref b) ∧ H b = some (.tup [onv y.1, .bl y.2]) := by
  have hlt := (List.getElem?_eq_some_iff.mp hy).1
  have g1 : rs[i]? = some (rs[i]'(by omega)) := List.getElem?_eq_getElem (by omega)
  obtain ⟨b, e, hb⟩ := h3 i _ _ g1 hy
  exact ⟨b, by rw [g1, e], hb⟩
section
variable {P : Program} {w : World} {K : PySem.W.Frag} {mg : Str → Option Value} {base : Heap}
def sp_dealt (K : PySem.W.Frag) : Sp := fun vs H Q _ => ∃ (v vd : V) (p k : Nat) (A : RR.Arr) (M : List Nat) (d : RR.Deed), vs = [v, vd, nv p] ∧ InsAt (CW_ K) H v k A M ∧ DeedAt H vd d ∧ RR.ArrOk k A ∧ p < k ∧ (∀ y ∈ d, ∀ q, y.1 = some q → q < A.length) ∧ d.length ≤ 200 ∧
  ∀ H' r, Same H H' → DeedAt H' r (RR.deal A M d p) → Q r H'
theorem ok_dealt (G : Gs K mg) (h_goal_of : Fn P w K mg base 1 d_goal_of p_goal_of (sp_goal_of K)) (h_Watcher_arrows : Fn P w K mg base 1 d_Watcher_arrows p_Watcher_arrows (sp_Watcher_arrows K)) (h_Watcher_marks : Fn P w K mg base 1 d_Watcher_marks p_Watcher_marks (sp_Watcher_marks K)) : Fn P w K mg base 3 d_dealt p_dealt (sp_dealt K) := by
  refine fn_mk G 33 rfl sc_dealt (fun vs H Q E h => by obtain ⟨_, _, _, _, _, _, _, rfl, _⟩ := h; rfl) (fun _ _ _ _ _ _ us hl => match us, hl with | [_, _, _], _ => rfl) (fun cdv A outer s H vs Q E hr h => ?_)
  have hu1 := hu_of hr
  have hu64 := hr.units
  have hrN := roomN.of hr
  refine both (pss_cons (ps_set (i := 3) sc_dealt.nd rfl (by first | exact .inl rfl | exact .inr rfl | exact .inr (.inl rfl) | exact .inr (.inr rfl)) (pe_lst pa_nil))
      (pss_cons (ps_for PassesOwn.never rfl (pi_tupK rfl (pv 1)) (pg_tupK (n := 2) rfl rfl (pgs_cons (pg_name sc_dealt.nd (i := 4) rfl (by first | exact .inl rfl | exact .inr rfl | exact .inr (.inl rfl) | exact .inr (.inr rfl))) (pgs_cons (pg_name sc_dealt.nd (i := 5) rfl (by first | exact .inl rfl | exact .inr rfl | exact .inr (.inl rfl) | exact .inr (.inr rfl))) pgs_nil))) (pss_cons (ps_set (i := 6) sc_dealt.nd rfl (by first | exact .inl rfl | exact .inr rfl | exact .inr (.inl rfl) | exact .inr (.inr rfl)) (pe_fn h_goal_of (hr.mono (by decide)) rfl (G.g (x := "goal_of")) (pa_cons (pe_pr h_Watcher_arrows (hr.mono (by decide)) G.wc.cl G.wa (pv 0)) (pa_cons (pv 4) (pa_cons (pv 2) pa_nil)))))
      (pss_one (ps_expr (pe_bmK rfl PySem.F.plainAttrs_list PySem.F.slot_list_append PySem.F.type_list_append mt_append (pv 3) (pa_cons (pe_tup (pa_cons (pv 6) (pa_cons (pe_and (pe_cmp (pc_notN (pv 6))) (pe_one (pe_or (pv 5) (pe_one (pe_cmpR (op_inK rfl) (pv 6) (pe_pr h_Watcher_marks (hr.mono (by decide)) G.wc.cl G.wm (pv 0)) rfl))))) pa_nil))) pa_nil))))))
      (pss_one (ps_ret (pe_callTy (call_tupleK rfl) rfl (G.f (x := "tuple")) bo_tuple (pa_cons (pv 3) pa_nil)))))) ?_
  obtain ⟨v, vd, p, k, B, M, d, rfl, ⟨a1, dx1, t1, x1, y1, rfl, i1, i2, i3, m1, rfl, i5⟩, ⟨a, rs, rfl, ha, hl, hz⟩, ok, hp, hd, h200, q⟩ := h
  refine ⟨Evl.sz_of (show 0 ≤ 100000 by decide), fun fl hfl => ⟨_, rfl, a, rfl, ⟨rs, sqT (same_new hfl _ _ ha)⟩, ?_⟩⟩
  refine for_it walk_tup (fun i σ' H' => Same H H' ∧ ∃ (xs : List V) (z4 z5 z6 : Option V), σ' = [some (.ref a1), some (.ref a), some (nv p), some (.ref fl), z4, z5, z6] ∧ H' fl = some (.lst xs) ∧ xs.length = i ∧ ∀ (j : Nat) (x : V) (y : Option Nat × Bool), xs[j]? = some x → d[j]? = some y → ∃ b, x = .ref b ∧ H' b = some (.tup [onv (RR.deal1 B M p y).1, .bl (RR.deal1 B M p y).2])) ⟨same_new hfl, [], _, _, _, rfl, upd_same, rfl, fun j x y h => by simp at h⟩ (fun i σ' H' _ e => sqT (e.1 _ _ ha)) ?_ ?_
  · rintro i x σ' _ H2 hi ⟨e2, xs, z4, z5, z6, rfl, hx, hxl, hxz⟩ ⟨rfl, hr⟩
    obtain ⟨⟨s0, b0⟩, hy⟩ : ∃ y, d[i]? = some y := ⟨_, List.getElem?_eq_getElem (by omega)⟩
    obtain ⟨b, g1, g2⟩ := DeedAt.get (a := a) hl hz hy
    rw [hr] at g1
    cases g1
    have hrng := hd _ (List.mem_of_getElem? hy)
    refine ⟨b, _, rfl, sqT (e2 _ _ g2), rfl, _, _, rfl, _, _, rfl, rfl, ?_⟩
    refine ⟨_, rfl, a1, dx1, _, rfl, e2 _ _ i1, a1, dx1, t1, _, _, rfl, e2 _ _ i1, e2 _ _ i2, rfl, _, rfl, _, rfl, x1, s0, p, k, B, rfl, i3.mono (same_tups e2), ok, hp, hrng, ?_⟩
    have hfl0 : H fl = none := hfl
    have fin : ∀ (c : Bool) (H' : Hp) (z6 : Option V), Same H2 H' → c = (RR.deal1 B M p (s0, b0)).2 → ∀ t, H' t = none → ∃ (xs2 : List V) (w4 w5 w6 : Option V), ([some (.ref a1), some (.ref a), some (nv p), some (.ref fl), some (onv s0), some (.bl b0), z6] : L2.St) = [some (.ref a1), some (.ref a), some (nv p), some (.ref fl), w4, w5, w6] ∧
        upd (upd H' t (.tup [onv (RR.step B s0 p), .bl c])) fl (.lst (xs ++ [.ref t])) fl = some (.lst xs2) ∧ xs2.length = i + 1 ∧ ∀ (j : Nat) (x : V) (y : Option Nat × Bool), xs2[j]? = some x → d[j]? = some y → ∃ b, x = .ref b ∧ upd (upd H' t (.tup [onv (RR.step B s0 p), .bl c])) fl (.lst (xs ++ [.ref t])) b = some (.tup [onv (RR.deal1 B M p y).1, .bl (RR.deal1 B M p y).2]) := by
      intro c H' z6 e5 hc t ht
      refine ⟨xs ++ [.ref t], _, _, _, rfl, upd_same, by simp [hxl], fun j x y h1 h2 => ?_⟩
      have hx5 := e5 _ _ hx
      have tu : Tups (upd H' t (.tup [onv (RR.step B s0 p), .bl c])) (upd (upd H' t (.tup [onv (RR.step B s0 p), .bl c])) fl (.lst (xs ++ [.ref t]))) := Tups.upd (same_new ht _ _ hx5) (fun xs z => nomatch z)
      by_cases hj : j < xs.length
      · rw [List.getElem?_append_left hj] at h1
        obtain ⟨b2, e1, e3⟩ := hxz j x y h1 h2
        exact ⟨b2, e1, tu _ _ (same_new ht _ _ (e5 _ _ e3))⟩
      · have hj2 := (List.getElem?_eq_some_iff.mp h1).1
        have : j = xs.length := by simp at hj2; omega
        subst this
        rw [List.getElem?_append_right (Nat.le_refl _)] at h1
        simp at h1
        subst h1
        rw [hxl, hy] at h2
        cases h2
        exact ⟨t, rfl, tu _ _ (by rw [upd_same, hc]; rfl)⟩
    have sm : xs.length < sizeLine := small (by omega)
    refine ⟨_, rfl, .inl ⟨rfl, _, sqL hx⟩, _, rfl, _, rfl, _, rfl, ?_⟩
    cases eg : RR.step B s0 p with
    | none =>
      have hc : false = (RR.deal1 B M p (s0, b0)).2 := by unfold RR.deal1; rw [eg]; rfl
      refine iteF ⟨Evl.sz_of (show 2 ≤ 100000 by decide), fun t ht => ⟨fl, xs, _, rfl, rfl, same_new ht _ _ hx, sm, same_mut (e2.trans (same_new ht)) hfl0, ?_⟩⟩
      have h9 := fin false H2 (some (onv none)) (Same.refl _) hc t ht
      rw [eg] at h9
      exact h9
    | some g =>
      refine iteT ⟨_, rfl, b0, rfl, ?_⟩
      cases hb0 : b0 with
      | true =>
        have hc : true = (RR.deal1 B M p (s0, b0)).2 := by unfold RR.deal1; rw [eg, hb0]; rfl
        refine iteT ⟨Evl.sz_of (show 2 ≤ 100000 by decide), fun t ht => ⟨fl, xs, _, rfl, rfl, same_new ht _ _ hx, sm, same_mut (e2.trans (same_new ht)) hfl0, ?_⟩⟩
        have h9 := fin true H2 (some (onv (some g))) (Same.refl _) hc t ht
        rw [eg, hb0] at h9
        exact h9
      | false =>
        have hc : RR.isEnd M (some g) = (RR.deal1 B M p (s0, b0)).2 := by unfold RR.deal1; rw [eg, hb0]; simp
        refine iteF ⟨_, rfl, _, rfl, a1, dx1, _, rfl, e2 _ _ i1, a1, dx1, t1, _, _, rfl, e2 _ _ i1, e2 _ _ i2, rfl, m1, _, rfl, .inr (sqT (e2 _ _ i5)), flat_on (some g), flat_nats M, ?_⟩
        rw [if_neg (by decide), in_nats]
        refine ⟨Evl.sz_of (show 2 ≤ 100000 by decide), fun t ht => ⟨fl, xs, _, rfl, rfl, same_new ht _ _ hx, sm, same_mut (e2.trans (same_new ht)) hfl0, ?_⟩⟩
        have h9 := fin (RR.isEnd M (some g)) H2 (some (onv (some g))) (Same.refl _) hc t ht
        rw [eg, hb0] at h9
        exact h9
  · rintro σ' H2 ⟨e2, xs, z4, z5, z6, rfl, hx, hxl, hxz⟩
    refine ⟨_, rfl, fl, xs, rfl, .inl ⟨sqL hx, fun t ht => q _ _ (e2.trans (same_new ht)) ⟨t, xs, rfl, upd_same, by rw [hxl, hl]; unfold RR.deal; rw [List.length_map], fun j x y h1 h2 => ?_⟩⟩⟩
    unfold RR.deal at h2
    rw [List.getElem?_map] at h2
    obtain ⟨y0, hy0, rfl⟩ := Option.map_eq_some_iff.mp h2
    obtain ⟨b, e1, e3⟩ := hxz j x y0 h1 hy0
    exact ⟨b, e1, same_new ht _ _ e3⟩
def sp_is_good (K : PySem.W.Frag) : Sp := fun vs H Q _ => ∃ (vd : V) (s : Option Nat) (d : RR.Deed), vs = [vd, onv s] ∧ DeedAt H vd d ∧ (∀ y ∈ d, ∀ q, y.1 = some q → q < d.length) ∧ (∀ q, s = some q → q < d.length) ∧ d.length ≤ 200 ∧
  ∀ H' b, Same H H' → (b = true ↔ RR.Inf (RR.dGo d) (RR.dMet d) s) → Q (.bl b) H'
theorem ok_is_good (G : Gs K mg) : Fn P w K mg base 1 d_is_good p_is_good (sp_is_good K) := by
  refine fn_mk G 34 rfl sc_is_good (fun vs H Q E h => by obtain ⟨_, _, _, rfl, _⟩ := h; rfl) (fun _ _ _ _ _ _ us hl => match us, hl with | [_, _], _ => rfl) (fun cdv A outer s H vs Q E hr h => ?_)
  have hu1 := hu_of hr
  have hu64 := hr.units
  have hrN := roomN.of hr
  refine both (pss_cons (ps_par (i := 2) (j := 3) rfl sc_is_good.nd rfl rfl (by decide) rfl rfl (pa_cons pe_dnewK (pa_cons (pe_lst pa_nil) pa_nil)) rfl)
      (pss_cons (ps_while PassesOwn.never (PW.pt (pw_and (pt_cmp (pc_notN (pv 1))) (pw_and1 (pt_cmp (pc_dnotinN hu1 (pv 1) (pv 2)))))) (pss_cons (ps_dput hu1 (pv 2) (pv 1) (pe_callB (call_lenK rfl) rfl (G.f (x := "len")) bo_len (pa_cons (pv 3) pa_nil)) rfl)
      (pss_cons (ps_expr (pe_bmK rfl PySem.F.plainAttrs_list PySem.F.slot_list_append PySem.F.type_list_append mt_append (pv 3) (pa_cons (pe_ix (ix_tupK rfl) (pe_ix (ix_tupK rfl) (pv 0) (pv 1) (fun _ _ => rfl)) pe_int (fun _ _ => rfl)) pa_nil)))
      (pss_one (ps_set (i := 1) sc_is_good.nd rfl (by first | exact .inl rfl | exact .inr rfl | exact .inr (.inl rfl) | exact .inr (.inr rfl)) (pe_ix (ix_tupK rfl) (pe_ix (ix_tupK rfl) (pv 0) (pv 1) (fun _ _ => rfl)) pe_int (fun _ _ => rfl)))))))
      (pss_one (ps_ret (pe_and (pe_cmp (pc_notN (pv 1))) (pe_one (pe_callB (cr_anyK rfl rfl) rfl (G.f (x := "any")) bo_any (pa_cons (pe_slice (sl_listK rfl) (pv 3) (po_some (pe_dget hu1 (pv 2) (pv 1) (fun _ _ => rfl))) po_none) pa_nil)))))))) ?_
  obtain ⟨vd, s0, dd, rfl, ⟨a, rs, rfl, ha, hl, hz⟩, hrg, hs, h200, q⟩ := h
  intro d hd
  refine ⟨Evl.sz_of (show 0 ≤ 100000 by decide), fun l hl2 => ⟨_, _, rfl, ?_⟩⟩
  have hdl : d ≠ l := fun z => by rw [← z, upd_same] at hl2; cases hl2
  have hl0 : H l = none := by rw [upd_ne (Ne.symm hdl)] at hl2; exact hl2
  have hd0 : H d = none := hd
  obtain ⟨f, hf⟩ : ∃ f, f = RR.dGo dd := ⟨_, rfl⟩
  obtain ⟨mt, hmt⟩ : ∃ mt, mt = RR.dMet dd := ⟨_, rfl⟩
  rw [← hf, ← hmt] at q
  have fnone : f none = none := by rw [hf]; rfl
  have mnone : mt none = false := by rw [hmt]; rfl
  have fget : ∀ r, r < dd.length → ∃ y, dd[r]? = some y ∧ f (some r) = y.1 ∧ mt (some r) = y.2 := fun r hr => by
    refine ⟨dd[r], List.getElem?_eq_getElem hr, ?_, ?_⟩
    · rw [hf]; unfold RR.dGo; simp [hr]
    · rw [hmt]; unfold RR.dMet; simp [hr]
  have flt : ∀ x r, f x = some r → r < dd.length := fun x r h => by
    cases x with
    | none => rw [fnone] at h; cases h
    | some y =>
      by_cases hy : y < dd.length
      · obtain ⟨z, h1, h2, _⟩ := fget y hy
        rw [h2] at h
        exact hrg z (List.mem_of_getElem? h1) r h
      · rw [hf] at h
        unfold RR.dGo at h
        simp at hy
        simp [hy] at h
  obtain ⟨Pv, hPv⟩ : ∃ Pv : Nat → L2.St → Hp → Prop, ∀ m σ' H', Pv m σ' H' ↔ ∃ t, m + t = dd.length + 1 ∧ Same H H' ∧ ∃ kvs, σ' = [some (.ref a), some (onv (RR.itr f s0 t)), some (.ref d), some (.ref l)] ∧ H' d = some (.dK kvs) ∧ kvs.length ≤ t ∧ H' l = some (.lst (((List.range t).map fun i => mt (RR.itr f s0 i)).map V.bl)) ∧
    (∀ j, j < t → ∃ r, RR.itr f s0 j = some r ∧ valV kvs (.inl (r : Int)) = some (nv j)) ∧ (∀ r : Nat, valV kvs (.inl (r : Int)) ≠ none → ∃ j, j < t ∧ RR.itr f s0 j = some r) := ⟨_, fun _ _ _ => Iff.rfl⟩
  refine ⟨Pv, ⟨dd.length + 1, (hPv _ _ _).mpr ⟨0, rfl, (same_new hd).trans (same_new hl2), [], rfl, by rw [upd_ne hdl, upd_same], Nat.le_refl _, by rw [upd_same]; rfl, fun j h => absurd h (by omega), fun r h => absurd rfl h⟩⟩, ?_⟩
  intro m σ' H' hp
  obtain ⟨t, hm, e1, kvs, rfl, h1, h2, h3, h4, h5⟩ := (hPv _ _ _).mp hp
  have rng : ∀ i r, RR.itr f s0 i = some r → r < dd.length := fun i r e => by
    cases i with
    | zero => exact hs r e
    | succ i => exact flt _ r e
  refine ⟨_, rfl, _, rfl, ?_⟩
  cases e : RR.itr f s0 t with
  | none =>
    refine iteF ⟨_, rfl, false, rfl, iteF (q _ false e1 ⟨fun h => (by cases h), fun h => ?_⟩)⟩
    exact absurd h (RR.inf_none fnone mnone e)
  | some r =>
    have hr2 := rng t r e
    obtain ⟨y, hy, hyf, hym⟩ := fget r hr2
    obtain ⟨b, gb, hb⟩ := DeedAt.get (a := a) hl hz hy
    refine iteT ⟨_, rfl, _, rfl, .inl ⟨d, _, rfl, DGet.k (k := .inl (r : Int)) h1, _, rfl, ?_⟩⟩
    cases e2 : valV kvs (.inl (r : Int)) with
    | none =>
      have new : ∀ i, i < t → RR.itr f s0 i ≠ some r := fun i hi e3 => by
        obtain ⟨r2, g1, g2⟩ := h4 i hi
        rw [e3] at g1
        cases g1
        rw [e2] at g2
        cases g2
      have hb2 : t + 1 ≤ dd.length := RR.fresh_few (f := f) (s := s0) (fun i hi => by
        by_cases hit : i < t
        · obtain ⟨r2, g1, _⟩ := h4 i hit
          exact ⟨r2, g1, rng i r2 g1⟩
        · have : i = t := by omega
          subst this
          exact ⟨r, e, hr2⟩) (fun i j hij hj => by
        by_cases hjt : j < t
        · obtain ⟨r2, g1, g2⟩ := h4 j hjt
          obtain ⟨r1, g3, g4⟩ := h4 i (by omega)
          intro g5
          rw [g3, g1] at g5
          cases g5
          rw [g2] at g4
          have g6 : ((j : Nat) : Int) = (i : Nat) := V.int.inj (Option.some.inj g4)
          omega
        · have : j = t := by omega
          subst this
          rw [e]
          exact new i hij)
      refine iteT ⟨fun σ' H' => ∃ m', m' < m ∧ Pv m' σ' H', fun _ _ h => h, _, rfl, l, _, rfl, .inl (sqL h3), _, rfl, _, rfl, d, _, rfl, DPut.k (k := .inl (r : Int)) h1 (small (by omega)), ?_⟩
      rw [List.length_map, List.length_map, List.length_range]
      have e3 : Same H (upd H' d (.dK (putK kvs (.inl (r : Int)) (.int (t : Nat))))) := same_mut e1 hd0
      have h3' : upd H' d (.dK (putK kvs (.inl (r : Int)) (.int (t : Nat)))) l = some (.lst (((List.range t).map fun i => mt (RR.itr f s0 i)).map V.bl)) := by rw [upd_ne (Ne.symm hdl)]; exact h3
      have e4 : Same H (upd (upd H' d (.dK (putK kvs (.inl (r : Int)) (.int (t : Nat))))) l (.lst (((List.range t).map fun i => mt (RR.itr f s0 i)).map V.bl ++ [.bl y.2]))) := same_mut e3 hl0
      refine ⟨_, rfl, .inl ⟨rfl, _, sqL h3'⟩, _, rfl, _, rfl, a, rs, _, _, rfl, rfl, sqT (e3 _ _ ha), atE (j := r) rfl gb, b, _, 1, _, rfl, rfl, sqT (e3 _ _ hb), atE (j := 1) rfl rfl, l, _, _, rfl, rfl, h3', small (by simp; omega), ?_⟩
      refine ⟨_, rfl, _, rfl, a, rs, _, _, rfl, rfl, sqT (e4 _ _ ha), atE (j := r) rfl gb, b, _, 0, _, rfl, rfl, sqT (e4 _ _ hb), atE (j := 0) rfl rfl, m - 1, by omega, (hPv _ _ _).mpr ⟨t + 1, by omega, e4, putK kvs (.inl (r : Int)) (.int (t : Nat)), ?_, ?_, ?_, ?_, ?_, ?_⟩⟩
      · have e5 : RR.itr f s0 (t + 1) = y.1 := by
          show f (RR.itr f s0 t) = _
          rw [e, hyf]
        rw [e5]
        rfl
      · rw [upd_ne hdl, upd_same]
      · have := length_putK kvs (.inl (r : Int)) (.int (t : Nat))
        omega
      · rw [upd_same, List.range_succ, List.map_append, List.map_append]
        show _ = some (HO.lst (_ ++ [V.bl (mt (RR.itr f s0 t))]))
        rw [e, hym]
      · intro j hj
        by_cases hjt : j < t
        · obtain ⟨r2, g1, g2⟩ := h4 j hjt
          refine ⟨r2, g1, ?_⟩
          rw [valV_put, if_neg (fun g => by rw [g, e2] at g2; cases g2)]
          exact g2
        · have : j = t := by omega
          subst this
          refine ⟨r, e, ?_⟩
          rw [valV_put, if_pos rfl]
          rfl
      · intro r2 hr3
        rw [valV_put] at hr3
        by_cases g : (Sum.inl (r2 : Int) : Key) = .inl (r : Int)
        · have g2 : ((r2 : Nat) : Int) = (r : Nat) := Sum.inl.inj g
          have : r2 = r := by omega
          subst this
          exact ⟨t, by omega, e⟩
        · rw [if_neg g] at hr3
          obtain ⟨j, hj, g2⟩ := h5 r2 hr3
          exact ⟨j, by omega, g2⟩
    | some jv =>
      obtain ⟨j, hj, g1⟩ := h5 r (by rw [e2]; simp)
      obtain ⟨r2, g2, g3⟩ := h4 j hj
      rw [g1] at g2
      cases g2
      rw [e2] at g3
      cases g3
      refine iteF ⟨_, rfl, true, rfl, iteT ⟨_, rfl, _, rfl, _, rfl, d, nv j, rfl, by have := DGet.k (k := .inl (r : Int)) h1; rw [e2] at this; exact this, j, rfl, l, _, rfl, sqL h3, fun p hp => ⟨p, (((List.range t).map fun i => mt (RR.itr f s0 i)).drop j), rfl, ?_, ?_⟩⟩⟩
      · rw [cut_from (by simp; omega), ← List.map_drop]
        exact sqL upd_same
      · exact q _ _ (e1.trans (same_new hp)) (RR.round_told hj (by rw [e, g1])).symm
end
end RK
/-! W14: the reader of the loops behind a start. -/
namespace RK
open PySem PySem.Spec PyProof.Rows L2
theorem cr_lenOwn {X : Cx} {k : Nat} {d : DefA} {ps : List Str} {sp : Sp} {C : Addr} (F : Fn X.prog X.w X.K X.mg X.base k d ps sp) (hr : Room (k + 1) X.A) (m : Meth X.K C "__len__" (d.addr X.K)) : CallR X (.builtin "len") (rLenOwn C sp E0) := by
  obtain ⟨fd, F, b, fp⟩ := F.ex
  exact call_lenOwn F hr m.at_ m.fn b pass0
theorem goodB_iff (d : RR.Deed) (s : Nat) : RR.goodB d s = true ↔ RR.Inf (RR.dGo d) (RR.dMet d) (some s) := by
  unfold RR.goodB
  simp
def kB (b : Bool) : NestedKey := .num (if b = true then 1 else 0)
def kD (d : RR.Deed) : NestedKey := .tup (d.map fun y => .tup [kO y.1, kB y.2])
theorem kY_inj {a b : Option Nat × Bool} (h : (NestedKey.tup [kO a.1, kB a.2]) = .tup [kO b.1, kB b.2]) : a = b := by
  have h2 := NestedKey.tup.inj h
  have h3 := List.cons.inj h2
  have h4 := List.cons.inj h3.2
  have e1 := kO_inj h3.1
  have e2 : a.2 = b.2 := by
    have h5 := NestedKey.num.inj h4.1
    cases ha : a.2 <;> cases hb : b.2 <;> rw [ha, hb] at h5 <;> first | rfl | exact absurd h5 (by decide)
  exact Prod.ext e1 e2
theorem kD_inj {a b : RR.Deed} (h : kD a = kD b) : a = b := List.map_inj_right (fun x y e => kY_inj e) |>.mp (NestedKey.tup.inj h)
theorem mem_kD {line : List RR.Deed} {d : RR.Deed} : kD d ∈ line.map kD ↔ d ∈ line := by
  constructor
  · intro h
    obtain ⟨y, hy, e⟩ := List.mem_map.mp h
    rw [← kD_inj e]
    exact hy
  · exact fun h => List.mem_map.mpr ⟨d, h, rfl⟩
theorem kD_depA : ∀ d : RR.Deed, NestedKey.depthAll (d.map fun y => NestedKey.tup [kO y.1, kB y.2]) ≤ 2
  | [] => by simp [NestedKey.depthAll]
  | y :: d => by
    have h1 := kO_dep y.1
    have h2 := kD_depA d
    have h3 : (kB y.2).depth = 0 := by simp [kB, NestedKey.depth]
    simp only [List.map_cons, NestedKey.depthAll, NestedKey.depth]
    omega
theorem kD_dep (d : RR.Deed) : (kD d).depth ≤ 8 := by
  have := kD_depA d
  unfold kD
  simp only [NestedKey.depth]
  omega
theorem keys_deed {H : Hp} : ∀ (rs : List V) (d : RR.Deed), rs.length = d.length → (∀ (i : Nat) (x : V) (y : Option Nat × Bool), rs[i]? = some x → d[i]? = some y → ∃ b, x = .ref b ∧ H b = some (.tup [onv y.1, .bl y.2])) → KeysAt H (d.map fun y => NestedKey.tup [kO y.1, kB y.2]) rs
  | [], [], _, _ => .nil
  | [], _ :: _, h, _ => by simp at h
  | _ :: _, [], h, _ => by simp at h
  | x :: rs, y :: d, h, z => by
    obtain ⟨b, rfl, hb⟩ := z 0 x y rfl rfl
    exact .cons (.tup hb (.cons (key_on y.1) (.cons (.bl y.2) .nil))) (keys_deed rs d (by simpa using h) fun i u v h1 h2 => z (i + 1) u v (by simpa using h1) (by simpa using h2))
theorem key_deed {H : Hp} {v : V} {d : RR.Deed} (h : DeedAt H v d) : KeyAt H (kD d) v := by
  obtain ⟨a, rs, rfl, h1, h2, h3⟩ := h
  exact .tup h1 (keys_deed rs d h2 h3)
theorem DeedAt.ref {H : Hp} {v : V} {d : RR.Deed} (h : DeedAt H v d) : ∃ b, v = .ref b := let ⟨a, _, e, _⟩ := h; ⟨a, e⟩
/-- a list of deeds -/
def DsAt (H : Hp) (l : Addr) (line : List RR.Deed) : Prop := ∃ rs, H l = some (.lst rs) ∧ rs.length = line.length ∧ ∀ (i : Nat) (x : V) (d : RR.Deed), rs[i]? = some x → line[i]? = some d → DeedAt H x d
theorem DsAt.at {H H' : Hp} {l : Addr} {line : List RR.Deed} (h : DsAt H l line) (e : H' l = H l) (t : Tups H H') : DsAt H' l line :=
  let ⟨rs, h1, h2, h3⟩ := h; ⟨rs, e.trans h1, h2, fun i x d g1 g2 => (h3 i x d g1 g2).mono t⟩
theorem DsAt.same {H H' : Hp} {l : Addr} {line : List RR.Deed} (h : DsAt H l line) (e : Same H H') : DsAt H' l line := by
  obtain ⟨rs, h1, h2⟩ := id h
  exact h.at (by rw [h1]; exact e _ _ h1) (same_tups e)
theorem DsAt.snoc {H : Hp} {l : Addr} {line : List RR.Deed} {rs : List V} {x : V} {d : RR.Deed} (h : DsAt H l line) (hr : H l = some (.lst rs)) (hx : DeedAt H x d) : DsAt (upd H l (.lst (rs ++ [x]))) l (line ++ [d]) := by
  obtain ⟨rs', h1, h2, h3⟩ := h
  rw [hr] at h1
  cases h1
  have tu : Tups H (upd H l (.lst (rs ++ [x]))) := Tups.upd hr (fun xs z => nomatch z)
  refine ⟨rs ++ [x], upd_same, by simp [h2], fun i y z g1 g2 => ?_⟩
  by_cases hi : i < rs.length
  · rw [List.getElem?_append_left hi] at g1
    rw [List.getElem?_append_left (by omega)] at g2
    exact (h3 i y z g1 g2).mono tu
  · have hi2 := (List.getElem?_eq_some_iff.mp g1).1
    have : i = rs.length := by simp at hi2; omega
    subst this
    rw [List.getElem?_append_right (Nat.le_refl _)] at g1
    rw [h2, List.getElem?_append_right (Nat.le_refl _)] at g2
    simp at g1 g2
    subst g1 g2
    exact hx.mono tu
section
variable {P : Program} {w : World} {K : PySem.W.Frag} {mg : Str → Option Value} {base : Heap}
def sp_loops_behind (K : PySem.W.Frag) : Sp := fun vs H Q _ => ∃ (v : V) (u : List Nat) (k : Nat) (A : RR.Arr) (M : List Nat), vs = [v, .str (txt u)] ∧ InsAt (CW_ K) H v k A M ∧ RR.ArrOk k A ∧ (∀ p ∈ u, p < k) ∧ u.length ≤ 200 ∧ (1 ≤ k ∧ k ≤ 8) ∧ A.length ≤ 10 ∧ RR.FewDeeds k A M ∧
  ∀ H' r, Same H H' → InsAt (CR_ K) H' r k (RR.leastL k (RR.loopsL A M (RR.run A (some 0) u))).1 (RR.leastL k (RR.loopsL A M (RR.run A (some 0) u))).2 → (∃ T E, RR.ArrOk k T ∧ T.length < 59 ∧ RR.lang T E (some 0) = RR.loopsL A M (RR.run A (some 0) u)) → Q r H'
theorem ok_loops_behind (G : Gs K mg) (h_check_watcher : Fn P w K mg base 1 d_check_watcher p_check_watcher (sp_check_watcher K)) (h_check_row : Fn P w K mg base 2 d_check_row p_check_row (sp_check_row K)) (h_Watcher_signs : Fn P w K mg base 1 d_Watcher_signs p_Watcher_signs (sp_Watcher_signs K)) (h_goal_by : Fn P w K mg base 1 d_goal_by p_goal_by (sp_goal_by K)) (h_Watcher_arrows : Fn P w K mg base 1 d_Watcher_arrows p_Watcher_arrows (sp_Watcher_arrows K)) (h_made : Fn P w K mg base 6 d_made p_made (sp_made K)) (h_dealt : Fn P w K mg base 3 d_dealt p_dealt (sp_dealt K)) (h_is_good : Fn P w K mg base 1 d_is_good p_is_good (sp_is_good K)) (h_Watcher_len : Fn P w K mg base 1 d_Watcher_len p_Watcher_len (sp_Watcher_len K)) : Fn P w K mg base 7 d_loops_behind p_loops_behind (sp_loops_behind K) := by
  refine fn_mk G 35 rfl sc_loops_behind (fun vs H Q E h => by obtain ⟨_, _, _, _, _, rfl, _⟩ := h; rfl) (fun _ _ _ _ _ _ us hl => match us, hl with | [_, _], _ => rfl) (fun cdv A outer s H vs Q E hr h => ?_)
  have hu1 := hu_of hr
  have hu64 := hr.units
  have hrN := roomN.of hr
  refine both (pss_cons (ps_expr (pe_fn h_check_watcher (hr.mono (by decide)) rfl (G.g (x := "check_watcher")) (pa_cons (pv 0) pa_nil)))
      (pss_cons (ps_expr (pe_fn h_check_row (hr.mono (by decide)) rfl (G.g (x := "check_row")) (pa_cons (pv 1) (pa_cons (pe_pr h_Watcher_signs (hr.mono (by decide)) G.wc.cl G.ws (pv 0)) pa_nil))))
      (pss_cons (ps_set (i := 2) sc_loops_behind.nd rfl (by first | exact .inl rfl | exact .inr rfl | exact .inr (.inl rfl) | exact .inr (.inr rfl)) (pe_fn h_goal_by (hr.mono (by decide)) rfl (G.g (x := "goal_by")) (pa_cons (pe_pr h_Watcher_arrows (hr.mono (by decide)) G.wc.cl G.wa (pv 0)) (pa_cons pe_int (pa_cons (pv 1) pa_nil)))))
      (pss_cons (ps_if (pt_cmp (pc_isN (pv 2))) (pss_one (ps_ret (pe_fn h_made (hr.mono (by decide)) rfl (G.g (x := "made")) (pa_cons (pe_pr h_Watcher_signs (hr.mono (by decide)) G.wc.cl G.ws (pv 0)) (pa_cons (pe_tup (pa_cons (pe_op (op_repK rfl) (pe_tup (pa_cons pe_non pa_nil)) (pe_pr h_Watcher_signs (hr.mono (by decide)) G.wc.cl G.ws (pv 0))) pa_nil)) (pa_cons (pe_tup pa_nil) pa_nil)))))) pss_nil)
      (pss_cons (ps_set (i := 3) sc_loops_behind.nd rfl (by first | exact .inl rfl | exact .inr rfl | exact .inr (.inl rfl) | exact .inr (.inr rfl)) (pe_callTy (call_tupleK rfl) rfl (G.f (x := "tuple")) bo_tuple (pa_cons (pe_lc rfl sc_loops_behind.nd (pi_range1 rfl (G.f (x := "range")) (pa_cons (pe_callB (cr_lenOwn h_Watcher_len (hr.mono (by decide)) G.ln) rfl (G.f (x := "len")) bo_len (pa_cons (pv 0) pa_nil)) pa_nil)) (blkOk_by (own := [("stand", 4)]) (by first | (show blkC n_loops_behind (defScope s_loops_behind) _ _ = true; decide +kernel) | rfl)) (fun _ _ _ _ _ => (pg_name sc_loops_behind.nd (i := 4) rfl (by first | exact .inl rfl | exact .inr rfl | exact .inr (.inl rfl) | exact .inr (.inr rfl)))) (fun _ _ _ _ _ => pts_nil) (fun _ _ _ _ _ => (pe_tup (pa_cons (pv 4) (pa_cons pe_bl pa_nil))))) pa_nil)))
      (pss_cons (ps_par3 (i := 5) (j := 6) (l := 7) rfl sc_loops_behind.nd rfl rfl rfl (by decide) (by decide) (by decide) rfl rfl rfl (pa_cons (pe_lst (pa_cons (pv 3) pa_nil)) (pa_cons (pe_oneN hrN (pv 3) pe_int) (pa_cons (pe_lst pa_nil) pa_nil))) rfl)
      (pss_cons (ps_set (i := 8) sc_loops_behind.nd rfl (by first | exact .inl rfl | exact .inr rfl | exact .inr (.inl rfl) | exact .inr (.inr rfl)) pe_int)
      (pss_cons (ps_while PassesOwn.never (pt_cmpR op_lt (pv 8) (pe_callB (call_lenK rfl) rfl (G.f (x := "len")) bo_len (pa_cons (pv 5) pa_nil)) (nomark _)) (pss_cons (ps_set (i := 9) sc_loops_behind.nd rfl (by first | exact .inl rfl | exact .inr rfl | exact .inr (.inl rfl) | exact .inr (.inr rfl)) (pe_ix (ix_listK rfl) (pv 5) (pv 8) (fun _ _ => rfl)))
      (pss_cons (ps_set (i := 8) sc_loops_behind.nd rfl (by first | exact .inl rfl | exact .inr rfl | exact .inr (.inl rfl) | exact .inr (.inr rfl)) (pe_op op_add (pv 8) pe_int))
      (pss_cons (ps_set (i := 10) sc_loops_behind.nd rfl (by first | exact .inl rfl | exact .inr rfl | exact .inr (.inl rfl) | exact .inr (.inr rfl)) (pe_lst pa_nil))
      (pss_cons (ps_for PassesOwn.never rfl (pi_range1 rfl (G.f (x := "range")) (pa_cons (pe_pr h_Watcher_signs (hr.mono (by decide)) G.wc.cl G.ws (pv 0)) pa_nil)) (pg_name sc_loops_behind.nd (i := 11) rfl (by first | exact .inl rfl | exact .inr rfl | exact .inr (.inl rfl) | exact .inr (.inr rfl))) (pss_cons (ps_set (i := 12) sc_loops_behind.nd rfl (by first | exact .inl rfl | exact .inr rfl | exact .inr (.inl rfl) | exact .inr (.inr rfl)) (pe_fn h_dealt (hr.mono (by decide)) rfl (G.g (x := "dealt")) (pa_cons (pv 0) (pa_cons (pv 9) (pa_cons (pv 11) pa_nil)))))
      (pss_cons (ps_if (pt_cmp (pc_notInN hrN (pv 12) (pv 6))) (pss_cons (ps_putN hrN (pv 6) (pv 12) (pe_callB (call_lenK rfl) rfl (G.f (x := "len")) bo_len (pa_cons (pv 5) pa_nil)) rfl)
      (pss_one (ps_expr (pe_bmK rfl PySem.F.plainAttrs_list PySem.F.slot_list_append PySem.F.type_list_append mt_append (pv 5) (pa_cons (pv 12) pa_nil))))) pss_nil)
      (pss_one (ps_expr (pe_bmK rfl PySem.F.plainAttrs_list PySem.F.slot_list_append PySem.F.type_list_append mt_append (pv 10) (pa_cons (pe_getN hrN (pv 6) (pv 12) (fun _ _ => rfl)) pa_nil)))))))
      (pss_one (ps_expr (pe_bmK rfl PySem.F.plainAttrs_list PySem.F.slot_list_append PySem.F.type_list_append mt_append (pv 7) (pa_cons (pe_callTy (call_tupleK rfl) rfl (G.f (x := "tuple")) bo_tuple (pa_cons (pv 10) pa_nil)) pa_nil)))))))))
      (pss_one (ps_ret (pe_fn h_made (hr.mono (by decide)) rfl (G.g (x := "made")) (pa_cons (pe_pr h_Watcher_signs (hr.mono (by decide)) G.wc.cl G.ws (pv 0)) (pa_cons (pe_callTy (call_tupleK rfl) rfl (G.f (x := "tuple")) bo_tuple (pa_cons (pv 7) pa_nil)) (pa_cons (pe_callTy (call_tupleK rfl) rfl (G.f (x := "tuple")) bo_tuple (pa_cons (pe_lc rfl sc_loops_behind.nd (pi_enumK rfl rfl (G.f (x := "enumerate")) (pa_cons (pv 5) pa_nil)) (blkOk_by (own := [("spot", 13), ("deed", 9)]) (by first | (show blkC n_loops_behind (defScope s_loops_behind) _ _ = true; decide +kernel) | rfl)) (fun _ _ _ _ _ => (pg_tupK (n := 2) rfl rfl (pgs_cons (pg_name sc_loops_behind.nd (i := 13) rfl (by first | exact .inl rfl | exact .inr rfl | exact .inr (.inl rfl) | exact .inr (.inr rfl))) (pgs_cons (pg_name sc_loops_behind.nd (i := 9) rfl (by first | exact .inl rfl | exact .inr rfl | exact .inr (.inl rfl) | exact .inr (.inr rfl))) pgs_nil)))) (fun _ _ _ _ _ => (pts_one (pt_val (pe_fn h_is_good (hr.mono (by decide)) rfl (G.g (x := "is_good")) (pa_cons (pv 9) (pa_cons (pv 2) pa_nil)))))) (fun _ _ _ _ _ => (pv 13))) pa_nil)) pa_nil)))))))))))))) ?_
  obtain ⟨v, u, k, B, M, rfl, hv, ok, hu, hu2, hk, h10, few, q⟩ := h
  obtain ⟨a1, dx1, t1, x1, y1, rfl, i1, i2, i3, i4⟩ := id hv
  refine ⟨_, rfl, a1, _, _, rfl, i1, ?_⟩
  refine ⟨_, rfl, _, rfl, a1, dx1, _, rfl, i1, a1, dx1, t1, _, _, rfl, i1, i2, rfl, u, k, rfl, hu, hk.2, hu2, fun H1 e1 => ?_⟩
  have z1 : ∀ q, (some 0 : Option Nat) = some q → q < B.length := fun q e => by cases e; exact ok.pos
  refine ⟨_, rfl, a1, dx1, _, rfl, e1 _ _ i1, a1, dx1, t1, _, _, rfl, e1 _ _ i1, e1 _ _ i2, rfl, _, rfl, x1, some 0, u, k, B, rfl, i3.mono (same_tups e1), ok, hu, hk.2, z1, ?_⟩
  have hbr := RR.run_lt ok u (some 0) z1
  refine ⟨_, rfl, _, rfl, ?_⟩
  cases hb : RR.run B (some 0) u with
  | none =>
    rw [hb, RR.loopsL_none, RR.least_emp] at q
    have hemp : RR.lang [List.replicate k none] [] (some 0) = RR.emp := by
      funext x
      unfold RR.lang
      cases RR.run [List.replicate k none] (some 0) x <;> rfl
    refine iteT ⟨_, rfl, a1, dx1, _, rfl, e1 _ _ i1, a1, dx1, t1, _, _, rfl, e1 _ _ i1, e1 _ _ i2, rfl, Evl.sz_of (show 1 ≤ 100000 by decide), fun l0 hl0 => ?_⟩
    have e2 := e1.trans (same_new (o := .tup [.non]) hl0)
    refine ⟨_, rfl, a1, dx1, _, rfl, e2 _ _ i1, a1, dx1, t1, _, _, rfl, e2 _ _ i1, e2 _ _ i2, rfl, rep_none upd_same hk fun b H3 e3 hb3 => ⟨Evl.sz_of (show 1 ≤ 100000 by decide), fun c hc => ⟨Evl.sz_of (show 0 ≤ 100000 by decide), fun d hd => ?_⟩⟩⟩
    refine ⟨.ref c, .ref d, k, [List.replicate k none], [], rfl, (none_arr upd_same (same_new hc _ _ hb3)).mono (same_tups (same_new hd)), ⟨d, rfl, upd_same⟩, none_ok k, hk, by simp, by simp, by simp, fun H4 r e4 hr => ?_⟩
    rw [hemp, RR.least_emp] at hr
    exact q _ r (((e2.trans e3).trans ((same_new hc).trans (same_new hd))).trans e4) hr ⟨[List.replicate k none], [], none_ok k, by simp, hemp⟩
  | some bg =>
    have hbg := hbr bg hb
    rw [hb] at q
    refine iteF ?_
    refine ⟨_, rfl, a1, dx1, _, rfl, e1 _ _ i1, .ref a1, k, B, M, rfl, hv.mono e1, ?_⟩
    refine ⟨(B.length : Int), rfl, ⟨by omega, by omega⟩, _, rfl, by omega, by omega, fun D hD => ?_⟩
    refine lc_rel grow_same walk_range (by simp; omega) hD trivial (fun i x H => ∃ b, x = .ref b ∧ H b = some (.tup [nv i, .bl false])) (fun i x H H' e ⟨b, g1, g2⟩ => ⟨b, g1, e _ _ g2⟩) (fun i x H o ⟨b, g1, g2⟩ ⟨acc, hacc⟩ => ⟨b, g1, by rw [upd_ne (fun z => by rw [z, hacc] at g2; cases g2)]; exact g2⟩) (fun _ _ => trivial) ?_ ?_
    · rintro i x _ H2 hi e2 ⟨rfl, hx⟩ Kt hK
      obtain rfl : x = nv i := by rw [hx]; show V.int (0 + (i : Int)) = _; rw [Int.zero_add]; rfl
      exact ⟨rfl, _, rfl, Evl.sz_of (show 2 ≤ 100000 by decide), fun t ht => hK _ _ (same_new ht) ⟨t, rfl, upd_same⟩⟩
    intro xs H2 e2 hx2 hlen2 hall2
    have hn : ((B.length : Nat) : Int).toNat = B.length := by simp
    rw [hn] at hlen2
    refine ⟨D, xs, rfl, .inl ⟨sqL hx2, fun first hfirst => ?_⟩⟩
    have hdeed : DeedAt (upd H2 first (.tup xs)) (.ref first) (RR.deed0 B.length) := by
      refine ⟨first, xs, rfl, upd_same, by unfold RR.deed0; simp [hlen2], fun i x y h1 h2 => ?_⟩
      unfold RR.deed0 at h2
      rw [List.getElem?_map] at h2
      obtain ⟨j, hj, rfl⟩ := Option.map_eq_some_iff.mp h2
      have hil := (List.getElem?_eq_some_iff.mp h1).1
      rw [List.getElem?_range (by omega)] at hj
      cases hj
      obtain ⟨b, g1, g2⟩ := hall2 i x h1
      exact ⟨b, g1, same_new hfirst _ _ g2⟩
    have e3 := (e1.trans e2).trans (same_new (o := .tup xs) hfirst)
    refine ⟨_, rfl, Evl.sz_of (show 1 ≤ 100000 by decide), fun l hl => ?_⟩
    intro pd hpd o0 ho0
    refine ⟨_, rfl, upd_same, kD (RR.deed0 B.length), ⟨_, rfl⟩, key_deed (hdeed.mono (same_tups ((same_new hl).trans (same_new hpd)))), kD_dep _, rfl, fun o ho nd0 => ⟨Evl.sz_of (show 0 ≤ 100000 by decide), fun ar har => ⟨_, _, _, rfl, ?_⟩⟩⟩
    have n1 : pd ≠ l := fun z => by rw [z, upd_same] at hpd; cases hpd
    have hpd3 : upd H2 first (.tup xs) pd = none := by rw [upd_ne n1] at hpd; exact hpd
    have n2 : ar ≠ pd := fun z => by rw [z, upd_same] at har; cases har
    have n3 : ar ≠ l := fun z => by rw [z, upd_ne (Ne.symm n1), upd_ne (Ne.symm n1), upd_same] at har; cases har
    have har3 : upd H2 first (.tup xs) ar = none := by rw [upd_ne n2, upd_ne n2, upd_ne n3] at har; exact har
    generalize hH3 : upd H2 first (.tup xs) = H3 at hdeed e3 hl hpd hpd3 har har3 nd0 ⊢
    have back : ∀ c, H3 c = none → H c = none := fun c hc => by
      cases z : H c with
      | none => rfl
      | some o => have := e3 _ _ z; rw [hc] at this; cases this
    have gl0 := back _ hl
    have gp0 := back _ hpd3
    have ga0 := back _ har3
    have e9 : Same H (upd (upd (upd (upd H3 l (.lst [.ref first])) pd o0) pd o) ar (.lst [])) := same_mut (same_mut (same_mut (same_mut e3 gl0) gp0) gp0) ga0
    have l9 : upd (upd (upd (upd H3 l (.lst [.ref first])) pd o0) pd o) ar (.lst []) l = some (.lst [.ref first]) := by rw [upd_ne (Ne.symm n3), upd_ne (Ne.symm n1), upd_ne (Ne.symm n1), upd_same]
    have nd9 := nd0.same (same_new (o := .lst []) har)
    have r9 : upd (upd (upd (upd H3 l (.lst [.ref first])) pd o0) pd o) ar (.lst []) ar = some (.lst []) := upd_same
    have t39 : Tups H3 (upd (upd (upd (upd H3 l (.lst [.ref first])) pd o0) pd o) ar (.lst [])) := by
      intro c ys hc
      rw [upd_ne (ne_of_none hc har3), upd_ne (ne_of_none hc hpd3), upd_ne (ne_of_none hc hpd3), upd_ne (ne_of_none hc hl)]
      exact hc
    have dd9 := hdeed.mono t39
    generalize upd (upd (upd (upd H3 l (.lst [.ref first])) pd o0) pd o) ar (.lst []) = H9 at e9 l9 nd9 r9 dd9 ⊢
    obtain ⟨Pv, hPv⟩ : ∃ Pv : Nat → L2.St → Hp → Prop, ∀ m σ' H', Pv m σ' H' ↔ ∃ (line : List RR.Deed) (T : RR.Arr) (z4 z9 z10 z11 z12 z13 : Option V), m + T.length = 61 ∧ T.length ≤ line.length ∧ Same H H' ∧
      σ' = [some (.ref a1), some (.str (txt u)), some (nv bg), some (.ref first), z4, some (.ref l), some (.ref pd), some (.ref ar), some (nv T.length), z9, z10, z11, z12, z13] ∧ DsAt H' l line ∧ NDict P w H' pd (line.map kD) ∧ RowsAt H' ar T ∧ RR.DRow k B M line T [] := ⟨_, fun _ _ _ => Iff.rfl⟩
    refine ⟨Pv, ⟨61, (hPv _ _ _).mpr ⟨[RR.deed0 B.length], [], _, _, _, _, _, _, rfl, Nat.zero_le _, e9, rfl, ?_, nd9, ⟨[], r9, rfl, fun i x r h => by simp at h⟩, RR.drow_start⟩⟩, ?_⟩
    · refine ⟨_, l9, rfl, fun i x d h1 h2 => ?_⟩
      cases i with
      | zero =>
        cases h1
        cases h2
        exact dd9
      | succ i => simp at h1
    intro m σ' H' hp
    obtain ⟨line, T, z4, z9, z10, z11, z12, z13, hm, hTl, e10, rfl, hds, hnd, hrows, hrow⟩ := (hPv _ _ _).mp hp
    have hlnd : line.Nodup := nodup_of_map hnd.nd
    have hfew := few line hlnd hrow.src
    obtain ⟨rs, hrl, hrlen, hrs⟩ := id hds
    refine ⟨_, rfl, _, rfl, l, rs, rfl, .inl (sqL hrl), _, _, rfl, rfl, _, rfl, ?_⟩
    by_cases hil : T.length < line.length
    case neg =>
      rw [decide_eq_false (by omega)]
      have hTl2 : T.length = line.length := by omega
      have tab := hrow.tab hTl2
      obtain ⟨rsA, hrA, hrAl, hrAz⟩ := id hrows
      refine iteF ⟨_, rfl, a1, dx1, _, rfl, e10 _ _ i1, a1, dx1, t1, _, _, rfl, e10 _ _ i1, e10 _ _ i2, rfl, _, rfl, ar, rsA, rfl, .inl ⟨sqL hrA, fun tA htA => ?_⟩⟩
      have eA := e10.trans (same_new (o := .tup rsA) htA)
      have hrl2 := same_new (o := .tup rsA) htA _ _ hrl
      refine ⟨_, rfl, l, rs, rfl, sqL hrl2, fun D2 hD2 => ?_⟩
      refine lc_fil grow_same walk_enum (Rb := fun i b => b = true ↔ ∃ d, line[i]? = some d ∧ RR.Inf (RR.dGo d) (RR.dMet d) (some bg)) (f := nv) (by omega) hD2 trivial (fun H e => sqL (e _ _ hrl2)) ?_ ?_ ?_
      · rintro i x H4 _ hi e4 ⟨Tt, x1', y1', rfl, hT, rfl, hx, hy⟩
        cases hx
        obtain ⟨d, hd⟩ : ∃ d, line[i]? = some d := ⟨_, List.getElem?_eq_getElem (by omega)⟩
        have hda := hrs i y1' d hy hd
        obtain ⟨vv, hvv, rfl⟩ := hrow.src d (List.mem_of_getElem? hd)
        have e5 := e4.trans (same_new (o := .tup [.int (i : Nat), y1']) hT)
        have hdl : (RR.deedOf B M vv).length = B.length := RR.deedOf_len vv
        refine ⟨Tt, _, rfl, sqT upd_same, rfl, _, _, rfl, _, _, rfl, rfl, rfl, fun Kb hKb => ?_⟩
        refine ⟨_, rfl, _, rfl, y1', some bg, RR.deedOf B M vv, rfl, hda.mono (same_tups ((same_new htA).trans e5)), fun y hy q hq => by rw [hdl]; exact RR.deedOf_rng ok vv y hy q hq, fun q e => by cases e; rw [hdl]; exact hbg, by omega, fun H6 b e6 hb6 => ⟨b, rfl, ?_⟩⟩
        refine hKb b H6 ((same_new hT).trans e6) ⟨fun h => ⟨_, hd, hb6.mp h⟩, fun ⟨d2, h1, h2⟩ => by rw [hd] at h1; cases h1; exact hb6.mpr h2⟩ fun _ Kx hKx => ⟨_, rfl, hKx _ ((same_new hT).trans e6)⟩
      · rintro x σ' H A1 B1 hAB ⟨a, xs, h1, h2, h3, v, r, h4, v2, r2, h5, h6, h7⟩
        exact ⟨a, xs, h1, h2, h3, v, r, h4, v2, r2, h5, h6, hAB _ _ h7⟩
      · intro p H4 e4 hp4 hD4
        have hgood : (List.range rs.length).filter p = RR.goods line bg := by
          unfold RR.goods
          rw [hrlen]
          refine List.filter_congr fun i hi => ?_
          have hi2 := List.mem_range.mp hi
          have h1 := hp4 i (by omega)
          obtain ⟨d, hd⟩ : ∃ d, line[i]? = some d := ⟨_, List.getElem?_eq_getElem hi2⟩
          rw [hd]
          rw [Bool.eq_iff_iff, h1]
          dsimp only
          rw [goodB_iff]
          constructor
          · rintro ⟨d2, h2, h3⟩
            rw [hd] at h2
            cases h2
            exact h3
          · intro h2
            exact ⟨d, hd, h2⟩
        rw [hgood] at hD4
        have hlang := tab.lang ok hbg
        refine ⟨D2, _, rfl, .inl ⟨sqL hD4, fun tE htE => ?_⟩⟩
        have eE := e4.trans (same_new (o := .tup ((RR.goods line bg).map nv)) htE)
        refine ⟨.ref tA, .ref tE, k, T, RR.goods line bg, rfl, ⟨tA, rsA, rfl, eE _ _ upd_same, hrAl, fun i x r h1 h2 => (hrAz i x r h1 h2).mono (same_tups ((same_new htA).trans eE))⟩, ⟨tE, rfl, upd_same⟩, tab.ok, hk, by omega, ?_, ?_, fun H5 r e5 hr => ?_⟩
        · unfold RR.goods
          exact List.nodup_range.filter _
        · intro e he
          unfold RR.goods at he
          have := List.mem_range.mp (List.mem_filter.mp he).1
          omega
        · rw [hlang] at hr
          exact q _ r ((eA.trans eE).trans e5) hr ⟨T, RR.goods line bg, tab.ok, by omega, hlang⟩
    rw [decide_eq_true (by omega)]
    obtain ⟨d, hd⟩ : ∃ d, line[T.length]? = some d := ⟨_, List.getElem?_eq_getElem hil⟩
    have hrd : rs[T.length]? = some (rs[T.length]'(by omega)) := List.getElem?_eq_getElem (by omega)
    have hda := hrs _ _ _ hrd hd
    obtain ⟨xd, hxd⟩ : ∃ xd, xd = rs[T.length]'(by omega) := ⟨_, rfl⟩
    rw [← hxd] at hrd hda
    refine iteT ⟨fun σ' H' => ∃ m', m' < m ∧ Pv m' σ' H', fun _ _ h => h, _, rfl, _, rfl, l, rs, _, xd, rfl, rfl, sqL hrl, atE (j := T.length) rfl hrd, ?_⟩
    refine ⟨_, rfl, _, _, rfl, rfl, Evl.sz_of (show 0 ≤ 100000 by decide), fun gl hgl => ?_⟩
    have eg := e10.trans (same_new (o := .lst []) hgl)
    have gnl : gl ≠ l := fun z => by rw [z, hrl] at hgl; cases hgl
    have gnp : gl ≠ pd := fun z => by obtain ⟨φ, h⟩ := hnd.ob; rw [z, h] at hgl; cases hgl
    have gna : gl ≠ ar := fun z => by obtain ⟨rs, h, _⟩ := hrows; rw [z, h] at hgl; cases hgl
    have ggl0 : H gl = none := by
      cases z : H gl with
      | none => rfl
      | some o => have := e10 _ _ z; rw [hgl] at this; cases this
    refine ⟨_, rfl, a1, dx1, _, rfl, eg _ _ i1, a1, dx1, t1, _, _, rfl, eg _ _ i1, eg _ _ i2, rfl, k, rfl, by omega, by omega, ?_⟩
    refine for_it walk_range (fun p σ' H' => ∃ (line2 : List RR.Deed) (gs : List Nat) (w11 w12 : Option V), Same H H' ∧
      σ' = [some (.ref a1), some (.str (txt u)), some (nv bg), some (.ref first), z4, some (.ref l), some (.ref pd), some (.ref ar), some (nv (T.length + 1)), some xd, some (.ref gl), w11, w12, z13] ∧ DsAt H' l line2 ∧ NDict P w H' pd (line2.map kD) ∧ RowsAt H' ar T ∧ RR.DRow k B M line2 T gs ∧
      gs.length = p ∧ H' gl = some (.lst (gs.map nv)) ∧ line2[T.length]? = some d ∧ DeedAt H' xd d) ⟨line, [], _, _, eg, rfl, hds.same (same_new hgl), hnd.same (same_new hgl), hrows.same (same_new hgl), hrow, rfl, by rw [upd_same]; rfl, hd, hda.mono (same_tups (same_new hgl))⟩ (fun _ _ _ _ _ => trivial) ?_ ?_
    · rintro p x σ' _ H2' hpk ⟨line2, gs, w11, w12, e2', rfl, ds2, nd2, ro2, row2, hgs, hg2, hd2, hda2⟩ ⟨rfl, hx⟩
      have hpk2 : p < k := by simpa using hpk
      obtain rfl : x = nv p := by rw [hx]; show V.int (0 + (p : Int)) = _; rw [Int.zero_add]; rfl
      obtain ⟨vv, hvv, hdv⟩ := row2.src d (List.mem_of_getElem? hd2)
      have hrng : ∀ y ∈ d, ∀ q, y.1 = some q → q < B.length := by rw [hdv]; exact RR.deedOf_rng ok vv
      have hdl : d.length ≤ 200 := by rw [hdv, RR.deedOf_len]; omega
      refine ⟨_, rfl, _, rfl, _, rfl, .ref a1, xd, p, k, B, M, d, rfl, hv.mono e2', hda2, ok, hpk2, hrng, hdl, fun H4 rl e4 hrl4 => ?_⟩
      obtain ⟨lb, rfl⟩ := hrl4.ref
      have ds4 := ds2.same e4
      have nd4 := nd2.same e4
      have ro4 := ro2.same e4
      have hg4 := e4 _ _ hg2
      have hd4 := hda2.mono (same_tups e4)
      have eH4 := e2'.trans e4
      obtain ⟨rs4, hrs4, hrs4l, _⟩ := id ds4
      obtain ⟨rsA, hrA, _⟩ := id ro4
      obtain ⟨φ4, hφ4⟩ := nd4.ob
      have sm : (gs.map nv).length < sizeLine := small (by rw [List.length_map]; omega)
      have hfew2 := few line2 (nodup_of_map nd2.nd) row2.src
      have hdeal : RR.deal B M d p = RR.deal B M d gs.length := by rw [hgs]
      have fin : ∀ (line3 : List RR.Deed) (j : Nat) (H6 : Hp), Same H H6 → DsAt H6 l line3 → NDict P w H6 pd (line3.map kD) → RowsAt H6 ar T → RR.DRow k B M line3 T (gs ++ [j]) → H6 gl = some (.lst (gs.map nv)) → line3[T.length]? = some d → DeedAt H6 xd d →
          ∃ (line2 : List RR.Deed) (gs2 : List Nat) (y11 y12 : Option V), Same H (upd H6 gl (.lst (gs.map nv ++ [nv j]))) ∧
            ([some (.ref a1), some (.str (txt u)), some (nv bg), some (.ref first), z4, some (.ref l), some (.ref pd), some (.ref ar), some (nv (T.length + 1)), some xd, some (.ref gl), some (nv p), some (.ref lb), z13] : L2.St) = [some (.ref a1), some (.str (txt u)), some (nv bg), some (.ref first), z4, some (.ref l), some (.ref pd), some (.ref ar), some (nv (T.length + 1)), some xd, some (.ref gl), y11, y12, z13] ∧
            DsAt (upd H6 gl (.lst (gs.map nv ++ [nv j]))) l line2 ∧ NDict P w (upd H6 gl (.lst (gs.map nv ++ [nv j]))) pd (line2.map kD) ∧ RowsAt (upd H6 gl (.lst (gs.map nv ++ [nv j]))) ar T ∧ RR.DRow k B M line2 T gs2 ∧
            gs2.length = p + 1 ∧ upd H6 gl (.lst (gs.map nv ++ [nv j])) gl = some (.lst (gs2.map nv)) ∧ line2[T.length]? = some d ∧ DeedAt (upd H6 gl (.lst (gs.map nv ++ [nv j]))) xd d := by
        intro line3 j H6 f1 f2 f3 f4 f5 f6 f7 f8
        have tu : Tups H6 (upd H6 gl (.lst (gs.map nv ++ [nv j]))) := Tups.upd f6 (fun xs z => nomatch z)
        exact ⟨line3, gs ++ [j], _, _, same_mut f1 ggl0, rfl, f2.at (upd_ne (Ne.symm gnl)) tu, f3.at tu (upd_ne (Ne.symm gnp)), f4.at (upd_ne (Ne.symm gna)) tu, f5, by simp [hgs], by rw [upd_same, List.map_append]; rfl, f7, f8.mono tu⟩
      refine ⟨_, rfl, _, rfl, pd, _, kD (RR.deal B M d p), rfl, nd4, ⟨_, rfl⟩, key_deed hrl4, kD_dep _, _, rfl, ?_⟩
      by_cases hin : RR.deal B M d p ∈ line2
      · have hdd : decide (kD (RR.deal B M d p) ∉ line2.map kD) = false := decide_eq_false (fun h => h (mem_kD.mpr hin))
        rw [hdd]
        obtain ⟨j, hj⟩ := List.mem_iff_getElem?.mp hin
        have row3 := row2.old hd2 (j := j) (by rw [← hdeal]; exact hj)
        refine iteF ⟨_, rfl, .inl ⟨rfl, _, sqL hg4⟩, _, rfl, _, rfl, pd, _, kD (RR.deal B M d p), j, rfl, nd4, ⟨_, rfl⟩, key_deed hrl4, kD_dep _, by rw [List.getElem?_map, hj]; rfl, gl, _, _, rfl, rfl, hg4, sm, fin line2 j H4 eH4 ds4 nd4 ro4 row3 hg4 hd2 hd4⟩
      · have hdd : decide (kD (RR.deal B M d p) ∉ line2.map kD) = true := decide_eq_true (fun h => hin (mem_kD.mp h))
        rw [hdd]
        have row3 := row2.new hd2 (by omega)
        rw [← hdeal] at row3
        refine iteT ⟨_, rfl, l, rs4, rfl, .inl (sqL hrs4), _, rfl, _, rfl, pd, _, kD (RR.deal B M d p), rfl, nd4, ⟨_, rfl⟩, key_deed hrl4, kD_dep _, fun h => hin (mem_kD.mp h), by rw [List.length_map]; omega, by rw [hrs4l, List.length_map], fun o ho nd5 => ?_⟩
        have t5 : Tups H4 (upd H4 pd o) := Tups.upd hφ4 (fun xs z => nomatch z)
        have ds5 : DsAt (upd H4 pd o) l line2 := ds4.at (upd_ne (Ne.symm n1)) t5
        have hrs5 : upd H4 pd o l = some (.lst rs4) := by rw [upd_ne (Ne.symm n1)]; exact hrs4
        refine ⟨_, rfl, .inl ⟨rfl, _, sqL hrs5⟩, _, rfl, l, rs4, _, rfl, rfl, hrs5, small (by omega), ?_⟩
        have de5 := hrl4.mono t5
        have ds6 := ds5.snoc hrs5 de5
        have t6 : Tups (upd H4 pd o) (upd (upd H4 pd o) l (.lst (rs4 ++ [.ref lb]))) := Tups.upd hrs5 (fun xs z => nomatch z)
        have nd6 : NDict P w (upd (upd H4 pd o) l (.lst (rs4 ++ [.ref lb]))) pd ((line2 ++ [RR.deal B M d p]).map kD) := by
          rw [List.map_append]
          exact nd5.at t6 (upd_ne n1)
        have ro6 : RowsAt (upd (upd H4 pd o) l (.lst (rs4 ++ [.ref lb]))) ar T := (ro4.at (upd_ne n2) t5).at (upd_ne n3) t6
        have g6 : upd (upd H4 pd o) l (.lst (rs4 ++ [.ref lb])) gl = some (.lst (gs.map nv)) := by rw [upd_ne gnl, upd_ne gnp]; exact hg4
        have hl2 := (List.getElem?_eq_some_iff.mp hd2).1
        refine ⟨_, rfl, .inl ⟨rfl, _, sqL g6⟩, _, rfl, _, rfl, pd, _, kD (RR.deal B M d p), line2.length, rfl, nd6, ⟨_, rfl⟩, key_deed (de5.mono t6), kD_dep _, by rw [List.getElem?_map, List.getElem?_append_right (Nat.le_refl _)]; simp, gl, _, _, rfl, rfl, g6, sm, fin (line2 ++ [RR.deal B M d p]) line2.length _ (same_mut (same_mut eH4 gp0) gl0) ds6 nd6 ro6 row3 g6 (by rw [List.getElem?_append_left hl2]; exact hd2) ((hd4.mono t5).mono t6)⟩
    · rintro σ' H2' ⟨line2, gs, w11, w12, e2', rfl, ds2, nd2, ro2, row2, hgs, hg2, hd2, hda2⟩
      have hgs2 : gs.length = k := by simpa using hgs
      have row3 := row2.done hgs2
      obtain ⟨rsA, hA, hAl, hAz⟩ := id ro2
      have hl2 := (List.getElem?_eq_some_iff.mp hd2).1
      have hfew2 := few line2 (nodup_of_map nd2.nd) row2.src
      refine ⟨_, rfl, .inl ⟨rfl, _, sqL hA⟩, _, rfl, gl, _, rfl, .inl ⟨sqL hg2, fun t ht => ⟨ar, rsA, _, rfl, rfl, same_new ht _ _ hA, small (by omega), m - 1, by omega, (hPv _ _ _).mpr ?_⟩⟩⟩
      have hlen3 : (T ++ [gs.map some]).length = T.length + 1 := by simp
      have ro3 := (ro2.same (same_new (o := .tup (gs.map nv)) ht)).snoc (same_new ht _ _ hA) (r := gs.map some) (t := t) (by rw [upd_same, List.map_map]; rfl)
      have t3 : Tups (upd H2' t (.tup (gs.map nv))) (upd (upd H2' t (.tup (gs.map nv))) ar (.lst (rsA ++ [.ref t]))) := Tups.upd (same_new ht _ _ hA) (fun xs z => nomatch z)
      exact ⟨line2, T ++ [gs.map some], _, _, _, _, _, _, by omega, by omega, same_mut (e2'.trans (same_new ht)) ga0, by rw [hlen3], (ds2.same (same_new ht)).at (upd_ne (Ne.symm n3)) t3, (nd2.same (same_new ht)).at t3 (upd_ne (Ne.symm n2)), ro3, row3⟩
end
end RK
/-! W15: the law's draws. -/
namespace RK
open PySem PySem.Spec PyProof.Rows L2
theorem pM : (0 : Int) < 2147482291 := by decide
theorem p4 : (0 : Int) < 4019 := by decide
/-- the vial -/
def VialAt (H : Hp) (v : Addr) : Prop := ∃ a b c : Int, H v = some (.lst [.int a, .int b, .int c]) ∧ 0 ≤ a ∧ (0 ≤ b ∧ b < 2147482291) ∧ 0 ≤ c
/-- as it was but for the vial, that stays one -/
def Drp (v : Addr) (H H' : Hp) : Prop := SameV v H H' ∧ (VialAt H v → VialAt H' v)
theorem VialAt.at {H H' : Hp} {v : Addr} (h : VialAt H v) (e : H' v = H v) : VialAt H' v :=
  let ⟨a, b, c, h1, r⟩ := h; ⟨a, b, c, e.trans h1, r⟩
theorem VialAt.ne {H : Hp} {v D : Addr} (h : VialAt H v) (hD : H D = none) : v ≠ D := by
  obtain ⟨a, b, c, h1, _⟩ := h
  exact ne_of_none h1 hD
theorem VialAt.same {H H' : Hp} {v : Addr} (h : VialAt H v) (e : Same H H') : VialAt H' v := by
  obtain ⟨a, b, c, h1, r⟩ := h
  exact ⟨a, b, c, e _ _ h1, r⟩
theorem grow_d (v : Addr) : Grow (Drp v) (· ≠ v) := ⟨fun H => ⟨fun _ _ _ h => h, fun h => h⟩, fun a b => ⟨(grow_v v).trans a.1 b.1, fun h => b.2 (a.2 h)⟩, fun e n h => e.1 _ _ n h, fun e hD => ⟨(grow_v v).wr e.1 hD, fun h => (e.2 h).at (upd_ne (h.ne hD))⟩⟩
theorem Same.d {H H' : Hp} {v : Addr} (e : Same H H') : Drp v H H' := ⟨fun a o _ h => e a o h, fun h => h.same e⟩
/-- the items one by one -/
theorem pick_all {α : Type} {f : α → V} {Pp : α → Prop} : ∀ {xs : List V}, (∀ (i : Nat) (x : V), xs[i]? = some x → ∃ a, x = f a ∧ Pp a) → ∃ l : List α, xs = l.map f ∧ ∀ a ∈ l, Pp a
  | [], _ => ⟨[], rfl, by simp⟩
  | x :: xs, h => by
    obtain ⟨a, ha, pa⟩ := h 0 x rfl
    obtain ⟨l, hl, pl⟩ := pick_all (xs := xs) fun i y hy => h (i + 1) y (by simpa using hy)
    refine ⟨a :: l, by rw [ha, hl]; rfl, fun b hb => ?_⟩
    rcases List.mem_cons.mp hb with e | hb
    · rw [e]; exact pa
    · exact pl b hb
theorem pick_rel {α : Type} {Q : V → α → Prop} : ∀ {xs : List V}, (∀ (i : Nat) (x : V), xs[i]? = some x → ∃ a, Q x a) → ∃ l : List α, xs.length = l.length ∧ ∀ (i : Nat) (x : V) (a : α), xs[i]? = some x → l[i]? = some a → Q x a
  | [], _ => ⟨[], rfl, by simp⟩
  | x :: xs, h => by
    obtain ⟨a, ha⟩ := h 0 x rfl
    obtain ⟨l, hl, pl⟩ := pick_rel (xs := xs) fun i y hy => h (i + 1) y (by simpa using hy)
    refine ⟨a :: l, by simp [hl], fun i y b h1 h2 => ?_⟩
    cases i with
    | zero => cases h1; cases h2; exact ha
    | succ i => exact pl i y b (by simpa using h1) (by simpa using h2)
theorem if_item {K : PySem.W.Frag} {σ : L2.St} {H : Hp} {a : Addr} {ns : List Int} {t : Nat} {Q : VK} (h0 : σ[0]? = some (some (.ref a))) (h1 : σ[1]? = some (some (nv t))) (ha : SqL K H a (ns.map V.int)) (rest : ∀ mine : Int, Q (.int mine) H) :
    tIf (tTest (tOp (rI0 fun i j => .bl (decide (i < j))) (tVar 1) (tCB (Evl.rLenS K) (tCons (tVar 0) tNil)))) (tOp (rIxL K) (tVar 0) (tVar 1)) (tC (.int 0)) σ H Q := by
  refine ⟨_, h1, _, h0, a, _, rfl, .inl ha, _, _, rfl, rfl, _, rfl, ?_⟩
  by_cases h : t < ns.length
  · rw [decide_eq_true (by rw [List.length_map]; omega)]
    exact iteT ⟨_, h0, _, h1, a, _, _, .int ns[t], rfl, rfl, ha, atE (j := t) rfl (by rw [List.getElem?_map, List.getElem?_eq_getElem h]; rfl), rest _⟩
  · rw [decide_eq_false (by rw [List.length_map]; omega)]
    exact iteF (rest 0)
theorem atV {v : Addr} {a b c : V} (i : Nat) {x : V} (h : [a, b, c][i]? = some x) : atI [a, b, c] (i : Int) = some x := atI_nat h
section
variable {P : Program} {w : World} {K : PySem.W.Frag} {mg : Str → Option Value} {base : Heap}
def sp_L_vial_of (K : PySem.W.Frag) : Sp := fun vs H Q _ => ∃ (a : Addr) (ns : List Int) (t : Nat), vs = [.ref a, nv t] ∧ SqL K H a (ns.map V.int) ∧ ns.length ≤ 1000 ∧ t ≤ 10 ∧ ∀ H' v, Same H H' → H v = none → VialAt H' v → Q (.ref v) H'
theorem ok_L_vial_of (G : Gs K mg) : Fn P w K mg base 1 d_L_vial_of p_L_vial_of (sp_L_vial_of K) := by
  refine fn_mk G 39 rfl sc_L_vial_of (fun vs H Q E h => by obtain ⟨_, _, _, rfl, _⟩ := h; rfl) (fun _ _ _ _ _ _ us hl => match us, hl with | [_, _], _ => rfl) (fun cdv A outer s H vs Q E hr h => ?_)
  have hu1 := hu_of hr
  have hu64 := hr.units
  have hrN := roomN.of hr
  refine both (pss_cons (ps_par (i := 2) (j := 3) rfl sc_L_vial_of.nd rfl rfl (by decide) rfl rfl (pa_cons (pe_ifExp (pt_cmpR op_lt (pv 1) (pe_callB (call_lenK rfl) rfl (G.f (x := "len")) bo_len (pa_cons (pv 0) pa_nil)) (nomark _)) (pe_ix (ix_listK rfl) (pv 0) (pv 1) (fun _ _ => rfl)) pe_int) (pa_cons (pe_op op_add pe_int (pe_op op_mul pe_int (pv 1))) pa_nil)) rfl)
      (pss_cons (ps_for PassesOwn.never rfl (pi_enumK rfl rfl (G.f (x := "enumerate")) (pa_cons (pe_slice (sl_listK rfl) (pv 0) po_none (po_some pe_int)) pa_nil)) (pg_tupK (n := 2) rfl rfl (pgs_cons (pg_name sc_L_vial_of.nd (i := 4) rfl (by first | exact .inl rfl | exact .inr rfl | exact .inr (.inl rfl) | exact .inr (.inr rfl))) (pgs_cons (pg_name sc_L_vial_of.nd (i := 5) rfl (by first | exact .inl rfl | exact .inr rfl | exact .inr (.inl rfl) | exact .inr (.inr rfl))) pgs_nil))) (pss_one (ps_set (i := 3) sc_L_vial_of.nd rfl (by first | exact .inl rfl | exact .inr rfl | exact .inr (.inl rfl) | exact .inr (.inr rfl)) (pe_op op_mod (pe_callTy call_int1 rfl (G.f (x := "int")) bo_int (pa_cons (pe_op op_add (pe_op op_mul (pv 3) (pe_op op_add pe_int (pe_op op_mul pe_int (pv 4)))) (pe_op op_mul pe_int (pv 5))) pa_nil)) pe_int))))
      (pss_one (ps_ret (pe_lst (pa_cons (pe_ifExp (PW.pt (pw_or (pt_cmpR op_lt (pv 2) pe_int (nomark _)) (pw_or1 (pt_cmpR op_ge (pv 2) (pe_op op_pow pe_int pe_int) (nomark _))))) (pe_callB call_abs rfl (G.f (x := "abs")) bo_abs (pa_cons (pv 2) pa_nil)) pe_int) (pa_cons (pe_op op_mod (pe_callTy call_int1 rfl (G.f (x := "int")) bo_int (pa_cons (pe_op op_add (pv 3) (pe_op op_mul pe_int (pv 2))) pa_nil)) pe_int) (pa_cons pe_int pa_nil)))))))) ?_
  obtain ⟨a, ns, t, rfl, ha, hn, ht, q⟩ := h
  refine if_item (K := K) rfl rfl ha fun mine => ?_
  refine ⟨_, rfl, _, _, rfl, rfl, .inl ⟨by decide, by decide⟩, _, _, rfl, rfl, _, _, rfl, ?_⟩
  refine ⟨_, rfl, 9, rfl, a, _, rfl, ha, fun p hp => ⟨p, _, rfl, sqL upd_same, ?_⟩⟩
  refine for_it walk_enum (fun i σ' H' => Same H H' ∧ H' p = some (.lst (cutV (ns.map V.int) none (some 9))) ∧ ∃ (sh : Int) (z4 z5 : Option V), σ' = [some (.ref a), some (nv t), some (.int mine), some (.int sh), z4, z5]) ⟨same_new hp, upd_same, _, _, _, rfl⟩ (fun i σ' H' _ e => sqL e.2.1) ?_ ?_
  · rintro i x σ' H2 _ hi ⟨e2, h2, sh, z4, z5, rfl⟩ ⟨T, x1, y1, rfl, hT, rfl, hx, hy⟩
    cases hx
    have hi9 : i < 9 := by
      have h1 : (cutV (ns.map V.int) none (some 9)).length ≤ 9 := by
        unfold cutV
        rw [List.length_take, show (some (9 : Int)) = some ((9 : Nat) : Int) from rfl, HT.sIx_nat]
        omega
      omega
    obtain ⟨n, rfl⟩ : ∃ n : Int, y1 = .int n := by
      have h1 := List.mem_of_getElem? (show (cutV (ns.map V.int) none (some 9))[i]? = some y1 from hy)
      unfold cutV at h1
      obtain ⟨n, _, e⟩ := List.mem_map.mp (List.mem_of_mem_drop (List.mem_of_mem_take h1))
      exact ⟨n, e.symm⟩
    refine ⟨T, _, rfl, sqT upd_same, rfl, _, _, rfl, _, _, rfl, rfl, ?_⟩
    refine ⟨_, rfl, _, rfl, _, _, rfl, rfl, .inl ⟨by decide, by decide⟩, _, _, rfl, rfl, _, _, rfl, rfl, .inr ⟨by omega, by omega⟩, _, rfl, _, _, rfl, rfl, .inl ⟨by decide, by decide⟩, _, _, rfl, rfl, .inl ⟨_, rfl, _, _, rfl, rfl, pM, ?_⟩⟩
    exact ⟨e2.trans (same_new hT), same_new hT _ _ h2, _, _, _, rfl⟩
  · rintro σ' H2 ⟨e2, h2, sh, z4, z5, rfl⟩
    have fin : ∀ (x : Int), 0 ≤ x → ∀ v, H2 v = none → Q (.ref v) (upd H2 v (.lst [.int x, .int ((sh + 19013 * mine) % 2147482291), .int 0])) := fun x hx v hv => by
      refine q _ v (e2.trans (same_new hv)) ?_ ⟨x, _, 0, upd_same, hx, ⟨by omega, by omega⟩, by omega⟩
      cases z : H v with
      | none => rfl
      | some o => have := e2 _ _ z; rw [hv] at this; cases this
    have ab : (0 : Int) ≤ (if mine < 0 then -mine else mine) := by split <;> omega
    refine ⟨_, rfl, _, _, rfl, rfl, _, rfl, ?_⟩
    by_cases hm : mine < 0
    · rw [decide_eq_true hm]
      exact iteT (iteT ⟨_, rfl, _, rfl, _, rfl, _, rfl, _, _, rfl, rfl, .inl ⟨by decide, by decide⟩, _, _, rfl, rfl, .inl ⟨_, rfl, _, _, rfl, rfl, pM, Evl.sz_of (show 3 ≤ 100000 by decide), fin _ ab⟩⟩)
    · rw [decide_eq_false hm]
      refine iteF ⟨_, rfl, _, _, rfl, rfl, ⟨by decide, by decide, by decide⟩, _, _, rfl, rfl, _, rfl, ?_⟩
      by_cases hm2 : (10 : Int) ^ (15 : Int).toNat ≤ mine
      · rw [decide_eq_true hm2]
        exact iteT ⟨_, rfl, _, rfl, _, rfl, _, rfl, _, _, rfl, rfl, .inl ⟨by decide, by decide⟩, _, _, rfl, rfl, .inl ⟨_, rfl, _, _, rfl, rfl, pM, Evl.sz_of (show 3 ≤ 100000 by decide), fin _ ab⟩⟩
      · rw [decide_eq_false hm2]
        exact iteF ⟨_, rfl, _, rfl, _, _, rfl, rfl, .inl ⟨by decide, by decide⟩, _, _, rfl, rfl, .inl ⟨_, rfl, _, _, rfl, rfl, pM, Evl.sz_of (show 3 ≤ 100000 by decide), fin 0 (by omega)⟩⟩
def sp_L_drip (K : PySem.W.Frag) : Sp := fun vs H Q _ => ∃ (v : Addr) (top : Nat), vs = [.ref v, nv top] ∧ VialAt H v ∧ 1 ≤ top ∧ top ≤ 1000 ∧ ∀ H' r, SameV v H H' → VialAt H' v → r < top → Q (nv r) H'
theorem ok_L_drip (G : Gs K mg) : Fn P w K mg base 1 d_L_drip p_L_drip (sp_L_drip K) := by
  refine fn_mk G 40 rfl sc_L_drip (fun vs H Q E h => by obtain ⟨_, _, rfl, _⟩ := h; rfl) (fun _ _ _ _ _ _ us hl => match us, hl with | [_, _], _ => rfl) (fun cdv A outer s H vs Q E hr h => ?_)
  have hu1 := hu_of hr
  have hu64 := hr.units
  have hrN := roomN.of hr
  refine both (pss_cons (ps_if (pt_cmpR op_gt (pe_ix (ix_listK rfl) (pv 0) pe_int (fun _ _ => rfl)) pe_int (nomark _)) (pss_cons (ps_asg (pe_callB call_divmod rfl (G.f (x := "divmod")) bo_divmod (pa_cons (pe_ix (ix_listK rfl) (pv 0) pe_int (fun _ _ => rfl)) (pa_cons (pv 1) pa_nil))) (pg_tupK (n := 2) rfl rfl (pgs_cons (pg_sub (pv 0) pe_int set_list) (pgs_cons (pg_name sc_L_drip.nd (i := 2) rfl (by first | exact .inl rfl | exact .inr rfl | exact .inr (.inl rfl) | exact .inr (.inr rfl))) pgs_nil))))
      (pss_one (ps_ret (pv 2)))) pss_nil)
      (pss_cons (ps_asg (pe_op op_add (pe_ix (ix_listK rfl) (pv 0) pe_int (fun _ _ => rfl)) pe_int) (pg_sub (pv 0) pe_int set_list))
      (pss_cons (ps_set (i := 3) sc_L_drip.nd rfl (by first | exact .inl rfl | exact .inr rfl | exact .inr (.inl rfl) | exact .inr (.inr rfl)) (pe_op op_mod (pe_callTy call_int1 rfl (G.f (x := "int")) bo_int (pa_cons (pe_op op_add (pe_ix (ix_listK rfl) (pv 0) pe_int (fun _ _ => rfl)) (pe_op op_mul pe_int (pe_ix (ix_listK rfl) (pv 0) pe_int (fun _ _ => rfl)))) pa_nil)) pe_int))
      (pss_cons (ps_asg (pe_op op_mod (pe_callTy call_int1 rfl (G.f (x := "int")) bo_int (pa_cons (pe_op op_add (pe_op op_add (pe_op op_mul (pv 3) (pe_op op_add (pe_op op_mod (pe_callTy call_int1 rfl (G.f (x := "int")) bo_int (pa_cons (pv 3) pa_nil)) pe_int) pe_int)) (pe_op op_mul pe_int (pe_ix (ix_listK rfl) (pv 0) pe_int (fun _ _ => rfl)))) pe_int) pa_nil)) pe_int) (pg_sub (pv 0) pe_int set_list))
      (pss_one (ps_ret (pe_op op_mod (pe_op op_fdiv (pe_callTy call_int1 rfl (G.f (x := "int")) bo_int (pa_cons (pe_ix (ix_listK rfl) (pv 0) pe_int (fun _ _ => rfl)) pa_nil)) pe_int) (pv 1)))))))) ?_
  obtain ⟨v, top, rfl, ⟨a, b, c, hv, ha, hb, hc⟩, ht1, ht2, q⟩ := h
  refine ⟨_, rfl, v, _, 0, _, rfl, rfl, sqL hv, atE (j := 0) rfl rfl, _, _, rfl, rfl, _, rfl, ?_⟩
  have sv : ∀ H1 o, SameV v H H1 → SameV v H (upd H1 v o) := fun H1 o e b u hb hu => by rw [upd_ne hb]; exact e b u hb hu
  have nn : ∀ x : Int, 0 ≤ x → x < top → ∃ r : Nat, x = (r : Int) ∧ r < top := fun x h1 h2 => ⟨x.toNat, by omega, by omega⟩
  by_cases h : 0 < a
  · rw [decide_eq_true h]
    have hm0 := Int.emod_nonneg a (show (top : Int) ≠ 0 by omega)
    have hm1 := Int.emod_lt_of_pos a (show (0 : Int) < top by omega)
    obtain ⟨r, hr, hrt⟩ := nn _ hm0 hm1
    refine iteT ⟨_, rfl, v, _, 0, _, rfl, rfl, sqL hv, atE (j := 0) rfl rfl, _, rfl, a, top, rfl, ⟨by omega, by omega⟩, fun p hp => ?_⟩
    have hpv : v ≠ p := ne_of_none hv hp
    refine ⟨p, _, rfl, sqT upd_same, rfl, _, _, rfl, _, rfl, v, _, 0, 0, rfl, rfl, (by rw [upd_ne hpv]; exact hv), rfl, _, _, rfl, rfl, _, rfl, ?_⟩
    rw [hr]
    exact q _ r (sv _ _ (Same.v (same_new hp) v)) ⟨a / top, b, c, upd_same, Int.ediv_nonneg ha (by omega), hb, hc⟩ hrt
  · rw [decide_eq_false h]
    refine iteF ⟨_, rfl, v, _, 2, _, rfl, rfl, sqL hv, atE (j := 2) rfl rfl, _, _, rfl, rfl, _, rfl, v, _, 2, 2, rfl, rfl, hv, rfl, ?_⟩
    have g1 : upd H v (.lst ([V.int a, .int b, .int c].set 2 (.int (c + 1)))) v = some (.lst [.int a, .int b, .int (c + 1)]) := upd_same
    have s1 := sv H (.lst ([V.int a, .int b, .int c].set 2 (.int (c + 1)))) (fun b u _ h => h)
    generalize upd H v (.lst ([V.int a, .int b, .int c].set 2 (.int (c + 1)))) = H1 at g1 s1 ⊢
    refine ⟨_, rfl, v, _, 1, _, rfl, rfl, sqL g1, atE (j := 1) rfl rfl, _, rfl, v, _, 2, _, rfl, rfl, sqL g1, atE (j := 2) rfl rfl, _, _, rfl, rfl, .inl ⟨by decide, by decide⟩, _, _, rfl, rfl, .inl ⟨_, rfl, _, _, rfl, rfl, pM, ?_⟩⟩
    obtain ⟨bs, hbs⟩ : ∃ bs, bs = (b + 31013 * (c + 1)) % 2147482291 := ⟨_, rfl⟩
    have hb0 : 0 ≤ bs ∧ bs < 2147482291 := by rw [hbs]; constructor <;> omega
    dsimp only [gName]
    rw [← hbs]
    refine ⟨_, rfl, _, rfl, .inl ⟨_, rfl, _, _, rfl, rfl, p4, _, _, rfl, rfl, _, _, rfl, rfl, .inl ⟨by omega, by omega⟩, _, rfl, v, _, 2, _, rfl, rfl, sqL g1, atE (j := 2) rfl rfl, _, _, rfl, rfl, .inl ⟨by decide, by decide⟩, _, _, rfl, rfl, _, _, rfl, rfl, .inl ⟨_, rfl, _, _, rfl, rfl, pM, _, rfl, v, _, 1, 1, rfl, rfl, g1, rfl, ?_⟩⟩⟩
    obtain ⟨b2, hb2⟩ : ∃ b2, b2 = (bs * (bs % 4019 + 86011) + 107 * (c + 1) + 67) % 2147482291 := ⟨_, rfl⟩
    have hb3 : 0 ≤ b2 ∧ b2 < 2147482291 := by rw [hb2]; constructor <;> omega
    dsimp only
    rw [← hb2]
    have g2 : upd H1 v (.lst ([V.int a, .int b, .int (c + 1)].set 1 (.int b2))) v = some (.lst [.int a, .int b2, .int (c + 1)]) := upd_same
    have s2 := sv H1 (.lst ([V.int a, .int b, .int (c + 1)].set 1 (.int b2))) s1
    generalize upd H1 v (.lst ([V.int a, .int b, .int (c + 1)].set 1 (.int b2))) = H2 at g2 s2 ⊢
    have hm0 := Int.emod_nonneg (b2 / 157) (show (top : Int) ≠ 0 by omega)
    have hm1 := Int.emod_lt_of_pos (b2 / 157) (show (0 : Int) < top by omega)
    obtain ⟨r, hr, hrt⟩ := nn _ hm0 hm1
    refine ⟨_, rfl, v, _, 1, _, rfl, rfl, sqL g2, atE (j := 1) rfl rfl, .inl ⟨_, rfl, _, _, rfl, rfl, ⟨by decide, by decide⟩, _, rfl, _, _, rfl, rfl, by omega, ?_⟩⟩
    dsimp only
    rw [hr]
    exact q _ r s2 ⟨a, b2, c + 1, g2, ha, hb3, by omega⟩ hrt
def sp_L_draw (K : PySem.W.Frag) : Sp := fun vs H Q _ => ∃ (v m : Addr) (xs : List V), vs = [.ref v, .ref m] ∧ VialAt H v ∧ H m = some (.lst xs) ∧ m ≠ v ∧ xs ≠ [] ∧ xs.length ≤ 1000 ∧ ∀ H' (i : Nat) (x : V), SameV v H H' → VialAt H' v → xs[i]? = some x → Q x H'
theorem ok_L_draw (G : Gs K mg) (h_L_drip : Fn P w K mg base 1 d_L_drip p_L_drip (sp_L_drip K)) : Fn P w K mg base 2 d_L_draw p_L_draw (sp_L_draw K) := by
  refine fn_mk G 41 rfl sc_L_draw (fun vs H Q E h => by obtain ⟨_, _, _, rfl, _⟩ := h; rfl) (fun _ _ _ _ _ _ us hl => match us, hl with | [_, _], _ => rfl) (fun cdv A outer s H vs Q E hr h => ?_)
  have hu1 := hu_of hr
  have hu64 := hr.units
  have hrN := roomN.of hr
  refine both (pss_one (ps_ret (pe_ix (ix_listK rfl) (pv 1) (pe_fn h_L_drip (hr.mono (by decide)) rfl (G.g (x := "_law_drip")) (pa_cons (pv 0) (pa_cons (pe_callB (call_lenK rfl) rfl (G.f (x := "len")) bo_len (pa_cons (pv 1) pa_nil)) pa_nil))) (fun _ _ => rfl)))) ?_
  obtain ⟨v, m, xs, rfl, hv, hm, hne, hx0, hxl, q⟩ := h
  have hx1 : 1 ≤ xs.length := List.length_pos_iff.mpr hx0
  refine ⟨_, rfl, _, rfl, _, rfl, m, xs, rfl, .inl (sqL hm), v, xs.length, rfl, hv, hx1, hxl, fun H1 r e1 hv1 hr => ?_⟩
  exact ⟨m, xs, _, xs[r], rfl, rfl, sqL (e1 _ _ hne hm), atE (j := r) rfl (List.getElem?_eq_getElem hr), q _ r _ e1 hv1 (List.getElem?_eq_getElem hr)⟩
def sp_L_arrows (K : PySem.W.Frag) : Sp := fun vs H Q _ => ∃ (v : Addr) (k n : Nat), vs = [.ref v, nv k, nv n] ∧ VialAt H v ∧ k ≤ 8 ∧ 1 ≤ n ∧ n ≤ 10 ∧ ∀ H' r A, SameV v H H' → VialAt H' v → ArrAt H' r A → RR.ArrOk k A → A.length = n → Q r H'
theorem ok_L_arrows (G : Gs K mg) (h_L_draw : Fn P w K mg base 2 d_L_draw p_L_draw (sp_L_draw K)) : Fn P w K mg base 3 d_L_arrows p_L_arrows (sp_L_arrows K) := by
  refine fn_mk G 42 rfl sc_L_arrows (fun vs H Q E h => by obtain ⟨_, _, _, rfl, _⟩ := h; rfl) (fun _ _ _ _ _ _ us hl => match us, hl with | [_, _, _], _ => rfl) (fun cdv A outer s H vs Q E hr h => ?_)
  have hu1 := hu_of hr
  have hu64 := hr.units
  have hrN := roomN.of hr
  refine both (pss_cons (ps_set (i := 3) sc_L_arrows.nd rfl (by first | exact .inl rfl | exact .inr rfl | exact .inr (.inl rfl) | exact .inr (.inr rfl)) (pe_op op_cat (pe_op op_rep (pe_listRg rfl rfl (G.f (x := "list")) (prg_1 rfl (G.f (x := "range")) (pv 2))) pe_int) (pe_lst (pa_cons pe_non pa_nil))))
      (pss_one (ps_ret (pe_callTy (call_tupleK rfl) rfl (G.f (x := "tuple")) bo_tuple (pa_cons (pe_lc rfl sc_L_arrows.nd (pi_range1 rfl (G.f (x := "range")) (pa_cons (pv 2) pa_nil)) (blkOk_by (own := [("_law_stand", 5)]) (by first | (show blkC n_L_arrows (defScope s_L_arrows) _ _ = true; decide +kernel) | rfl)) (fun _ _ _ _ _ => (pg_name sc_L_arrows.nd (i := 5) rfl (by first | exact .inl rfl | exact .inr rfl | exact .inr (.inl rfl) | exact .inr (.inr rfl)))) (fun _ _ _ _ _ => pts_nil) (fun _ _ _ _ _ => (pe_callTy (call_tupleK rfl) rfl (G.f (x := "tuple")) bo_tuple (pa_cons (pe_lc rfl sc_L_arrows.nd (pi_range1 rfl (G.f (x := "range")) (pa_cons (pv 1) pa_nil)) (blkOk_by (own := [("_law_sign", 4)]) (by first | (show blkC n_L_arrows (defScope s_L_arrows) _ _ = true; decide +kernel) | rfl)) (fun _ _ _ _ _ => (pg_name sc_L_arrows.nd (i := 4) rfl (by first | exact .inl rfl | exact .inr rfl | exact .inr (.inl rfl) | exact .inr (.inr rfl)))) (fun _ _ _ _ _ => pts_nil) (fun _ _ _ _ _ => (pe_fn h_L_draw (hr.mono (by decide)) rfl (G.g (x := "_law_draw")) (pa_cons (pv 0) (pa_cons (pv 3) pa_nil))))) pa_nil)))) pa_nil))))) ?_
  obtain ⟨v, k, n, rfl, hv, hk, hn1, hn2, q⟩ := h
  refine ⟨_, rfl, _, rfl, RgOk.of_le (by omega) (by omega) (by omega) (by omega), fun p1 hp1 => ⟨p1, 2, _, rfl, rfl, upd_same, by omega, by omega, Evl.sz_of (by rw [rgV_length]; show _ * 2 ≤ 100000; omega), fun p2 hp2 => ⟨Evl.sz_of (show 1 ≤ 100000 by decide), fun p3 hp3 => ⟨p2, p3, _, _, rfl, rfl, same_new hp3 _ _ upd_same, upd_same, ?_, fun p4 hp4 => ?_⟩⟩⟩⟩
  · refine Evl.sz_of ?_
    have : (List.replicate (2 : Int).toNat (rgV 0 n)).flatten.length = 2 * (rgV 0 n).length := by show (rgV 0 n ++ (rgV 0 n ++ [])).length = _; simp; omega
    rw [this, rgV_length]
    show _ + 1 ≤ 100000
    omega
  have e4 : Same H (upd (upd (upd (upd H p1 (.lst (rgV 0 n))) p2 (.lst (List.replicate (2 : Int).toNat (rgV 0 n)).flatten)) p3 (.lst [.non])) p4 (.lst ((List.replicate (2 : Int).toNat (rgV 0 n)).flatten ++ [.non]))) := (((same_new hp1).trans (same_new hp2)).trans (same_new hp3)).trans (same_new hp4)
  have m4 : upd (upd (upd (upd H p1 (.lst (rgV 0 n))) p2 (.lst (List.replicate (2 : Int).toNat (rgV 0 n)).flatten)) p3 (.lst [.non])) p4 (.lst ((List.replicate (2 : Int).toNat (rgV 0 n)).flatten ++ [.non])) p4 = some (.lst ((List.replicate (2 : Int).toNat (rgV 0 n)).flatten ++ [.non])) := upd_same
  have n4 : p4 ≠ v := fun z => by
    have h1 := ((same_new (o := .lst (rgV 0 n)) hp1).trans (same_new (o := .lst (List.replicate (2 : Int).toNat (rgV 0 n)).flatten) hp2)).trans (same_new (o := .lst [.non]) hp3)
    obtain ⟨a, b, c, h2, _⟩ := hv
    have := h1 _ _ h2
    rw [← z, hp4] at this
    cases this
  obtain ⟨ms, hms⟩ : ∃ ms, ms = (List.replicate (2 : Int).toNat (rgV 0 n)).flatten ++ [V.non] := ⟨_, rfl⟩
  have hmem : ∀ x ∈ ms, ∃ o : Option Nat, x = onv o ∧ ∀ q, o = some q → q < n := by
    intro x hx
    rw [hms] at hx
    have h2 : x ∈ rgV 0 n ∨ x = .non := by
      rcases List.mem_append.mp hx with h | h
      · left
        have : x ∈ rgV 0 n ++ (rgV 0 n ++ []) := h
        simpa using this
      · right
        simpa using h
    rcases h2 with h | h
    · unfold rgV at h
      obtain ⟨j, hj, e⟩ := List.mem_map.mp h
      have hj2 := List.mem_range.mp hj
      refine ⟨some j, ?_, fun q e2 => by cases e2; simpa using hj2⟩
      rw [← e]
      show V.int (0 + (j : Int)) = V.int (j : Int)
      rw [Int.zero_add]
    · exact ⟨none, h, fun q e => by cases e⟩
  have hml : ms.length ≤ 1000 ∧ ms ≠ [] := by
    constructor
    · rw [hms, List.length_append]
      have : (List.replicate (2 : Int).toNat (rgV 0 n)).flatten.length = 2 * (rgV 0 n).length := by show (rgV 0 n ++ (rgV 0 n ++ [])).length = _; simp; omega
      rw [this, rgV_length]
      show _ + 1 ≤ 1000
      omega
    · rw [hms]; simp
  have hv4 := hv.same e4
  generalize upd (upd (upd (upd H p1 (.lst (rgV 0 n))) p2 (.lst (List.replicate (2 : Int).toNat (rgV 0 n)).flatten)) p3 (.lst [.non])) p4 (.lst ((List.replicate (2 : Int).toNat (rgV 0 n)).flatten ++ [.non])) = H4 at e4 m4 hv4
  rw [← hms] at m4
  refine ⟨_, rfl, _, rfl, by omega, by omega, fun D hD => ?_⟩
  refine lc_relD (grow_d v) walk_range (by simp; omega) hD (fun z => hv4.ne hD z.symm) (fun i x H' => ∃ (r : List (Option Nat)) (a : Addr), x = .ref a ∧ a ≠ v ∧ a ≠ D ∧ H' a = some (.tup (r.map onv)) ∧ r.length = k ∧ ∀ o ∈ r, ∀ q, o = some q → q < n) (fun i x H H' e ⟨r, a, g1, g2, g3, g4, g5⟩ => ⟨r, a, g1, g2, g3, e.1 _ _ g2 g4, g5⟩) (fun i x H o ⟨r, a, g1, g2, g3, g4, g5⟩ _ => ⟨r, a, g1, g2, g3, by rw [upd_ne g3]; exact g4, g5⟩) (fun _ _ => trivial) ?_ ?_
  · rintro i x _ H5 hi e5 ⟨accD, hacc⟩ ⟨rfl, hx⟩ Kt hK
    have hv5 := e5.2 hv4
    refine ⟨rfl, _, rfl, _, rfl, by omega, by omega, fun D2 hD2 => ?_⟩
    refine lc_rel (grow_d v) walk_range (by simp; omega) hD2 (fun z => hv5.ne hD2 z.symm) (fun i x _ => ∃ o : Option Nat, x = onv o ∧ ∀ q, o = some q → q < n) (fun _ _ _ _ _ h => h) (fun _ _ _ _ h _ => h) (fun _ _ => trivial) ?_ ?_
    · rintro i2 x2 _ H6 hi2 e6 ⟨rfl, hx2⟩ Kt2 hK2
      have hv6 := e6.2 hv5
      have m6 := e6.1 _ _ n4 (e5.1 _ _ n4 m4)
      refine ⟨rfl, _, rfl, _, rfl, v, p4, ms, rfl, hv6, m6, n4, hml.2, hml.1, fun H7 j y e7 hv7 hj => hK2 _ _ ⟨e7, fun _ => hv7⟩ (hmem y (List.mem_of_getElem? hj))⟩
    · intro xs H6 e6 hx6 hlen6 hall6
      obtain ⟨r, hr, hrp⟩ := pick_all (f := onv) hall6
      have hxl : r.length = k := by
        have h1 := congrArg List.length hr
        rw [List.length_map] at h1
        rw [← h1, hlen6]
        simp
      refine ⟨D2, xs, rfl, .inl ⟨sqL hx6, fun t ht => ?_⟩⟩
      have hv6 := e6.2 hv5
      refine hK _ _ ⟨fun a o n h => same_new ht _ _ (e6.1 a o n h), fun _ => hv6.same (same_new ht)⟩ ⟨r, t, rfl, fun z => hv6.ne ht z.symm, fun z => ?_, by rw [upd_same, hr], hxl, hrp⟩
      have hDv : D ≠ v := fun z => hv4.ne hD z.symm
      have hDD := e6.1 _ _ hDv hacc
      rw [← z, ht] at hDD
      cases hDD
  · intro xs H5 e5 hx5 hlen5 hall5
    have hv5 := e5.2 hv4
    refine ⟨D, xs, rfl, .inl ⟨sqL hx5, fun t ht => ?_⟩⟩
    obtain ⟨A', hA1, hA2⟩ := pick_rel (Q := fun x (r : List (Option Nat)) => RowAt H5 x r ∧ r.length = k ∧ ∀ o ∈ r, ∀ q, o = some q → q < n) (xs := xs) fun i x hx => by
      obtain ⟨r, a, g1, g2, g3, g4, g5⟩ := hall5 i x hx
      exact ⟨r, ⟨a, g1, g4⟩, g5⟩
    have hAn : A'.length = n := by rw [← hA1, hlen5]; simp
    have hrow : ∀ r ∈ A', r.length = k ∧ ∀ o ∈ r, ∀ q, o = some q → q < n := fun r hr => by
      obtain ⟨i, hi⟩ := List.mem_iff_getElem?.mp hr
      have hil := (List.getElem?_eq_some_iff.mp hi).1
      exact (hA2 i (xs[i]'(by omega)) r (List.getElem?_eq_getElem (by omega)) hi).2
    refine q _ _ A' (fun a o hne h => same_new ht _ _ (e5.1 a o hne (e4 _ _ h))) (hv5.same (same_new ht)) ⟨t, xs, rfl, upd_same, hA1, fun i x r h1 h2 => (hA2 i x r h1 h2).1.mono (same_tups (same_new ht))⟩ ⟨by omega, fun r hr => (hrow r hr).1, fun r hr q' hq' => by rw [hAn]; exact (hrow r hr).2 _ hq' q' rfl⟩ hAn
def sp_L_lot (K : PySem.W.Frag) : Sp := fun vs H Q _ => ∃ (v : Addr) (n : Nat), vs = [.ref v, nv n] ∧ VialAt H v ∧ n ≤ 10 ∧ ∀ H' r (E : List Nat), SameV v H H' → VialAt H' v → NatsAt H' r E → E.Pairwise (· < ·) → (∀ e ∈ E, e < n) → E.length ≤ 10 → Q r H'
theorem ok_L_lot (G : Gs K mg) (h_L_drip : Fn P w K mg base 1 d_L_drip p_L_drip (sp_L_drip K)) : Fn P w K mg base 2 d_L_lot p_L_lot (sp_L_lot K) := by
  refine fn_mk G 43 rfl sc_L_lot (fun vs H Q E h => by obtain ⟨_, _, rfl, _⟩ := h; rfl) (fun _ _ _ _ _ _ us hl => match us, hl with | [_, _], _ => rfl) (fun cdv A outer s H vs Q E hr h => ?_)
  have hu1 := hu_of hr
  have hu64 := hr.units
  have hrN := roomN.of hr
  refine both (pss_one (ps_ret (pe_callTy (call_tupleK rfl) rfl (G.f (x := "tuple")) bo_tuple (pa_cons (pe_lc rfl sc_L_lot.nd (pi_range1 rfl (G.f (x := "range")) (pa_cons (pv 1) pa_nil)) (blkOk_by (own := [("_law_stand", 2)]) (by first | (show blkC n_L_lot (defScope s_L_lot) _ _ = true; decide +kernel) | rfl)) (fun _ _ _ _ _ => (pg_name sc_L_lot.nd (i := 2) rfl (by first | exact .inl rfl | exact .inr rfl | exact .inr (.inl rfl) | exact .inr (.inr rfl)))) (fun _ _ _ _ _ => (pts_one (pt_cmpR op_eq (pe_fn h_L_drip (hr.mono (by decide)) rfl (G.g (x := "_law_drip")) (pa_cons (pv 0) (pa_cons pe_int pa_nil))) pe_int (nomark _)))) (fun _ _ _ _ _ => (pv 2))) pa_nil)))) ?_
  obtain ⟨v, n, rfl, hv, hn, q⟩ := h
  refine ⟨_, rfl, _, rfl, by omega, by omega, fun D hD => ?_⟩
  refine lc_fil (grow_d v) walk_range (Rb := fun _ _ => True) (f := nv) (by simp; omega) hD (fun z => hv.ne hD z.symm) (fun _ _ => trivial) ?_ (fun x σ H A B h k => h _ _ k) ?_
  · rintro i x _ H4 hi e4 ⟨rfl, hx⟩
    obtain rfl : x = nv i := by rw [hx]; show V.int (0 + (i : Int)) = _; rw [Int.zero_add]; rfl
    refine ⟨rfl, fun Kb hKb => ?_⟩
    have hv4 := e4.2 hv
    refine ⟨_, rfl, v, 2, rfl, hv4, by omega, by omega, fun H5 r e5 hv5 hr => ⟨rfl, _, rfl, ?_⟩⟩
    exact hKb _ _ ⟨e5, fun _ => hv5⟩ trivial fun _ Kx hKx => ⟨_, rfl, hKx _ ⟨e5, fun _ => hv5⟩⟩
  · intro p H4 e4 _ hD4
    have hn2 : ((n : Nat) : Int).toNat = n := by simp
    rw [hn2] at hD4
    have hv4 := e4.2 hv
    have hlen : ((List.range n).filter p).length ≤ n := by have := List.length_filter_le p (List.range n); simpa using this
    refine ⟨D, _, rfl, .inl ⟨sqL hD4, fun t ht => q _ _ ((List.range n).filter p) (fun a o hne h => same_new ht _ _ (e4.1 a o hne h)) (hv4.same (same_new ht)) ⟨t, rfl, upd_same⟩ (List.pairwise_lt_range.filter _) (fun e he => List.mem_range.mp (List.mem_filter.mp he).1) (by omega)⟩⟩
end
end RK
/-! W16: the law's rows and its own walk of a watcher. -/
namespace RK
open PySem PySem.Spec PyProof.Rows L2
def tV (u : List Nat) : V := .str (txt u)
theorem sign_txt : ∀ k : Nat, k ≤ 8 → cutS "abcdefgh" none (some (k : Int)) = txt (List.range k) := by
  intro k hk
  have key : ∀ k : Fin 9, cutS "abcdefgh" none (some ((k.val : Nat) : Int)) = txt (List.range k.val) := by decide +kernel
  exact key ⟨k, by omega⟩
theorem at_last {l : List (Option Nat)} (h : l ≠ []) : atI (l.map onv) (-1) = some (onv (l.getLast h)) := by
  have e : l.map onv = (l.dropLast).map onv ++ [onv (l.getLast h)] := by
    rw [← List.map_singleton, ← List.map_append, List.dropLast_concat_getLast]
  rw [e]
  exact atI_last _ _
theorem foldl_arr (a : Array Nat) : ∀ (n : Nat) (acc : Array Nat), ((List.replicate n a).foldl (· ++ ·) acc).toList = acc.toList ++ (List.replicate n a.toList).flatten
  | 0, acc => by simp
  | n + 1, acc => by
    rw [List.replicate_succ, List.foldl_cons, foldl_arr a n (acc ++ a), List.replicate_succ, List.flatten_cons]
    simp
theorem rpt_flat (v : List Nat) : ∀ n, RR.rpt n v = (List.replicate n v).flatten
  | 0 => rfl
  | n + 1 => by
    show RR.rpt n v ++ v = _
    rw [rpt_flat v n, List.replicate_succ']
    simp
theorem mul_txt (v : List Nat) (n : Nat) : mulS (txt v) (n : Int) = txt (RR.rpt n v) := by
  show Txt.mul (txt v) (n : Int) = _
  unfold Txt.mul
  by_cases h : (n : Int) < 1
  · rw [if_pos h]
    have : n = 0 := by omega
    subst this
    rfl
  · rw [if_neg h]
    by_cases h2 : ((n : Int) == 1 || (txt v).length == 0) = true
    · rw [if_pos h2]
      rcases Bool.or_eq_true_iff.mp h2 with h3 | h3
      · have : n = 1 := by have := beq_iff_eq.mp h3; omega
        subst this
        show txt v = txt ([] ++ v)
        rfl
      · have hv : v = [] := by
          have := beq_iff_eq.mp h3
          rw [txt_len] at this
          exact List.eq_nil_of_length_eq_zero this
        subst hv
        rw [rpt_flat]
        simp
    · rw [if_neg h2]
      unfold txt
      congr 1
      refine Array.ext' ?_
      rw [foldl_arr, rpt_flat, Int.toNat_natCast]
      simp
theorem in_none (l : List (Option Nat)) : inV .non (l.map onv) = decide (none ∈ l) := by
  unfold inV
  rw [Bool.eq_iff_iff, List.any_eq_true, decide_eq_true_iff]
  constructor
  · rintro ⟨x, hx, h⟩
    obtain ⟨o, ho, rfl⟩ := List.mem_map.mp hx
    cases o with
    | none => exact ho
    | some q => cases h
  · intro h
    exact ⟨.non, List.mem_map.mpr ⟨none, h, rfl⟩, rfl⟩
theorem flat_ons (l : List (Option Nat)) : (l.map onv).all flatV = true := by
  rw [List.all_eq_true]
  intro x hx
  obtain ⟨o, _, rfl⟩ := List.mem_map.mp hx
  exact flat_on o
section
variable {P : Program} {w : World} {K : PySem.W.Frag} {mg : Str → Option Value} {base : Heap}
def sp_L_rows (K : PySem.W.Frag) : Sp := fun vs H Q _ => ∃ (k n : Nat), vs = [nv k, nv n] ∧ k ≤ 2 ∧ n ≤ 4 ∧ ∀ H' l (ws : List (List Nat)), Same H H' → H' l = some (.lst (([] :: ws).map tV)) → (∀ u ∈ ws, u ≠ [] ∧ (∀ p ∈ u, p < k) ∧ u.length ≤ n) → ws.length ≤ 100 → Q (.ref l) H'
theorem ok_L_rows (G : Gs K mg) : Fn P w K mg base 1 d_L_rows p_L_rows (sp_L_rows K) := by
  refine fn_mk G 44 rfl sc_L_rows (fun vs H Q E h => by obtain ⟨_, _, rfl, _⟩ := h; rfl) (fun _ _ _ _ _ _ us hl => match us, hl with | [_, _], _ => rfl) (fun cdv A outer s H vs Q E hr h => ?_)
  have hu1 := hu_of hr
  have hu64 := hr.units
  have hrN := roomN.of hr
  refine both (pss_cons (ps_par (i := 2) (j := 3) rfl sc_L_rows.nd rfl rfl (by decide) rfl rfl (pa_cons (pe_lst (pa_cons pe_str pa_nil)) (pa_cons (pe_lst (pa_cons pe_str pa_nil)) pa_nil)) rfl)
      (pss_cons (ps_for PassesOwn.never rfl (pi_range1 rfl (G.f (x := "range")) (pa_cons (pv 1) pa_nil)) (pg_name sc_L_rows.nd (i := 4) rfl (by first | exact .inl rfl | exact .inr rfl | exact .inr (.inl rfl) | exact .inr (.inr rfl))) (pss_cons (ps_set (i := 5) sc_L_rows.nd rfl (by first | exact .inl rfl | exact .inr rfl | exact .inr (.inl rfl) | exact .inr (.inr rfl)) (pe_lst pa_nil))
      (pss_cons (ps_for PassesOwn.never rfl (pi_listK rfl (pv 3)) (pg_name sc_L_rows.nd (i := 6) rfl (by first | exact .inl rfl | exact .inr rfl | exact .inr (.inl rfl) | exact .inr (.inr rfl))) (pss_one (ps_set (i := 5) sc_L_rows.nd rfl (by first | exact .inl rfl | exact .inr rfl | exact .inr (.inl rfl) | exact .inr (.inr rfl)) (pe_op op_cat (pv 5) (pe_lc rfl sc_L_rows.nd (pi_str (pe_slice sl_str pe_str po_none (po_some (pv 0)))) (blkOk_by (own := [("_law_sign", 7)]) (by first | (show blkC n_L_rows (defScope s_L_rows) _ _ = true; decide +kernel) | rfl)) (fun _ _ _ _ _ => (pg_name sc_L_rows.nd (i := 7) rfl (by first | exact .inl rfl | exact .inr rfl | exact .inr (.inl rfl) | exact .inr (.inr rfl)))) (fun _ _ _ _ _ => pts_nil) (fun _ _ _ _ _ => (pe_op op_add_str (pv 6) (pv 7))))))))
      (pss_one (ps_par (i := 2) (j := 3) rfl sc_L_rows.nd rfl rfl (by decide) rfl rfl (pa_cons (pe_op op_cat (pv 2) (pv 5)) (pa_cons (pv 5) pa_nil)) rfl)))))
      (pss_one (ps_ret (pv 2))))) ?_
  obtain ⟨k, n, rfl, hk, hn, q⟩ := h
  refine ⟨Evl.sz_of (show 1 ≤ 100000 by decide), fun f0 hf0 => ⟨Evl.sz_of (show 1 ≤ 100000 by decide), fun l0 hl0 => ⟨_, _, rfl, ?_⟩⟩⟩
  have b0 : upd (upd H f0 (.lst [.str ""])) l0 (.lst [.str ""]) f0 = some (.lst [.str ""]) := same_new hl0 _ _ upd_same
  have c0 : upd (upd H f0 (.lst [.str ""])) l0 (.lst [.str ""]) l0 = some (.lst [.str ""]) := upd_same
  have e0 := (same_new (o := .lst [.str ""]) hf0).trans (same_new (o := .lst [.str ""]) hl0)
  generalize upd (upd H f0 (.lst [.str ""])) l0 (.lst [.str ""]) = H0 at b0 c0 e0 ⊢
  refine ⟨_, rfl, _, rfl, by omega, by omega, ?_⟩
  have hkn : ((n : Nat) : Int).toNat = n := by simp
  refine for_it walk_range (fun i σ' H' => Same H H' ∧ ∃ (fl ll : Addr) (ws ls : List (List Nat)) (z4 z5 z6 z7 : Option V), σ' = [some (nv k), some (nv n), some (.ref fl), some (.ref ll), z4, z5, z6, z7] ∧ H' fl = some (.lst (([] :: ws).map tV)) ∧ H' ll = some (.lst (ls.map tV)) ∧
    (∀ u ∈ ws, u ≠ [] ∧ (∀ p ∈ u, p < k) ∧ u.length ≤ i) ∧ (∀ u ∈ ls, (∀ p ∈ u, p < k) ∧ u.length = i) ∧ ls.length ≤ 2 ^ i ∧ ws.length + 2 ≤ 2 ^ (i + 1)) ⟨e0, f0, l0, [], [[]], _, _, _, _, rfl, b0, c0, by simp, by simp, by simp, by simp⟩ (fun _ _ _ _ _ => trivial) ?_ ?_
  · rintro i x σ' _ H1 hi ⟨e1, fl, ll, ws, ls, z4, z5, z6, z7, rfl, h1, h2, hws, hls, hn1, hn2⟩ ⟨rfl, hx⟩
    rw [hkn] at hi
    have hp1 : 2 ^ i ≤ 2 ^ 4 := Nat.pow_le_pow_right (by decide) (by omega)
    have hp2 : 2 ^ (i + 1) ≤ 2 ^ 5 := Nat.pow_le_pow_right (by decide) (by omega)
    have hp3 : 2 ^ (i + 1) = 2 ^ i * 2 := Nat.pow_succ 2 i
    have hp4 : 2 ^ (i + 1 + 1) = 2 ^ (i + 1) * 2 := Nat.pow_succ 2 (i + 1)
    refine ⟨Evl.sz_of (show 0 ≤ 100000 by decide), fun g0 hg0 => ?_⟩
    have e2 := e1.trans (same_new (o := .lst []) hg0)
    have k1 := same_new (o := .lst []) hg0 _ _ h1
    have k2 := same_new (o := .lst []) hg0 _ _ h2
    have k3 : upd H1 g0 (.lst []) g0 = some (.lst (([] : List (List Nat)).map tV)) := upd_same
    generalize upd H1 g0 (.lst []) = H2 at e2 k1 k2 k3 ⊢
    refine ⟨_, rfl, ll, rfl, ⟨_, sqL k2⟩, ?_⟩
    refine for_it walk_list (fun j σ' H' => Same H2 H' ∧ ∃ (gl : Addr) (lg : List (List Nat)) (z6 z7 : Option V), σ' = [some (nv k), some (nv n), some (.ref fl), some (.ref ll), some x, some (.ref gl), z6, z7] ∧ H' gl = some (.lst (lg.map tV)) ∧ (∀ u ∈ lg, (∀ p ∈ u, p < k) ∧ u.length = i + 1) ∧ lg.length ≤ 2 * j) ⟨Same.refl _, g0, [], _, _, rfl, k3, by simp, by simp⟩ (fun j σ' H' _ p => sqL (p.1 _ _ k2)) ?_ ?_
    · rintro j y σ' _ H3 hj ⟨e3, gl, lg, y6, y7, rfl, g1, g2, g3⟩ ⟨rfl, hy⟩
      rw [List.length_map] at hj
      rw [List.getElem?_map] at hy
      obtain ⟨hd, hhd, rfl⟩ := Option.map_eq_some_iff.mp hy
      obtain ⟨hd1, hd2⟩ := hls hd (List.mem_of_getElem? hhd)
      refine ⟨_, rfl, _, rfl, (k : Int), rfl, _, rfl, Evl.sz_of (show 8 ≤ 100000 by decide), _, rfl, fun D hD => ?_⟩
      rw [sign_txt k (by omega)]
      refine lc_rel grow_same walk_str (by rw [txt_size, List.length_range]; omega) hD trivial (fun _ x _ => ∃ u : List Nat, x = tV u ∧ ((∀ p ∈ u, p < k) ∧ u.length = i + 1)) (fun _ _ _ _ _ h => h) (fun _ _ _ _ h _ => h) (fun _ _ => trivial) ?_ ?_
      · rintro i2 x2 _ H4 _ e4 ⟨rfl, c, hc, rfl⟩ Kt hK
        obtain ⟨p, hp, rfl⟩ := txt_at hc
        have hpk := List.mem_range.mp (List.mem_of_getElem? hp)
        refine ⟨rfl, _, rfl, _, rfl, _, _, rfl, rfl, Evl.sz_of (by rw [txt_len]; show hd.length + 1 ≤ 100000; omega), ?_⟩
        rw [txt_one, txt_cat]
        refine hK _ _ (Same.refl _) ⟨hd ++ [p], rfl, fun y hy => ?_, by simp [hd2]⟩
        rcases List.mem_append.mp hy with hy | hy
        · exact hd1 y hy
        · simp at hy
          omega
      · intro xs H4 e4 hx4 hlen4 hall4
        obtain ⟨l2, hl2, hp2'⟩ := pick_all (f := tV) hall4
        have hl2n : l2.length ≤ 2 := by
          have h9 := congrArg List.length hl2
          rw [List.length_map, hlen4, txt_size, List.length_range] at h9
          omega
        refine ⟨gl, D, _, _, rfl, rfl, e4 _ _ g1, hx4, Evl.sz_of (by rw [hl2, List.length_map, List.length_map]; omega), fun t ht => ?_⟩
        refine ⟨e3.trans (e4.trans (same_new ht)), t, lg ++ l2, _, _, rfl, by rw [upd_same, hl2, List.map_append], fun u hu => ?_, by rw [List.length_append]; omega⟩
        rcases List.mem_append.mp hu with hu | hu
        · exact g2 u hu
        · exact hp2' u hu
    · rintro σ' H3 ⟨e3, gl, lg, y6, y7, rfl, g1, g2, g3⟩
      rw [List.length_map] at g3
      refine ⟨_, rfl, _, rfl, fl, gl, _, _, rfl, rfl, e3 _ _ k1, g1, Evl.sz_of (by rw [List.length_map, List.length_map, List.length_cons]; omega), fun t ht => ⟨_, rfl, _, _, rfl, ?_⟩⟩
      refine ⟨e2.trans (e3.trans (same_new ht)), t, gl, ws ++ lg, lg, _, _, _, _, rfl, by rw [upd_same, ← List.map_append]; rfl, same_new ht _ _ g1, fun u hu => ?_, g2, by omega, by rw [List.length_append]; omega⟩
      rcases List.mem_append.mp hu with hu | hu
      · obtain ⟨p1, p2, p3⟩ := hws u hu
        exact ⟨p1, p2, by omega⟩
      · obtain ⟨p1, p2⟩ := g2 u hu
        exact ⟨fun e => by rw [e] at p2; simp at p2, p1, by omega⟩
  · rintro σ' H1 ⟨e1, fl, ll, ws, ls, z4, z5, z6, z7, rfl, h1, h2, hws, hls, hn1, hn2⟩
    rw [hkn] at hws hn2
    have hp2 : 2 ^ (n + 1) ≤ 2 ^ 5 := Nat.pow_le_pow_right (by decide) (by omega)
    exact ⟨_, rfl, q _ fl ws e1 h1 hws (by omega)⟩
def sp_L_goes (K : PySem.W.Frag) : Sp := fun vs H Q _ => ∃ (v : V) (s : Option Nat) (u : List Nat) (k : Nat) (A : RR.Arr), vs = [v, onv s, .str (txt u)] ∧ ArrAt H v A ∧ RR.ArrOk k A ∧ (∀ p ∈ u, p < k) ∧ k ≤ 8 ∧ u.length ≤ 10000 ∧ (∀ q, s = some q → q < A.length) ∧ ∀ H' l, Same H H' → H' l = some (.lst ((RR.goes A s u).map onv)) → Q (.ref l) H'
theorem ok_L_goes (G : Gs K mg) : Fn P w K mg base 1 d_L_goes p_L_goes (sp_L_goes K) := by
  refine fn_mk G 45 rfl sc_L_goes (fun vs H Q E h => by obtain ⟨_, _, _, _, _, rfl, _⟩ := h; rfl) (fun _ _ _ _ _ _ us hl => match us, hl with | [_, _, _], _ => rfl) (fun cdv A outer s H vs Q E hr h => ?_)
  have hu1 := hu_of hr
  have hu64 := hr.units
  have hrN := roomN.of hr
  refine both (pss_cons (ps_set (i := 3) sc_L_goes.nd rfl (by first | exact .inl rfl | exact .inr rfl | exact .inr (.inl rfl) | exact .inr (.inr rfl)) (pe_lst pa_nil))
      (pss_cons (ps_for PassesOwn.never rfl (pi_str (pv 2)) (pg_name sc_L_goes.nd (i := 4) rfl (by first | exact .inl rfl | exact .inr rfl | exact .inr (.inl rfl) | exact .inr (.inr rfl))) (pss_cons (ps_set (i := 1) sc_L_goes.nd rfl (by first | exact .inl rfl | exact .inr rfl | exact .inr (.inl rfl) | exact .inr (.inr rfl)) (pe_ifExp (pt_cmp (pc_isN (pv 1))) pe_non (pe_ix (ix_tupK rfl) (pe_ix (ix_tupK rfl) (pv 0) (pv 1) (fun _ _ => rfl)) (pe_m1 PySem.F.slot_str_index PySem.F.type_str_index mt_sindex pe_str (pv 4)) (fun _ _ => rfl))))
      (pss_one (ps_expr (pe_bmK rfl PySem.F.plainAttrs_list PySem.F.slot_list_append PySem.F.type_list_append mt_append (pv 3) (pa_cons (pv 1) pa_nil))))))
      (pss_one (ps_ret (pv 3))))) ?_
  obtain ⟨v, s0, u, k, B, rfl, ⟨a, rs, rfl, ha, hl, hz⟩, ok, hu, hk, hul, hs, q⟩ := h
  refine ⟨Evl.sz_of (show 0 ≤ 100000 by decide), fun fl hfl => ⟨_, rfl, txt u, rfl, ?_⟩⟩
  have hfl0 : H fl = none := hfl
  refine for_it walk_str (fun i σ' H' => Same H H' ∧ ∃ z, σ' = [some (.ref a), some (onv (RR.run B s0 (u.take i))), some (.str (txt u)), some (.ref fl), z] ∧ H' fl = some (.lst ((RR.goes B s0 (u.take i)).map onv))) ⟨same_new hfl, none, rfl, upd_same⟩ (fun _ _ _ _ _ => trivial) ?_ ?_
  · rintro i x σ' _ H2 hi ⟨e2, z, rfl, h2⟩ ⟨rfl, c, hc, rfl⟩
    obtain ⟨p, hp, rfl⟩ := txt_at hc
    have hpk := hu p (List.mem_of_getElem? hp)
    have hgo : RR.goes B s0 (u.take (i + 1)) = RR.goes B s0 (u.take i) ++ [RR.step B (RR.run B s0 (u.take i)) p] := by
      rw [take_next hp, RR.goes_append]
      rfl
    have hgl : (RR.goes B s0 (u.take i)).length ≤ 10000 := by rw [RR.goes_length, List.length_take]; omega
    have sm : ((RR.goes B s0 (u.take i)).map onv).length < sizeLine := small (by rw [List.length_map]; omega)
    have hru := run_take (A := B) (s := s0) hp
    refine ⟨_, rfl, _, rfl, ?_⟩
    cases e : RR.run B s0 (u.take i) with
    | none =>
      rw [e] at hgo hru
      refine iteT ⟨_, rfl, .inl ⟨rfl, _, sqL h2⟩, _, rfl, fl, _, _, rfl, rfl, h2, sm, same_mut e2 hfl0, some (.str ⟨#[97 + p]⟩), ?_, ?_⟩
      · rw [hru]; rfl
      · rw [upd_same, hgo, List.map_append]; rfl
    | some r =>
      rw [e] at hgo hru
      have hr := RR.run_lt ok (u.take i) s0 hs r e
      obtain ⟨b, row, h1, _, h3, _, h5⟩ := cell hl hz ok hr hpk
      refine iteF ⟨_, rfl, _, rfl, a, rs, _, _, rfl, rfl, sqT (e2 _ _ ha), atE rfl h1, ⟨_, rfl⟩, _, rfl, _, _, p, [], rfl, rfl, sign_ix p (by omega), b, _, _, _, rfl, rfl, sqT (e2 _ _ h3), atE rfl h5, _, rfl, .inl ⟨rfl, _, sqL h2⟩, _, rfl, fl, _, _, rfl, rfl, h2, sm, same_mut e2 hfl0, some (.str ⟨#[97 + p]⟩), ?_, ?_⟩
      · rw [hru]; rfl
      · rw [upd_same, hgo, List.map_append]; rfl
  · rintro σ' H2 ⟨e2, z, rfl, h2⟩
    rw [txt_size, List.take_length] at h2
    exact ⟨_, rfl, q _ fl e2 h2⟩
def sp_L_watched (K : PySem.W.Frag) : Sp := fun vs H Q _ => ∃ (p : Addr) (vA vM : V) (hd v : List Nat) (k : Nat) (A : RR.Arr) (M : List Nat), vs = [.ref p, .str (txt hd), .str (txt v)] ∧ H p = some (.tup [vA, vM]) ∧ ArrAt H vA A ∧ NatsAt H vM M ∧ RR.ArrOk k A ∧ (∀ x ∈ hd, x < k) ∧ (∀ x ∈ v, x < k) ∧ k ≤ 8 ∧ hd.length ≤ 200 ∧ v.length ≤ 100 ∧ A.length ≤ 10 ∧
  ∀ H', Same H H' → Q (.bl (RR.lawWatched A M (RR.run A (some 0) hd) v)) H'
theorem ok_L_watched (G : Gs K mg) (h_L_goes : Fn P w K mg base 1 d_L_goes p_L_goes (sp_L_goes K)) : Fn P w K mg base 2 d_L_watched p_L_watched (sp_L_watched K) := by
  refine fn_mk G 46 rfl sc_L_watched (fun vs H Q E h => by obtain ⟨_, _, _, _, _, _, _, _, rfl, _⟩ := h; rfl) (fun _ _ _ _ _ _ us hl => match us, hl with | [_, _, _], _ => rfl) (fun cdv A outer s H vs Q E hr h => ?_)
  have hu1 := hu_of hr
  have hu64 := hr.units
  have hrN := roomN.of hr
  refine both (pss_cons (ps_asg (pv 0) (pg_tupK (n := 2) rfl rfl (pgs_cons (pg_name sc_L_watched.nd (i := 3) rfl (by first | exact .inl rfl | exact .inr rfl | exact .inr (.inl rfl) | exact .inr (.inr rfl))) (pgs_cons (pg_name sc_L_watched.nd (i := 4) rfl (by first | exact .inl rfl | exact .inr rfl | exact .inr (.inl rfl) | exact .inr (.inr rfl))) pgs_nil))))
      (pss_cons (ps_set (i := 5) sc_L_watched.nd rfl (by first | exact .inl rfl | exact .inr rfl | exact .inr (.inl rfl) | exact .inr (.inr rfl)) (pe_op op_cat (pe_lst (pa_cons pe_int pa_nil)) (pe_fn h_L_goes (hr.mono (by decide)) rfl (G.g (x := "_law_goes")) (pa_cons (pv 3) (pa_cons pe_int (pa_cons (pv 1) pa_nil))))))
      (pss_cons (ps_set (i := 6) sc_L_watched.nd rfl (by first | exact .inl rfl | exact .inr rfl | exact .inr (.inl rfl) | exact .inr (.inr rfl)) (pe_op op_cat (pe_lst (pa_cons (pe_ix (ix_listK rfl) (pv 5) (pe_un un_neg pe_int) (fun _ _ => rfl)) pa_nil)) (pe_fn h_L_goes (hr.mono (by decide)) rfl (G.g (x := "_law_goes")) (pa_cons (pv 3) (pa_cons (pe_ix (ix_listK rfl) (pv 5) (pe_un un_neg pe_int) (fun _ _ => rfl)) (pa_cons (pe_op op_mulS (pv 2) (pe_callB (call_lenK rfl) rfl (G.f (x := "len")) bo_len (pa_cons (pv 3) pa_nil))) pa_nil))))))
      (pss_cons (ps_set (i := 7) sc_L_watched.nd rfl (by first | exact .inl rfl | exact .inr rfl | exact .inr (.inl rfl) | exact .inr (.inr rfl)) (pe_fn h_L_goes (hr.mono (by decide)) rfl (G.g (x := "_law_goes")) (pa_cons (pv 3) (pa_cons (pe_ix (ix_listK rfl) (pv 6) (pe_un un_neg pe_int) (fun _ _ => rfl)) (pa_cons (pe_op op_mulS (pv 2) (pe_callB (call_lenK rfl) rfl (G.f (x := "len")) bo_len (pa_cons (pv 3) pa_nil))) pa_nil)))))
      (pss_one (ps_ret (pe_and (pe_cmp (pc_notN (pe_ix (ix_listK rfl) (pv 6) (pe_un un_neg pe_int) (fun _ _ => rfl)))) (pe_and (pe_cmpR (op_notInK rfl) pe_non (pv 7) rfl) (pe_one (pe_cmpR (op_neDK hu64 rfl) (pe_lc rfl sc_L_watched.nd (pi_listK rfl (pv 7)) (blkOk_by (own := [("_law_stand", 8)]) (by first | (show blkC n_L_watched (defScope s_L_watched) _ _ = true; decide +kernel) | rfl)) (fun _ _ _ _ _ => (pg_name sc_L_watched.nd (i := 8) rfl (by first | exact .inl rfl | exact .inr rfl | exact .inr (.inl rfl) | exact .inr (.inr rfl)))) (fun _ _ _ _ _ => (pts_one (pt_cmpR (op_inK rfl) (pv 8) (pv 4) rfl))) (fun _ _ _ _ _ => (pv 8))) (pe_lst pa_nil) (nomark _))))))))))) ?_
  obtain ⟨p, vA, vM, hd, v, k, B, M, rfl, hp, hA, hM, ok, hhd, hv, hk, hd2, hv2, h10, q⟩ := h
  have z0 : ∀ q, (some 0 : Option Nat) = some q → q < B.length := fun q e => by cases e; exact ok.pos
  have hs1 := RR.run_lt ok hd (some 0) z0
  obtain ⟨s, hs⟩ : ∃ s, s = RR.run B (some 0) hd := ⟨_, rfl⟩
  rw [← hs] at q hs1
  have hrl : (RR.rpt B.length v).length ≤ 1000 := by
    rw [RR.rpt_length]
    have := Nat.mul_le_mul h10 hv2
    omega
  have hrv : ∀ x ∈ RR.rpt B.length v, x < k := by
    rw [rpt_flat]
    intro x hx
    obtain ⟨l, hl, hx2⟩ := List.mem_flatten.mp hx
    rw [List.eq_of_mem_replicate hl] at hx2
    exact hv x hx2
  obtain ⟨r, hr⟩ : ∃ r, r = RR.rpt B.length v := ⟨_, rfl⟩
  have hmul := mul_txt v B.length
  rw [← hr] at hrl hrv hmul
  have hs2 := RR.run_lt ok r s hs1
  refine ⟨_, rfl, p, _, rfl, sqT hp, rfl, _, _, rfl, _, _, rfl, rfl, ?_⟩
  refine ⟨Evl.sz_of (show 1 ≤ 100000 by decide), fun l0 hl0 => ⟨_, rfl, _, rfl, vA, some 0, hd, k, B, rfl, hA.mono (same_tups (same_new hl0)), ok, hhd, hk, by omega, z0, fun H1 l1 e1 h1 => ?_⟩⟩
  have w0 : H1 l0 = some (.lst [.int 0]) := e1 _ _ upd_same
  have e1' := (same_new (o := .lst [.int 0]) hl0).trans e1
  refine ⟨l0, l1, _, _, rfl, rfl, w0, h1, Evl.sz_of (by rw [List.length_map, RR.goes_length]; show 1 + hd.length ≤ 100000; omega), fun wy hwy => ?_⟩
  have way : upd H1 wy (.lst ([V.int 0] ++ (RR.goes B (some 0) hd).map onv)) wy = some (.lst ((some 0 :: RR.goes B (some 0) hd).map onv)) := upd_same
  have lastW : atI ((some 0 :: RR.goes B (some 0) hd).map onv) (-1) = some (onv s) := by
    rw [at_last (by simp), RR.goes_last, hs]
  have e2 := e1'.trans (same_new (o := .lst ([V.int 0] ++ (RR.goes B (some 0) hd).map onv)) hwy)
  generalize upd H1 wy (.lst ([V.int 0] ++ (RR.goes B (some 0) hd).map onv)) = H2 at way e2 ⊢
  obtain ⟨a, rs, rfl, ha, hal, haz⟩ := id hA
  refine ⟨_, rfl, 1, rfl, wy, _, _, _, rfl, rfl, sqL way, lastW, Evl.sz_of (show 1 ≤ 100000 by decide), fun l2 hl2 => ?_⟩
  have e3 := e2.trans (same_new (o := .lst [onv s]) hl2)
  have f2 : upd H2 l2 (.lst [onv s]) l2 = some (.lst [onv s]) := upd_same
  have way3 := same_new (o := .lst [onv s]) hl2 _ _ way
  generalize upd H2 l2 (.lst [onv s]) = H3 at e3 f2 way3 ⊢
  refine ⟨_, rfl, _, rfl, 1, rfl, wy, _, _, _, rfl, rfl, sqL way3, lastW, _, rfl, _, rfl, a, rs, rfl, .inr (sqT (e3 _ _ ha)), txt v, rs.length, rfl, rfl, by omega, by omega, by rw [txt_len]; omega, ?_⟩
  rw [hal, hmul]
  refine ⟨.ref a, s, r, k, B, rfl, hA.mono (same_tups e3), ok, hrv, hk, by omega, hs1, fun H4 l3 e4 h4 => ?_⟩
  have e4' := e3.trans e4
  refine ⟨l2, l3, _, _, rfl, rfl, e4 _ _ f2, h4, Evl.sz_of (by rw [List.length_map, RR.goes_length]; show 1 + r.length ≤ 100000; omega), fun fr hfr => ?_⟩
  have far : upd H4 fr (.lst ([onv s] ++ (RR.goes B s r).map onv)) fr = some (.lst ((s :: RR.goes B s r).map onv)) := upd_same
  have lastF : atI ((s :: RR.goes B s r).map onv) (-1) = some (onv (RR.run B s r)) := by
    rw [at_last (by simp), RR.goes_last]
  have e5 := e4'.trans (same_new (o := .lst ([onv s] ++ (RR.goes B s r).map onv)) hfr)
  generalize upd H4 fr (.lst ([onv s] ++ (RR.goes B s r).map onv)) = H5 at far e5 ⊢
  refine ⟨_, rfl, _, rfl, 1, rfl, fr, _, _, _, rfl, rfl, sqL far, lastF, _, rfl, _, rfl, a, rs, rfl, .inr (sqT (e5 _ _ ha)), txt v, rs.length, rfl, rfl, by omega, by omega, by rw [txt_len]; omega, ?_⟩
  rw [hal, hmul]
  obtain ⟨r1, hr1⟩ : ∃ r1, r1 = RR.run B s r := ⟨_, rfl⟩
  rw [← hr1] at lastF hs2
  rw [← hr1]
  refine ⟨.ref a, r1, r, k, B, rfl, hA.mono (same_tups e5), ok, hrv, hk, by omega, hs2, fun H6 ag e6 h6 => ?_⟩
  have e6' := e5.trans e6
  have far6 := e6 _ _ far
  have hlw : RR.lawWatched B M s v = (r1.isSome && (!decide (none ∈ RR.goes B r1 r)) && (RR.goes B r1 r).any (RR.isEnd M)) := by
    unfold RR.lawWatched
    rw [← hr, ← hr1]
  have gl : (RR.goes B r1 r).length ≤ 1000 := by rw [RR.goes_length]; omega
  refine ⟨_, rfl, 1, rfl, fr, _, _, _, rfl, rfl, sqL far6, lastF, ?_⟩
  cases hr1c : r1 with
  | none =>
    rw [hlw, hr1c] at q
    exact ⟨false, rfl, iteF (q _ e6')⟩
  | some x1 =>
    refine ⟨true, rfl, iteT ⟨_, rfl, ag, _, rfl, .inl (sqL h6), rfl, flat_ons _, _, rfl, ?_⟩⟩
    rw [if_pos rfl, in_none]
    by_cases hnone : none ∈ RR.goes B r1 r
    · rw [decide_eq_true hnone]
      rw [hlw, decide_eq_true hnone] at q
      have : (r1.isSome && !true && (RR.goes B r1 r).any (RR.isEnd M)) = false := by simp
      rw [this] at q
      exact iteF (q _ e6')
    · rw [decide_eq_false hnone]
      obtain ⟨m1, rfl, hm1⟩ := id hM
      refine iteT ⟨_, rfl, ag, rfl, ⟨_, sqL h6⟩, fun D hD => ?_⟩
      refine lc_fil grow_same walk_list (Rb := fun i b => ∀ o, (RR.goes B r1 r)[i]? = some o → b = RR.isEnd M o) (f := fun i => onv ((RR.goes B r1 r).getD i none)) (by rw [List.length_map]; omega) hD trivial (fun H e => sqL (e _ _ h6)) ?_ (fun x σ H A B h k => h _ _ k) ?_
      · rintro i x _ H7 hi e7 ⟨rfl, hx⟩
        rw [List.getElem?_map] at hx
        obtain ⟨o, ho, rfl⟩ := Option.map_eq_some_iff.mp hx
        refine ⟨rfl, fun Kb hKb => ⟨_, rfl, _, rfl, m1, _, rfl, .inr (sqT (e7 _ _ (e6' _ _ hm1))), flat_on o, flat_nats M, _, rfl, ?_⟩⟩
        rw [if_neg (by decide), in_nats]
        refine hKb _ _ (Same.refl _) (fun o2 h2 => by rw [ho] at h2; cases h2; rfl) fun _ Kx hKx => ⟨_, rfl, ?_⟩
        have h9 := hKx H7 (Same.refl _)
        rw [List.getD_eq_getElem?_getD, ho] at h9
        exact h9
      · intro pf H7 e7 hpf hD7
        rw [List.length_map] at hpf hD7
        refine ⟨Evl.sz_of (show 0 ≤ 100000 by decide), fun l9 hl9 => ?_⟩
        obtain ⟨lf, hlf⟩ : ∃ lf, lf = (List.range (RR.goes B r1 r).length).filter pf := ⟨_, rfl⟩
        rw [← hlf] at hD7
        have hmap : (lf.map fun i => onv ((RR.goes B r1 r).getD i none)) = (lf.map fun i => (RR.goes B r1 r).getD i none).map onv := by rw [List.map_map]; rfl
        rw [hmap] at hD7
        refine ⟨.list ((lf.map fun i => (RR.goes B r1 r).getD i none).map onD), .list [], .lst (sqL (same_new hl9 _ _ hD7)) (dp_map onv onD dp_on _), .lst (sqL upd_same) .nil, ?_, rfl, ?_⟩
        · unfold SeqAt.shaped
          have h1 : (PyData.list ((lf.map fun i => (RR.goes B r1 r).getD i none).map onD)).canLay0 = true := lay_map onD onD_lay _
          have h2 : (PyData.list ((lf.map fun i => (RR.goes B r1 r).getD i none).map onD)).depth ≤ 64 := by
            have := dep_map onD 0 onD_dep (lf.map fun i => (RR.goes B r1 r).getD i none)
            show PyData.depthAll _ + 1 ≤ 64
            omega
          rw [h1, decide_eq_true h2]
          rfl
        · have hany : (!PyData.eqv (.list ((lf.map fun i => (RR.goes B r1 r).getD i none).map onD)) (.list [])) = (RR.goes B r1 r).any (RR.isEnd M) := by
            have h1 : PyData.eqv (.list ((lf.map fun i => (RR.goes B r1 r).getD i none).map onD)) (.list []) = decide (lf = []) := by
              show PyData.eqvAll _ [] = _
              cases lf with
              | nil => rfl
              | cons x l => simp [PyData.eqvAll]
            rw [h1, Bool.eq_iff_iff, List.any_eq_true]
            constructor
            · intro h
              have hne : lf ≠ [] := by simpa using h
              obtain ⟨i, hi⟩ := List.exists_mem_of_ne_nil lf hne
              rw [hlf] at hi
              have hi2 := List.mem_filter.mp hi
              have hi3 := List.mem_range.mp hi2.1
              refine ⟨(RR.goes B r1 r)[i], List.getElem_mem hi3, ?_⟩
              rw [← hpf i hi3 _ (List.getElem?_eq_getElem hi3)]
              exact hi2.2
            · rintro ⟨o, ho, hoe⟩
              obtain ⟨i, hi⟩ := List.mem_iff_getElem?.mp ho
              have hil := (List.getElem?_eq_some_iff.mp hi).1
              have : i ∈ lf := by
                rw [hlf]
                exact List.mem_filter.mpr ⟨List.mem_range.mpr hil, by rw [hpf i hil o hi]; exact hoe⟩
              have hne : lf ≠ [] := fun e => by rw [e] at this; cases this
              simp [hne]
          dsimp only
          rw [hany]
          rw [hlw, hr1c, decide_eq_false (by rw [← hr1c]; exact hnone)] at q
          rw [hr1c]
          exact q _ (e6'.trans (e7.trans (same_new hl9)))
end
end RK
/-! W17: one start is right. -/
namespace RK
open PySem PySem.Spec PyProof.Rows L2
section
variable {P : Program} {w : World} {K : PySem.W.Frag} {mg : Str → Option Value} {base : Heap}
theorem fn_mkG (G : Gs K mg) (i : Nat) {d : DefA} {N ps : List Str} {k : Nat} {sp : Sp} (hi : fnL[i]? = some d) (S : FnScope N ps (defScope d.st)) (count : ∀ vs H Q E, sp vs H Q E → vs.length = ps.length)
    (hb : ∀ (kV doc pm : Value) (an : Option Addr) (cdv ct : Value) (us : List Value), us.length = ps.length → bindArgs (PySem.W.fnOf d.name d.qual (defArgs d.st) (defBody d.st) (defScope d.st) .none kV doc pm an cdv ct) ⟨us, []⟩ = pure (ps.zip us))
    (walk : ∀ (cdv : Value) (A : Around) (out : List Env) (s : Shared) (H : Hp) (vs : List V) (Q : VK) (E : XK), Room k (bodyA A d K s cdv) → (bodyA A d K s cdv).guards = some [] → sp vs H Q E →
      ∃ t, PSs (cxOf CX0 P w K mg base N d.qual (defScope d.st) (d.addr K) cdv A out s H E) (defBody d.st) t ∧ t { nx := fun _ H' => Q .non H', rt := Q } (L2.start N vs) H) : FnG P w K mg base (k + 1) d ps sp := by
  obtain ⟨fd, F⟩ := G.says.def_ i hi
  exact ⟨fd, ⟨fun {vs H Q E} => count vs H Q E, fun {A} room quiet => KeptAt.body F S (fun {vs H Q E} => count vs H Q E) room fun cdv out s H vs Q E room1 want => walk cdv A out s H vs Q E room1 quiet want⟩, F.bindsN hb, F⟩
end
theorem op_neRd {X : Cx} (F : Fn X.prog X.w X.K X.mg X.base 1 d_Reader_eq p_Reader_eq (sp_Reader_eq X.K)) (hr : Room 2 X.A) (G : Gs X.K X.mg) : OpR X (compareOp .NotEq) (rNeOwn (CR_ X.K) (sp_Reader_eq X.K) E0) := by
  obtain ⟨fd, F, b, fp⟩ := F.ex
  exact op_neOwn F hr G.rc.ne (isi_obj G.rc.isi) G.eq.at_ G.eq.fn b pass0
theorem op_neRdK {X : Cx} {K : PySem.W.Frag} (e : X.K = K) (F : Fn X.prog X.w X.K X.mg X.base 1 d_Reader_eq p_Reader_eq (sp_Reader_eq X.K)) (hr : Room 2 X.A) (G : Gs X.K X.mg) : OpR X (compareOp .NotEq) (rNeOwn (CR_ K) (sp_Reader_eq K) E0) := by
  subst e
  exact op_neRd F hr G
theorem ne_rd {K : PySem.W.Frag} {v u : V} {H : Hp} {k k' : Nat} {A A' : RR.Arr} {E E' : List Nat} {Q : VK} (h1 : InsAt (CR_ K) H v k A E) (h2 : InsAt (CR_ K) H u k' A' E') (q : Q (.bl (!decide (k = k' ∧ A = A' ∧ E = E'))) H) : rNeOwn (CR_ K) (sp_Reader_eq K) E0 v u H Q := by
  obtain ⟨a, dx, t, x, y, rfl, ha, r1⟩ := id h1
  obtain ⟨b, dx2, t2, x2, y2, rfl, hb, r2⟩ := id h2
  exact ⟨a, b, dx, dx2, _, _, rfl, rfl, ha, hb, .ref a, .ref b, k, k', A, A', E, E', rfl, h1, h2, _, rfl, q⟩
theorem ne_rdF {K : PySem.W.Frag} {v u : V} {H : Hp} {k : Nat} {A : RR.Arr} {E : List Nat} {Q : VK} (h1 : InsAt (CR_ K) H v k A E) (h2 : InsAt (CR_ K) H u k A E) (q : Q (.bl false) H) : rNeOwn (CR_ K) (sp_Reader_eq K) E0 v u H Q :=
  ne_rd h1 h2 (by rw [decide_eq_true ⟨rfl, rfl, rfl⟩]; exact q)
theorem seq_if {c : TT} {t rest : TS} {D : Ends} {σ : L2.St} {H : Hp} (h1 : (∀ H7, Same H H7 → rest D σ H7) → tSeq (tIfS c t tNext) rest D σ H) (h2 : ∀ H7, Same H H7 → rest D σ H7) : tSeq (tIfS c t tNext) rest D σ H := h1 h2
theorem asc_nodup {l : List Nat} (h : l.Pairwise (· < ·)) : l.Nodup := h.imp fun h => Nat.ne_of_lt h
theorem RR.loopsL_nil (A : RR.Arr) (M : List Nat) (s : Option Nat) : RR.loopsL A M s [] = false := by simp [RR.loopsL]
/-- how keywords alone bind to a def without defaults -/
theorem kb_of {K : PySem.W.Frag} {d : DefA} {fd : FuncData} {ps ks : List Str} {g : List Value → List Value} {gV : List V → List V} (F : FnP K d.name d.qual d.st (d.addr K) fd)
    (bind : ∀ (kV doc pm : Value) (an : Option Addr) (cdv ct : Value) (ws : List Value), ws.length = ks.length → bindArgs (PySem.W.fnOf d.name d.qual (defArgs d.st) (defBody d.st) (defScope d.st) .none kV doc pm an cdv ct) ⟨[], ks.zip ws⟩ = pure (ps.zip (g ws)))
    (rel : ∀ {zs : List V} {ws : List Value}, Vals zs ws → Vals (gV zs) (g ws)) : KB0 K fd ps ks g gV := by
  obtain ⟨_, _, _, kV, doc, pm, an, cdv, ct, _, rfl, _, _, defaults, _⟩ := F.ex
  obtain ⟨_, rfl⟩ := defaults.resolve_right fun z => z.1 rfl
  exact ⟨fun s ws _ len => .of_eq (bind kV doc pm an cdv ct ws len), rel⟩
section
variable {X : Cx} {p pos : Pos} {e1 e2 : Expr} {k1 k2 : Pos} {te tf : TE} {k : Nat} {sp : Sp}
def swap2 {α : Type} : List α → List α
  | [a, b] => [b, a]
  | l => l
theorem vals_swap2 : ∀ {zs : List V} {ws : List Value}, Vals zs ws → Vals (swap2 zs) (swap2 ws)
  | [], _, .nil => .nil
  | [_], _, .cons r .nil => .cons r .nil
  | [_, _], _, .cons r (.cons r2 .nil) => .cons r2 (.cons r .nil)
  | _ :: _ :: _ :: _, _, .cons r (.cons r2 (.cons r3 rest)) => .cons r (.cons r2 (.cons r3 rest))
theorem pe_kw2 (F : Fn X.prog X.w X.K X.mg X.base k d_loops_behind p_loops_behind sp) (hr : Room k X.A) (hg : Gl X "loops_behind") (hm : X.mg "loops_behind" = some (.ref (d_loops_behind.addr X.K))) (h1 : PE X e1 te) (h2 : PE X e2 tf)
    (len : ∀ σ H Q, tCons te (tCons tf tNil) σ H Q → tCons te (tCons tf tNil) σ H fun zs H' => zs.length = (["start", "watcher"] : List Str).length ∧ Q zs H')
    (pl : KwOnly X "loops_behind" [⟨some "start", e1, k1⟩, ⟨some "watcher", e2, k2⟩] ["start", "watcher"] pos := by exact ⟨by decide, by rfl, by rfl, by rfl⟩) : PE X (.Call (.Name "loops_behind" p) [] [⟨some "start", e1, k1⟩, ⟨some "watcher", e2, k2⟩] pos) (tCallK0 sp swap2 E0 (tCons te (tCons tf tNil))) := by
  obtain ⟨fd, F, _, fp⟩ := F.ex
  exact pe_callK0 F hr hg hm fp.kp (kb_of (g := swap2) fp (fun _ _ _ _ _ _ ws len => match ws, len with | [_, _], _ => rfl) vals_swap2) pass0 (pk_cons h1 (pk_cons h2 pk_nil)) pl len
theorem pe_kw1 (F : Fn X.prog X.w X.K X.mg X.base k d_watcher_of p_watcher_of sp) (hr : Room k X.A) (hg : Gl X "watcher_of") (hm : X.mg "watcher_of" = some (.ref (d_watcher_of.addr X.K))) (h1 : PE X e1 te)
    (len : ∀ σ H Q, tCons te tNil σ H Q → tCons te tNil σ H fun zs H' => zs.length = (["reader"] : List Str).length ∧ Q zs H') (pl : KwOnly X "watcher_of" [⟨some "reader", e1, k1⟩] ["reader"] pos := by exact ⟨by decide, by rfl, by rfl, by rfl⟩) :
    PE X (.Call (.Name "watcher_of" p) [] [⟨some "reader", e1, k1⟩] pos) (tCallK0 sp id E0 (tCons te tNil)) := by
  obtain ⟨fd, F, _, fp⟩ := F.ex
  exact pe_callK0 F hr hg hm fp.kp (kb_of (g := id) fp (fun _ _ _ _ _ _ ws len => match ws, len with | [_], _ => rfl) fun r => r) pass0 (pk_cons h1 pk_nil) pl len
end
section
variable {P : Program} {w : World} {K : PySem.W.Frag} {mg : Str → Option Value} {base : Heap}
def sp_L_start_right (K : PySem.W.Frag) : Sp := fun vs H Q _ => ∃ (vm : V) (pl : Addr) (vA vM : V) (hd : List Nat) (k : Nat) (A : RR.Arr) (M : List Nat), vs = [vm, .ref pl, nv k, .str (txt hd)] ∧ InsAt (CW_ K) H vm k A M ∧ H pl = some (.tup [vA, vM]) ∧ ArrAt H vA A ∧ NatsAt H vM M ∧ RR.ArrOk k A ∧ (∀ x ∈ hd, x < k) ∧ (1 ≤ k ∧ k ≤ 2) ∧ hd.length ≤ 200 ∧ A.length ≤ 3 ∧ RR.FewDeeds k A M ∧ ∀ H', Same H H' → Q (.bl true) H'
theorem ok_L_start_right (G : Gs K mg) (h_loops_behind : Fn P w K mg base 7 d_loops_behind p_loops_behind (sp_loops_behind K)) (h_says : Fn P w K mg base 4 d_says p_says (sp_says K)) (h_least : Fn P w K mg base 8 d_least p_least (sp_least K)) (h_no_rows : Fn P w K mg base 6 d_no_rows p_no_rows (sp_no_rows K)) (h_L_goes : Fn P w K mg base 1 d_L_goes p_L_goes (sp_L_goes K)) (h_L_rows : Fn P w K mg base 1 d_L_rows p_L_rows (sp_L_rows K)) (h_L_watched : Fn P w K mg base 2 d_L_watched p_L_watched (sp_L_watched K)) (h_Reader_eq : Fn P w K mg base 1 d_Reader_eq p_Reader_eq (sp_Reader_eq K)) : FnG P w K mg base 9 d_L_start_right p_L_start_right (sp_L_start_right K) := by
  refine fn_mkG G 47 rfl sc_L_start_right (fun vs H Q E h => by obtain ⟨_, _, _, _, _, _, _, _, rfl, _⟩ := h; rfl) (fun _ _ _ _ _ _ us hl => match us, hl with | [_, _, _, _], _ => rfl) (fun cdv A outer s H vs Q E hr hgd h => ?_)
  have hu1 := hu_of hr
  have hu64 := hr.units
  have hrN := roomN.of hr
  have hu8 : (bodyA A d_L_start_right K s cdv).units + 8 < cLine := by have := hr.units; omega
  refine both (pss_cons (ps_set (i := 4) sc_L_start_right.nd rfl (by first | exact .inl rfl | exact .inr rfl | exact .inr (.inl rfl) | exact .inr (.inr rfl)) (pe_fn h_loops_behind (hr.mono (by decide)) rfl (G.g (x := "loops_behind")) (pa_cons (pv 0) (pa_cons (pv 3) pa_nil))))
      (pss_cons (ps_if (PW.pt (pw_or (pt_cmpR (op_neRdK rfl h_Reader_eq (hr.mono (by decide)) G) (pv 4) (pe_kw2 h_loops_behind (hr.mono (by decide)) rfl (G.g (x := "loops_behind")) (pv 3) (pv 0) (fun σ H Q ⟨v, h1, u, h2, q⟩ => ⟨v, h1, u, h2, rfl, q⟩)) (nomark _)) (pw_or (pt_cmpR (op_neRdK rfl h_Reader_eq (hr.mono (by decide)) G) (pe_fn h_least (hr.mono (by decide)) rfl (G.g (x := "least")) (pa_cons (pv 4) pa_nil)) (pv 4) (nomark _)) (pw_or1 (pt_val (pe_fn h_says (hr.mono (by decide)) rfl (G.g (x := "says")) (pa_cons (pv 4) (pa_cons pe_str pa_nil)))))))) (pss_one (ps_ret pe_bl)) pss_nil)
      (pss_cons (ps_if (PW.pt (pw_and (pt_cmp (pc_isN (pe_ix (ix_listK rfl) (pe_op op_cat (pe_lst (pa_cons pe_int pa_nil)) (pe_fn h_L_goes (hr.mono (by decide)) rfl (G.g (x := "_law_goes")) (pa_cons (pe_ix (ix_tupK rfl) (pv 1) pe_int (fun _ _ => rfl)) (pa_cons pe_int (pa_cons (pv 3) pa_nil))))) (pe_un un_neg pe_int) (fun _ _ => rfl)))) (pw_and1 (pt_cmpR (op_neRdK rfl h_Reader_eq (hr.mono (by decide)) G) (pv 4) (pe_fn h_no_rows (hr.mono (by decide)) rfl (G.g (x := "no_rows")) (pa_cons (pv 2) pa_nil)) (nomark _))))) (pss_one (ps_ret pe_bl)) pss_nil)
      (pss_cons (ps_for PassesOwn.never rfl (pi_listK rfl (pe_slice (sl_listK rfl) (pe_fn h_L_rows (hr.mono (by decide)) rfl (G.g (x := "_law_rows")) (pa_cons (pv 2) (pa_cons pe_int pa_nil))) (po_some pe_int) po_none)) (pg_name sc_L_start_right.nd (i := 5) rfl (by first | exact .inl rfl | exact .inr rfl | exact .inr (.inl rfl) | exact .inr (.inr rfl))) (pss_cons (ps_set (i := 6) sc_L_start_right.nd rfl (by first | exact .inl rfl | exact .inr rfl | exact .inr (.inl rfl) | exact .inr (.inr rfl)) (pe_fn h_L_watched (hr.mono (by decide)) rfl (G.g (x := "_law_watched")) (pa_cons (pv 1) (pa_cons (pv 3) (pa_cons (pv 5) pa_nil)))))
      (pss_one (ps_if (pt_cmpR op_ne (pe_callB (call_reprBs hgd hu8) rfl (G.f (x := "repr")) bo_repr (pa_cons (pe_lst (pa_cons (pe_fn h_says (hr.mono (by decide)) rfl (G.g (x := "says")) (pa_cons (pv 4) (pa_cons (pv 5) pa_nil))) (pa_cons (pe_fn h_says (hr.mono (by decide)) rfl (G.g (x := "says")) (pa_cons (pv 4) (pa_cons (pe_op op_mulS (pv 5) pe_int) pa_nil))) pa_nil))) pa_nil)) (pe_callB (call_reprBs hgd hu8) rfl (G.f (x := "repr")) bo_repr (pa_cons (pe_lst (pa_cons (pv 6) (pa_cons (pv 6) pa_nil))) pa_nil)) (nomark _)) (pss_one (ps_ret pe_bl)) pss_nil))))
      (pss_one (ps_ret pe_bl)))))) ?_
  obtain ⟨vm, pl, vA, vM, hd, k, B, M, rfl, hvm, hpl, hA, hM, ok, hhd, hk, hd2, h3, few, q⟩ := h
  have z0 : ∀ q, (some 0 : Option Nat) = some q → q < B.length := fun q e => by cases e; exact ok.pos
  have hsr := RR.run_lt ok hd (some 0) z0
  obtain ⟨s, hs⟩ : ∃ s, s = RR.run B (some 0) hd := ⟨_, rfl⟩
  obtain ⟨T, hT⟩ : ∃ T, T = RR.leastL k (RR.loopsL B M s) := ⟨_, rfl⟩
  have hk8 : 1 ≤ k ∧ k ≤ 8 := ⟨hk.1, by omega⟩
  refine ⟨_, rfl, _, rfl, vm, hd, k, B, M, rfl, hvm, ok, hhd, hd2, hk8, by omega, few, fun H1 told e1 i1 tab => ?_⟩
  obtain ⟨T0, F0, ok0, l0, lg0⟩ := tab
  rw [← hs] at i1 lg0 hsr
  rw [← hT] at i1
  have LT : RR.Least k 59 (RR.loopsL B M s) T.1 T.2 := by
    have := RR.least_arr (n := 59) ok0 F0 (by omega) (by omega)
    rw [lg0, ← hT] at this
    exact this
  have hL : RR.lang T.1 T.2 (some 0) = RR.loopsL B M s := LT.lg
  have hT60 := LT.few
  refine ⟨_, rfl, _, rfl, _, rfl, vm, hd, k, B, M, rfl, hvm.mono e1, ok, hhd, hd2, hk8, by omega, few, fun H2 told2 e2 i2 _ => ?_⟩
  rw [← hs, ← hT] at i2
  refine ne_rdF (i1.mono e2) i2 ⟨_, rfl, iteF ?_⟩
  have e2' := e1.trans e2
  refine ⟨_, rfl, told, k, T.1, T.2, rfl, i1.mono e2, LT.ok, hk8, by omega, asc_nodup LT.asc, LT.lt, fun H3 r e3 i3 => ⟨_, rfl, ?_⟩⟩
  rw [hL, ← hT] at i3
  refine ne_rdF i3 ((i1.mono e2).mono e3) ⟨_, rfl, iteF ?_⟩
  refine ⟨_, rfl, told, [], k, T.1, T.2, rfl, (i1.mono e2).mono e3, LT.ok, by simp, hk8.2, by simp, fun H4 e4 => ⟨_, rfl, ?_⟩⟩
  rw [hL, RR.loopsL_nil]
  refine iteF ?_
  have e4' : Same H H4 := (e2'.trans e3).trans e4
  have i4 := ((i1.mono e2).mono e3).mono e4
  dsimp only [tNext]
  refine seq_if (fun key => ?_) ?_
  · refine ⟨Evl.sz_of (show 1 ≤ 100000 by decide), fun l0 hl0 => ⟨_, rfl, pl, _, _, _, rfl, rfl, sqT ((same_new hl0) _ _ (e4' _ _ hpl)), atE (j := 0) rfl rfl, _, rfl, vA, some 0, hd, k, B, rfl, hA.mono (same_tups (e4'.trans (same_new hl0))), ok, hhd, hk8.2, by omega, z0, fun H5 l1 e5 h5 => ?_⟩⟩
    have w0 : H5 l0 = some (.lst [.int 0]) := e5 _ _ upd_same
    refine ⟨l0, l1, _, _, rfl, rfl, w0, h5, Evl.sz_of (by rw [List.length_map, RR.goes_length]; show 1 + hd.length ≤ 100000; omega), fun wy hwy => ?_⟩
    have way : upd H5 wy (.lst ([V.int 0] ++ (RR.goes B (some 0) hd).map onv)) wy = some (.lst ((some 0 :: RR.goes B (some 0) hd).map onv)) := upd_same
    have lastW : atI ((some 0 :: RR.goes B (some 0) hd).map onv) (-1) = some (onv s) := by
      rw [at_last (by simp), RR.goes_last, hs]
    have e6 := ((same_new (o := .lst [.int 0]) hl0).trans e5).trans (same_new (o := .lst ([V.int 0] ++ (RR.goes B (some 0) hd).map onv)) hwy)
    generalize upd H5 wy (.lst ([V.int 0] ++ (RR.goes B (some 0) hd).map onv)) = H6 at way e6 ⊢
    have i6 := i4.mono e6
    have e6' := e4'.trans e6
    refine ⟨1, rfl, wy, _, _, _, rfl, rfl, sqL way, lastW, ?_⟩
    by_cases hsn : s = none
    · have hd1 : decide (onv s = V.non) = true := by rw [hsn]; rfl
      refine ⟨true, by rw [hd1], iteT ⟨_, rfl, _, rfl, k, rfl, hk8, fun H7 r7 e7 i7 => ?_⟩⟩
      have hTe : T = ([List.replicate k none], []) := by rw [hT, hsn, RR.loopsL_none, RR.least_emp]
      have i6b := i6.mono e7
      rw [hTe] at i6b
      exact ne_rdF i6b i7 ⟨_, rfl, iteF (key _ (e6.trans e7))⟩
    · have hd1 : decide (onv s = V.non) = false := by
        cases s with
        | none => exact absurd rfl hsn
        | some x => rfl
      exact ⟨false, by rw [hd1], iteF (iteF (key _ e6))⟩
  intro H7 e7
  refine ⟨_, rfl, k, 4, rfl, hk.2, by omega, fun H8 rl ws e8 h8 hws hwl => ⟨1, rfl, rl, _, rfl, sqL h8, fun p hp => ⟨p, rfl, ⟨_, sqL upd_same⟩, ?_⟩⟩⟩
  have hcut : cutV (([] :: ws).map tV) (some (1 : Int)) none = ws.map tV := cut_from (j := 1) (by simp)
  have h9 : upd H8 p (.lst (cutV (([] :: ws).map tV) (some (1 : Int)) none)) p = some (.lst (ws.map tV)) := by rw [upd_same, hcut]
  have e9 := ((e4'.trans e7).trans e8).trans (same_new (o := .lst (cutV (([] :: ws).map tV) (some (1 : Int)) none)) hp)
  have i9 := ((i4.mono e7).mono e8).mono (same_new (o := .lst (cutV (([] :: ws).map tV) (some (1 : Int)) none)) hp)
  generalize upd H8 p (.lst (cutV (([] :: ws).map tV) (some (1 : Int)) none)) = H9 at h9 e9 i9 ⊢
  refine for_it walk_list (fun i σ' H' => Same H9 H' ∧ ∃ z5 z6 : Option V, σ' = [some vm, some (.ref pl), some (nv k), some (.str (txt hd)), some told, z5, z6]) ⟨Same.refl _, _, _, rfl⟩ (fun j σ' H' _ p => sqL (p.1 _ _ h9)) ?_ ?_
  · rintro i x σ' _ H10 hi ⟨e10, z5, z6, rfl⟩ ⟨rfl, hx⟩
    rw [List.getElem?_map] at hx
    obtain ⟨v, hv, rfl⟩ := Option.map_eq_some_iff.mp hx
    obtain ⟨v1, v2, v3⟩ := hws v (List.mem_of_getElem? hv)
    have f10 := e9.trans e10
    have hr2 : RR.rpt 2 v = v ++ v := by simp [RR.rpt]
    have hw1 : RR.lang T.1 T.2 (some 0) v = RR.lawWatched B M s v := by
      rw [hL, Bool.eq_iff_iff, RR.lawWatched_acc ok v1 hsr]
      unfold RR.loopsL
      simp [v1]
    have hw2 : RR.lang T.1 T.2 (some 0) (v ++ v) = RR.lawWatched B M s v := by
      rw [hL, Bool.eq_iff_iff, RR.lawWatched_acc ok v1 hsr, ← RR.acc_two ok v1 hsr]
      unfold RR.loopsL
      simp [v1]
    have hmul : mulS (txt v) (2 : Int) = txt (v ++ v) := by rw [← hr2]; exact mul_txt v 2
    refine ⟨_, rfl, _, rfl, _, rfl, pl, vA, vM, hd, v, k, B, M, rfl, f10 _ _ hpl, hA.mono (same_tups f10), hM.mono (same_tups f10), ok, hhd, v2, hk8.2, hd2, by omega, by omega, fun H11 e11 => ?_⟩
    rw [← hs]
    have i11 := (i9.mono e10).mono e11
    refine ⟨_, rfl, _, rfl, told, v, k, T.1, T.2, rfl, i11, LT.ok, v2, hk8.2, by omega, fun H12 e12 => ?_⟩
    refine ⟨_, rfl, _, rfl, txt v, 2, rfl, rfl, by omega, by omega, by rw [txt_len]; omega, ?_⟩
    rw [hmul]
    refine ⟨told, v ++ v, k, T.1, T.2, rfl, i11.mono e12, LT.ok, fun x hx => (List.mem_append.mp hx).elim (v2 x) (v2 x), hk8.2, by rw [List.length_append]; omega, fun H13 e13 => ?_⟩
    rw [hw1, hw2]
    refine ⟨Evl.sz_of (show 2 ≤ 100000 by decide), fun t1 ht1 => ⟨t1, _, _, rfl, sqL upd_same, ?_⟩⟩
    refine ⟨_, rfl, _, rfl, Evl.sz_of (show 2 ≤ 100000 by decide), fun t2 ht2 => ⟨t2, _, _, rfl, sqL upd_same, rfl, ?_⟩⟩
    refine ⟨false, by simp, iteF ⟨(((e10.trans e11).trans (e12.trans e13)).trans (same_new ht1)).trans (same_new ht2), _, _, rfl⟩⟩
  · rintro σ' H10 ⟨e10, z5, z6, rfl⟩
    exact q _ (e9.trans e10)
end
end RK
/-! W18: one reader is right. -/
namespace RR
theorem acc_cuts {k : Nat} {A : Arr} (ok : ArrOk k A) (M : List Nat) {x v : List Nat} (hv : v ≠ []) (hs : ∀ q, run A (some 0) x = some q → q < A.length) :
    (∃ c, x.length + v.length * A.length < c ∧ c ≤ (x ++ rpt (2 * A.length) v).length ∧ lang A M (some 0) ((x ++ rpt (2 * A.length) v).take c) = true) ↔ Acc A M (run A (some 0) x) v := by
  rw [acc_window ok hv hs, met_iff]
  have e : x ++ rpt (2 * A.length) v = (x ++ rpt A.length v) ++ rpt A.length v := by rw [Nat.two_mul, rpt_add, List.append_assoc]
  have hl : (x ++ rpt A.length v).length = x.length + v.length * A.length := by rw [List.length_append, rpt_length, Nat.mul_comm]
  rw [e]
  have ht : ∀ j, lang A M (some 0) (((x ++ rpt A.length v) ++ rpt A.length v).take ((x.length + v.length * A.length) + j)) = isEnd M (run A (run A (run A (some 0) x) (rpt A.length v)) ((rpt A.length v).take j)) := by
    intro j
    rw [← hl, List.take_length_add_append]
    unfold lang
    rw [run_append, run_append]
  constructor
  · rintro ⟨c, h1, h2, h3⟩
    obtain ⟨j, rfl⟩ : ∃ j, c = (x.length + v.length * A.length) + j := ⟨c - (x.length + v.length * A.length), by omega⟩
    rw [ht] at h3
    rw [List.length_append, hl] at h2
    exact ⟨j, by omega, by omega, h3⟩
  · rintro ⟨j, h1, h2, h3⟩
    refine ⟨(x.length + v.length * A.length) + j, by omega, by rw [List.length_append, hl]; omega, ?_⟩
    rw [ht]
    exact h3
theorem acc_lang {A B : Arr} {M N : List Nat} (h : lang A M (some 0) = lang B N (some 0)) (u v : List Nat) (ha : Acc A M (run A (some 0) u) v) : Acc B N (run B (some 0) u) v := by
  intro n
  obtain ⟨i, hi, hm⟩ := ha n
  refine ⟨i, hi, ?_⟩
  dsimp only at hm ⊢
  rw [← run_rpt, ← run_append, met_iff] at hm
  rw [← run_rpt, ← run_append, met_iff]
  obtain ⟨j, h1, h2, h3⟩ := hm
  refine ⟨j, h1, h2, ?_⟩
  rw [← run_append] at h3 ⊢
  have := congrFun h (u ++ rpt i v ++ v.take j)
  unfold lang at this
  rw [← this]
  exact h3
theorem apart_lang {A B : Arr} {M N : List Nat} (h : lang A M (some 0) = lang B N (some 0)) (u v : List Nat) : ¬ ApartSome A M B N u v ∧ ¬ ApartSome B N A M u v :=
  ⟨fun ⟨_, h1, h2⟩ => h2 (acc_lang h u v h1), fun ⟨_, h1, h2⟩ => h2 (acc_lang h.symm u v h1)⟩
end RR
namespace RK
open PySem PySem.Spec PyProof.Rows L2
theorem cut_to {u : List Nat} {c : Nat} (h : c ≤ u.length) : cutS (txt u) none (some ((c : Nat) : Int)) = txt (u.take c) := by
  unfold cutS
  rw [HT.sIx_nat, HT.sIx_none, txt_len, Nat.min_eq_left h]
  simp [txt, List.map_take]
theorem tups_v {H H' : Hp} {v : Addr} (hv : VialAt H v) (e : SameV v H H') : Tups H H' := fun a xs h => e a _ (fun z => by obtain ⟨a2, b, c, h1, _⟩ := hv; rw [z, h1] at h; cases h) h
section
variable {P : Program} {w : World} {K : PySem.W.Frag} {mg : Str → Option Value} {base : Heap}
def sp_L_reader_right (K : PySem.W.Frag) : Sp := fun vs H Q _ => ∃ (v : Addr), vs = [.ref v] ∧ VialAt H v ∧ ∀ H', SameV v H H' → Q (.bl true) H'
theorem ok_L_reader_right (G : Gs K mg) (h_L_drip : Fn P w K mg base 1 d_L_drip p_L_drip (sp_L_drip K)) (h_Reader_init : Fn P w K mg base 4 d_Reader_init p_Reader_init (sp_Reader_init K)) (h_L_lot : Fn P w K mg base 2 d_L_lot p_L_lot (sp_L_lot K)) (h_L_arrows : Fn P w K mg base 3 d_L_arrows p_L_arrows (sp_L_arrows K)) (h_watcher_of : Fn P w K mg base 7 d_watcher_of p_watcher_of (sp_watcher_of K)) (h_L_rows : Fn P w K mg base 1 d_L_rows p_L_rows (sp_L_rows K)) (h_says : Fn P w K mg base 4 d_says p_says (sp_says K)) (h_watches : Fn P w K mg base 5 d_watches p_watches (sp_watches K)) (h_same_loops : Fn P w K mg base 6 d_same_loops p_same_loops (sp_same_loops K)) (h_least : Fn P w K mg base 8 d_least p_least (sp_least K)) : FnG P w K mg base 9 d_L_reader_right p_L_reader_right (sp_L_reader_right K) := by
  refine fn_mkG G 48 rfl sc_L_reader_right (fun vs H Q E h => by obtain ⟨_, rfl, _⟩ := h; rfl) (fun _ _ _ _ _ _ us hl => match us, hl with | [_], _ => rfl) (fun cdv A outer s H vs Q E hr hgd h => ?_)
  have hu1 := hu_of hr
  have hu64 := hr.units
  have hrN := roomN.of hr
  refine both (pss_cons (ps_set (i := 1) sc_L_reader_right.nd rfl (by first | exact .inl rfl | exact .inr rfl | exact .inr (.inl rfl) | exact .inr (.inr rfl)) (pe_op op_add pe_int (pe_fn h_L_drip (hr.mono (by decide)) rfl (G.g (x := "_law_drip")) (pa_cons (pv 0) (pa_cons pe_int pa_nil)))))
      (pss_cons (ps_set (i := 2) sc_L_reader_right.nd rfl (by first | exact .inl rfl | exact .inr rfl | exact .inr (.inl rfl) | exact .inr (.inr rfl)) (pe_mk (d := d_Reader_init) G.rc.mkr h_Reader_init (hr.mono (by decide)) rfl (G.g (x := "Reader")) (pa_cons pe_int (pa_cons (pe_fn h_L_arrows (hr.mono (by decide)) rfl (G.g (x := "_law_arrows")) (pa_cons (pv 0) (pa_cons pe_int (pa_cons (pv 1) pa_nil)))) (pa_cons (pe_fn h_L_lot (hr.mono (by decide)) rfl (G.g (x := "_law_lot")) (pa_cons (pv 0) (pa_cons (pv 1) pa_nil))) pa_nil)))))
      (pss_cons (ps_set (i := 3) sc_L_reader_right.nd rfl (by first | exact .inl rfl | exact .inr rfl | exact .inr (.inl rfl) | exact .inr (.inr rfl)) (pe_fn h_watcher_of (hr.mono (by decide)) rfl (G.g (x := "watcher_of")) (pa_cons (pv 2) pa_nil)))
      (pss_cons (ps_for PassesOwn.never rfl (pi_listK rfl (pe_fn h_L_rows (hr.mono (by decide)) rfl (G.g (x := "_law_rows")) (pa_cons pe_int (pa_cons pe_int pa_nil)))) (pg_name sc_L_reader_right.nd (i := 4) rfl (by first | exact .inl rfl | exact .inr rfl | exact .inr (.inl rfl) | exact .inr (.inr rfl))) (pss_one (ps_for PassesOwn.never rfl (pi_listK rfl (pe_slice (sl_listK rfl) (pe_fn h_L_rows (hr.mono (by decide)) rfl (G.g (x := "_law_rows")) (pa_cons pe_int (pa_cons pe_int pa_nil))) (po_some pe_int) po_none)) (pg_name sc_L_reader_right.nd (i := 5) rfl (by first | exact .inl rfl | exact .inr rfl | exact .inr (.inl rfl) | exact .inr (.inr rfl))) (pss_cons (ps_set (i := 6) sc_L_reader_right.nd rfl (by first | exact .inl rfl | exact .inr rfl | exact .inr (.inl rfl) | exact .inr (.inr rfl)) (pe_op op_add_str (pv 4) (pe_op op_mulS (pv 5) (pe_op op_mul pe_int (pv 1)))))
      (pss_cons (ps_set (i := 7) sc_L_reader_right.nd rfl (by first | exact .inl rfl | exact .inr rfl | exact .inr (.inl rfl) | exact .inr (.inr rfl)) (pe_op op_add (pe_callB call_len rfl (G.f (x := "len")) bo_len (pa_cons (pv 4) pa_nil)) (pe_op op_mul (pe_callB call_len rfl (G.f (x := "len")) bo_len (pa_cons (pv 5) pa_nil)) (pv 1))))
      (pss_cons (ps_set (i := 8) sc_L_reader_right.nd rfl (by first | exact .inl rfl | exact .inr rfl | exact .inr (.inl rfl) | exact .inr (.inr rfl)) (pe_cmpR (op_neDK hu64 rfl) (pe_lc rfl sc_L_reader_right.nd (pi_range2 rfl (G.f (x := "range")) (pa_cons (pe_op op_add (pv 7) pe_int) (pa_cons (pe_op op_add (pe_callB call_len rfl (G.f (x := "len")) bo_len (pa_cons (pv 6) pa_nil)) pe_int) pa_nil))) (blkOk_by (own := [("_law_cut", 9)]) (by first | (show blkC n_L_reader_right (defScope s_L_reader_right) _ _ = true; decide +kernel) | rfl)) (fun _ _ _ _ _ => (pg_name sc_L_reader_right.nd (i := 9) rfl (by first | exact .inl rfl | exact .inr rfl | exact .inr (.inl rfl) | exact .inr (.inr rfl)))) (fun _ _ _ _ _ => (pts_one (pt_val (pe_fn h_says (hr.mono (by decide)) rfl (G.g (x := "says")) (pa_cons (pv 2) (pa_cons (pe_slice sl_str (pv 6) po_none (po_some (pv 9))) pa_nil)))))) (fun _ _ _ _ _ => (pv 9))) (pe_lst pa_nil) (nomark _)))
      (pss_one (ps_if (pt_cmpR op_ne (pe_callB call_reprB rfl (G.f (x := "repr")) bo_repr (pa_cons (pe_fn h_watches (hr.mono (by decide)) rfl (G.g (x := "watches")) (pa_cons (pv 3) (pa_cons (pv 4) (pa_cons (pv 5) pa_nil)))) pa_nil)) (pe_callB call_reprB rfl (G.f (x := "repr")) bo_repr (pa_cons (pv 8) pa_nil)) (nomark _)) (pss_one (ps_ret pe_bl)) pss_nil))))))))
      (pss_one (ps_ret (pe_fn h_same_loops (hr.mono (by decide)) rfl (G.g (x := "same_loops")) (pa_cons (pv 3) (pa_cons (pe_kw1 h_watcher_of (hr.mono (by decide)) rfl (G.g (x := "watcher_of")) (pe_fn h_least (hr.mono (by decide)) rfl (G.g (x := "least")) (pa_cons (pv 2) pa_nil)) (fun σ H Q ⟨v, h, v2, k, A, E, e1, e2, e3, e4, e5, e6, e7, q⟩ => ⟨v, h, v2, k, A, E, e1, e2, e3, e4, e5, e6, e7, fun H2 r s i => ⟨rfl, q H2 r s i⟩⟩)) pa_nil))))))))) ?_
  obtain ⟨v, rfl, hv, q⟩ := h
  refine ⟨_, rfl, v, 3, rfl, hv, by omega, by omega, fun H1 r e1 hv1 hr3 => ⟨1, (r : Int), rfl, rfl, ?_⟩⟩
  obtain ⟨n, hn⟩ : ∃ n, n = 1 + r := ⟨_, rfl⟩
  have hnv : V.int ((1 : Int) + (r : Int)) = nv n := by
    show V.int _ = V.int _
    rw [hn]
    push_cast
    rfl
  dsimp only
  rw [hnv]
  refine ⟨_, rfl, _, rfl, v, 2, n, rfl, hv1, by omega, by omega, by omega, fun H2 rA B e2 hv2 hA ok hBn => ⟨_, rfl, _, rfl, v, n, rfl, hv2, by omega, fun H3 rE E' e3 hv3 hE asc lt hEl => ?_⟩⟩
  have hA3 : ArrAt H3 rA B := hA.mono (tups_v hv2 e3)
  intro x dx hx hdx hne
  have sB := new_ins (C := CR_ K) hx hdx
  refine ⟨x, dx, rA, rE, 2, B, E', rfl, upd_same, hA3.mono (same_tups sB), hE.mono (same_tups sB), by omega, ok, by omega, asc, fun e he => by rw [hBn]; exact lt e he, by omega, fun H4 t e4 h1 h2 => ⟨rfl, ?_⟩⟩
  obtain ⟨s1, i4⟩ := made_at hx hdx hA3 hE e4 h1 h2
  have z0 : ∀ q, (some 0 : Option Nat) = some q → q < B.length := fun q e => by cases e; exact ok.pos
  refine ⟨_, rfl, .ref x, 2, B, E', rfl, i4, by omega, by omega, fun H5 wv e5 i5 => ?_⟩
  refine ⟨2, 1, rfl, by omega, by omega, fun H6 l ws e6 h6 hws hwl => ⟨l, rfl, ⟨_, sqL h6⟩, ?_⟩⟩
  refine for_it walk_list (fun i σ' H' => Same H6 H' ∧ ∃ z4 z5 z6 z7 z8 z9 : Option V, σ' = [some (.ref v), some (nv n), some (.ref x), some wv, z4, z5, z6, z7, z8, z9]) ⟨Same.refl _, _, _, _, _, _, _, rfl⟩ (fun j σ' H' _ p => sqL (p.1 _ _ h6)) ?_ ?_
  · rintro i x1 σ' _ H7 hi ⟨e7, z4, z5, z6, z7, z8, z9, rfl⟩ ⟨rfl, hx1⟩
    rw [List.getElem?_map] at hx1
    obtain ⟨hd, hhd, rfl⟩ := Option.map_eq_some_iff.mp hx1
    have hd1 : (∀ p ∈ hd, p < 2) ∧ hd.length ≤ 1 := by
      rcases List.mem_cons.mp (List.mem_of_getElem? hhd) with rfl | hm
      · simp
      · exact (hws hd hm).2
    have hsr := RR.run_lt ok hd (some 0) z0
    refine ⟨2, 3, rfl, by omega, by omega, fun H8 rl us e8 h8 hus hul => ⟨1, rfl, rl, _, rfl, sqL h8, fun p hp => ⟨p, rfl, ⟨_, sqL upd_same⟩, ?_⟩⟩⟩
    have hcut : cutV (([] :: us).map tV) (some (1 : Int)) none = us.map tV := cut_from (j := 1) (by simp)
    have h9 : upd H8 p (.lst (cutV (([] :: us).map tV) (some (1 : Int)) none)) p = some (.lst (us.map tV)) := by rw [upd_same, hcut]
    have e9 := e8.trans (same_new (o := .lst (cutV (([] :: us).map tV) (some (1 : Int)) none)) hp)
    generalize upd H8 p (.lst (cutV (([] :: us).map tV) (some (1 : Int)) none)) = H9 at h9 e9 ⊢
    refine for_it walk_list (fun i σ' H' => Same H9 H' ∧ ∃ z5 z6 z7 z8 z9 : Option V, σ' = [some (.ref v), some (nv n), some (.ref x), some wv, some (tV hd), z5, z6, z7, z8, z9]) ⟨Same.refl _, _, _, _, _, _, rfl⟩ (fun j σ' H' _ p => sqL (p.1 _ _ h9)) ?_ ?_
    · rintro j x2 σ' _ H10 hj ⟨e10, y5, y6, y7, y8, y9, rfl⟩ ⟨rfl, hx2⟩
      rw [List.getElem?_map] at hx2
      obtain ⟨u, hu, rfl⟩ := Option.map_eq_some_iff.mp hx2
      obtain ⟨u1, u2, u3⟩ := hus u (List.mem_of_getElem? hu)
      have s10 : Same H4 H10 := (((e5.trans e6).trans e7).trans e9).trans e10
      have w10 : Same H5 H10 := ((e6.trans e7).trans e9).trans e10
      obtain ⟨wh, hwh⟩ : ∃ wh, wh = hd ++ RR.rpt (2 * n) u := ⟨_, rfl⟩
      obtain ⟨nr, hnr⟩ : ∃ nr, nr = hd.length + u.length * n := ⟨_, rfl⟩
      have hmm : (2 * n) * u.length ≤ 6 * 3 := Nat.mul_le_mul (by omega) u3
      have hm2 : (2 * n) * u.length = 2 * (u.length * n) := by rw [Nat.mul_assoc, Nat.mul_comm n]
      have hwl2 : wh.length = hd.length + 2 * (u.length * n) := by rw [hwh, List.length_append, RR.rpt_length, hm2]
      have hwl3 : wh.length ≤ 100 := by omega
      have hnw : nr ≤ wh.length := by omega
      have hwp : ∀ p ∈ wh, p < 2 := by
        intro p hp
        rw [hwh] at hp
        rcases List.mem_append.mp hp with h | h
        · exact hd1.1 p h
        · rw [rpt_flat] at h
          obtain ⟨l, hl, hx2⟩ := List.mem_flatten.mp h
          rw [List.eq_of_mem_replicate hl] at hx2
          exact u2 p hx2
      have hmul : mulS (txt u) ((2 : Int) * (n : Int)) = txt (RR.rpt (2 * n) u) := by
        rw [← mul_txt u (2 * n)]
        congr 1
      refine ⟨_, rfl, _, rfl, _, rfl, 2, (n : Int), rfl, rfl, .inl ⟨by decide, by decide⟩, txt u, (2 : Int) * (n : Int), rfl, rfl, by omega, by omega, by rw [txt_len]; omega, ?_⟩
      rw [hmul]
      refine ⟨txt hd, _, rfl, rfl, Evl.sz_of (by rw [txt_len, txt_len, RR.rpt_length]; omega), ?_⟩
      rw [txt_cat, ← hwh]
      refine ⟨_, rfl, .str (txt hd), hd.length, rfl, ⟨Evl.sz_of (by rw [txt_len]; omega), (txt_len hd).symm⟩, _, rfl, .str (txt u), u.length, rfl, ⟨Evl.sz_of (by rw [txt_len]; omega), (txt_len u).symm⟩, _, rfl, (u.length : Int), (n : Int), rfl, rfl, .inl ⟨by omega, by omega⟩, (hd.length : Int), _, rfl, rfl, ?_⟩
      have hnrv : V.int ((hd.length : Int) + (u.length : Int) * (n : Int)) = nv nr := by
        show V.int _ = V.int _
        rw [hnr]
        push_cast
        rfl
      dsimp only
      rw [hnrv]
      refine ⟨_, rfl, (nr : Int), 1, rfl, rfl, _, rfl, .str (txt wh), wh.length, rfl, ⟨Evl.sz_of (by rw [txt_len]; omega), (txt_len wh).symm⟩, (wh.length : Int), 1, rfl, rfl, _, _, rfl, ⟨by omega, by omega, by omega, by omega⟩, fun D hD => ?_⟩
      have hcnt : ((wh.length : Int) + 1 - ((nr : Int) + 1)).toNat = wh.length - nr := by omega
      refine lc_fil grow_same walk_range (Rb := fun i b => b = RR.lang B E' (some 0) (wh.take (nr + 1 + i))) (f := fun i => nv (nr + 1 + i)) (by omega) hD trivial (fun _ _ => trivial) ?_ (fun x σ H A B h k => h _ _ k) ?_
      · rintro i2 x3 _ H11 hi2 e11 ⟨rfl, hx3⟩
        obtain rfl : x3 = nv (nr + 1 + i2) := by
          rw [hx3]
          show V.int _ = V.int _
          push_cast
          rfl
        rw [hcnt] at hi2
        refine ⟨rfl, fun Kb hKb => ⟨_, rfl, _, rfl, _, rfl, ((nr + 1 + i2 : Nat) : Int), rfl, txt wh, rfl, Evl.sz_of (by rw [txt_len]; omega), ?_⟩⟩
        rw [cut_to (by omega)]
        refine ⟨.ref x, wh.take (nr + 1 + i2), 2, B, E', rfl, i4.mono (s10.trans e11), ok, fun p hp => hwp p (List.mem_of_mem_take hp), by omega, by rw [List.length_take]; omega, fun H12 e12 => ⟨_, rfl, hKb _ _ e12 rfl fun _ Kx hKx => ⟨_, rfl, hKx _ e12⟩⟩⟩
      · intro pf H11 e11 hpf hD11
        rw [hcnt] at hpf hD11
        refine ⟨Evl.sz_of (show 0 ≤ 100000 by decide), fun l9 hl9 => ?_⟩
        obtain ⟨lf, hlf⟩ : ∃ lf, lf = (List.range (wh.length - nr)).filter pf := ⟨_, rfl⟩
        rw [← hlf] at hD11
        have hmap : (lf.map fun i => nv (nr + 1 + i)) = (lf.map fun i => some (nr + 1 + i)).map onv := by rw [List.map_map]; rfl
        rw [hmap] at hD11
        refine ⟨.list ((lf.map fun i => some (nr + 1 + i)).map onD), .list [], .lst (sqL (same_new hl9 _ _ hD11)) (dp_map onv onD dp_on _), .lst (sqL upd_same) .nil, ?_, rfl, ?_⟩
        · unfold SeqAt.shaped
          have h1 : (PyData.list ((lf.map fun i => some (nr + 1 + i)).map onD)).canLay0 = true := lay_map onD onD_lay _
          have h2 : (PyData.list ((lf.map fun i => some (nr + 1 + i)).map onD)).depth ≤ 64 := by
            have := dep_map onD 0 onD_dep (lf.map fun i => some (nr + 1 + i))
            show PyData.depthAll _ + 1 ≤ 64
            omega
          rw [h1, decide_eq_true h2]
          rfl
        · obtain ⟨bd, hbd⟩ : ∃ bd, bd = (!PyData.eqv (.list ((lf.map fun i => some (nr + 1 + i)).map onD)) (.list [])) := ⟨_, rfl⟩
          rw [← hbd]
          have hacc : bd = true ↔ RR.Acc B E' (RR.run B (some 0) hd) u := by
            rw [← RR.acc_cuts ok E' u1 hsr, hBn, ← hwh, ← hnr]
            have h1 : bd = !decide (lf = []) := by
              rw [hbd]
              congr 1
              show PyData.eqvAll _ [] = _
              cases lf with
              | nil => rfl
              | cons x l => simp [PyData.eqvAll]
            rw [h1]
            constructor
            · intro h
              have hne : lf ≠ [] := by simpa using h
              obtain ⟨i, hi⟩ := List.exists_mem_of_ne_nil lf hne
              rw [hlf] at hi
              have hi2 := List.mem_filter.mp hi
              have hi3 := List.mem_range.mp hi2.1
              refine ⟨nr + 1 + i, by omega, by omega, ?_⟩
              rw [← hpf i hi3]
              exact hi2.2
            · rintro ⟨c, c1, c2, c3⟩
              have : (c - nr - 1) ∈ lf := by
                rw [hlf]
                refine List.mem_filter.mpr ⟨List.mem_range.mpr (by omega), ?_⟩
                rw [hpf _ (by omega), show nr + 1 + (c - nr - 1) = c by omega]
                exact c3
              have hne : lf ≠ [] := fun e => by rw [e] at this; cases this
              simp [hne]
          have s12 := (w10.trans e11).trans (same_new (o := .lst []) hl9)
          refine ⟨_, rfl, _, rfl, _, rfl, wv, hd, u, 2, B, E', rfl, i5.mono s12, ok, hd1.1, u2, by omega, u1, by omega, by omega, by omega, fun H13 b e13 hb => ?_⟩
          obtain rfl : b = bd := by rw [Bool.eq_iff_iff, hb, hacc]
          refine ⟨b, rfl, _, rfl, b, rfl, rfl, false, by simp, iteF ?_⟩
          exact ⟨((e10.trans e11).trans (same_new (o := .lst []) hl9)).trans e13, _, _, _, _, _, rfl⟩
    · rintro σ' H10 ⟨e10, y5, y6, y7, y8, y9, rfl⟩
      exact ⟨(e7.trans e9).trans e10, _, _, _, _, _, _, rfl⟩
  · rintro σ' H10 ⟨e10, y4, y5, y6, y7, y8, y9, rfl⟩
    have LT := RR.least_arr (n := 10) ok E' (by omega) (by omega)
    have s10 := e6.trans e10
    have hfew := LT.few
    refine ⟨_, rfl, _, rfl, .ref x, 2, B, E', rfl, i4.mono (e5.trans s10), ok, by omega, by omega, asc_nodup asc, fun e he => by rw [hBn]; exact lt e he, fun H13 r2 e13 i13 => ⟨r2, 2, _, _, rfl, i13, by omega, by omega, fun H14 w2 e14 i14 => ?_⟩⟩
    exact ⟨wv, w2, 2, B, _, E', _, rfl, i5.mono ((s10.trans e13).trans e14), i14, ok, LT.ok, by omega, by omega, hfew, fun u v => RR.apart_lang LT.lg.symm u v, fun H15 e15 => q _ ((grow_v v).trans ((grow_v v).trans ((grow_v v).trans e1 e2) e3) fun a o _ h => (((s1.trans e5).trans s10).trans ((e13.trans e14).trans e15)) a o h)⟩
end
end RK
/-! W19: one turn of the law is right. -/
namespace RR
theorem loops_same {A B : Arr} {M N : List Nat} (h1 : ApartNone A M B N) (h2 : ApartNone B N A M) (u : List Nat) : loopsL A M (run A (some 0) u) = loopsL B N (run B (some 0) u) := by
  funext v
  rw [Bool.eq_iff_iff]
  unfold loopsL
  simp only [decide_eq_true_iff]
  exact ⟨fun h => ⟨h.1, h1 u v h.1 h.2⟩, fun h => ⟨h.1, h2 u v h.1 h.2⟩⟩
theorem least_lg {k : Nat} {L : Lg} (h : ∃ T E, ArrOk k T ∧ T.length < 59 ∧ lang T E (some 0) = L) : lang (leastL k L).1 (leastL k L).2 (some 0) = L := by
  obtain ⟨T, E, ok, hl, rfl⟩ := h
  exact (least_arr (n := 60) ok E (by omega) (by omega)).lg
theorem apart_least {k : Nat} {A B : Arr} {M N : List Nat} {u v : List Nat} (h : ApartSome A M B N u v ∨ ApartSome B N A M u v) (t1 : ∃ T E, ArrOk k T ∧ T.length < 59 ∧ lang T E (some 0) = loopsL A M (run A (some 0) u)) (t2 : ∃ T E, ArrOk k T ∧ T.length < 59 ∧ lang T E (some 0) = loopsL B N (run B (some 0) u)) :
    leastL k (loopsL A M (run A (some 0) u)) ≠ leastL k (loopsL B N (run B (some 0) u)) := by
  intro e
  have h1 := least_lg t1
  rw [e, least_lg t2] at h1
  have h2 : (v ≠ [] ∧ Acc B N (run B (some 0) u) v) ↔ (v ≠ [] ∧ Acc A M (run A (some 0) u) v) := by
    have h3 := congrFun h1 v
    unfold loopsL at h3
    have h4 := decide_eq_decide.mp h3
    exact h4
  rcases h with ⟨hv, ha, hb⟩ | ⟨hv, ha, hb⟩
  · exact hb (h2.mpr ⟨hv, ha⟩).2
  · exact hb (h2.mp ⟨hv, ha⟩).2
end RR
namespace RK
open PySem PySem.Spec PyProof.Rows L2
theorem op_eqRdK {X : Cx} {K : PySem.W.Frag} (e : X.K = K) (F : Fn X.prog X.w X.K X.mg X.base 1 d_Reader_eq p_Reader_eq (sp_Reader_eq X.K)) (hr : Room 2 X.A) (G : Gs X.K X.mg) : OpR X (compareOp .Eq) (rEqOwn (CR_ K) (sp_Reader_eq K) E0) := by
  subst e
  obtain ⟨fd, F, b, fp⟩ := F.ex
  exact op_eqOwn F hr G.eq.at_ G.eq.fn b pass0
theorem eq_rd {K : PySem.W.Frag} {v u : V} {H : Hp} {k k' : Nat} {A A' : RR.Arr} {E E' : List Nat} {Q : VK} (h1 : InsAt (CR_ K) H v k A E) (h2 : InsAt (CR_ K) H u k' A' E') (q : Q (.bl (decide (k = k' ∧ A = A' ∧ E = E'))) H) : rEqOwn (CR_ K) (sp_Reader_eq K) E0 v u H Q := by
  obtain ⟨a, dx, t, x, y, rfl, ha, r1⟩ := id h1
  obtain ⟨b, dx2, t2, x2, y2, rfl, hb, r2⟩ := id h2
  exact ⟨a, b, dx, dx2, _, _, rfl, rfl, ha, hb, .ref a, .ref b, k, k', A, A', E, E', rfl, h1, h2, _, rfl, q⟩
theorem seq_asgR {te : TE} {g : TG} {rest : TS} {D : Ends} {σ : L2.St} {H : Hp} (R : V → Hp → Prop) (h1 : ∀ Q : VK, (∀ x H', R x H' → Q x H') → te σ H Q) (h2 : ∀ x H', R x H' → g x σ H' (rest D)) : tSeq (tAsg te g) rest D σ H := h1 _ h2
def PlanAt (H : Hp) (x : V) (k n : Nat) (A : RR.Arr) (M : List Nat) : Prop := ∃ (p : Addr) (vA vM : V), x = .ref p ∧ H p = some (.tup [vA, vM]) ∧ ArrAt H vA A ∧ NatsAt H vM M ∧ RR.ArrOk k A ∧ A.length = n ∧ M.Pairwise (· < ·) ∧ (∀ e ∈ M, e < n) ∧ M.length ≤ 10
theorem ab_txt : ∀ {k : Nat}, k ≤ 2 → cutS "ab" none (some (k : Int)) = txt (List.range k) := by
  intro k hk
  have key : ∀ k : Fin 3, cutS "ab" none (some ((k.val : Nat) : Int)) = txt (List.range k.val) := by decide +kernel
  exact key ⟨k, by omega⟩
theorem Tups.trans' {H1 H2 H3 : Hp} (a : Tups H1 H2) (b : Tups H2 H3) : Tups H1 H3 := fun x xs h => b _ _ (a _ _ h)
theorem ins_v {H H' : Hp} {v : Addr} (hv : VialAt H v) (e : SameV v H H') {C : Addr} {x : V} {k : Nat} {A : RR.Arr} {E : List Nat} (h : InsAt C H x k A E) : InsAt C H' x k A E := by
  obtain ⟨a, dx, t, vA, vE, rfl, h1, h2, h3, h4⟩ := h
  have tt := tups_v hv e
  exact ⟨a, dx, t, vA, vE, rfl, e _ _ (fun z => by obtain ⟨a2, b, c, g1, _⟩ := hv; rw [z, g1] at h1; cases h1) h1, tt _ _ h2, h3.mono tt, h4.mono tt⟩
section
variable {P : Program} {w : World} {K : PySem.W.Frag} {mg : Str → Option Value} {base : Heap}
def sp_L_right (K : PySem.W.Frag) : Sp := fun vs H Q _ => ∃ (v : Addr), vs = [.ref v] ∧ VialAt H v ∧ ∀ H', SameV v H H' → Q (.bl true) H'
theorem ok_L_right (G : Gs K mg) (h_L_draw : Fn P w K mg base 2 d_L_draw p_L_draw (sp_L_draw K)) (h_L_lot : Fn P w K mg base 2 d_L_lot p_L_lot (sp_L_lot K)) (h_L_arrows : Fn P w K mg base 3 d_L_arrows p_L_arrows (sp_L_arrows K)) (h_L_drip : Fn P w K mg base 1 d_L_drip p_L_drip (sp_L_drip K)) (h_Watcher_init : Fn P w K mg base 4 d_Watcher_init p_Watcher_init (sp_Watcher_init K)) (h_L_rows : Fn P w K mg base 1 d_L_rows p_L_rows (sp_L_rows K)) (h_L_start_right : FnG P w K mg base 9 d_L_start_right p_L_start_right (sp_L_start_right K)) (h_unlike_loop : Fn P w K mg base 6 d_unlike_loop p_unlike_loop (sp_unlike_loop K)) (h_loops_behind : Fn P w K mg base 7 d_loops_behind p_loops_behind (sp_loops_behind K)) (h_L_reader_right : FnG P w K mg base 9 d_L_reader_right p_L_reader_right (sp_L_reader_right K)) (h_Reader_eq : Fn P w K mg base 1 d_Reader_eq p_Reader_eq (sp_Reader_eq K)) : FnG P w K mg base 10 d_L_right p_L_right (sp_L_right K) := by
  refine fn_mkG G 49 rfl sc_L_right (fun vs H Q E h => by obtain ⟨_, rfl, _⟩ := h; rfl) (fun _ _ _ _ _ _ us hl => match us, hl with | [_], _ => rfl) (fun cdv A outer s H vs Q E hr hgd h => ?_)
  have hu1 := hu_of hr
  have hu64 := hr.units
  have hrN := roomN.of hr
  refine both (pss_cons (ps_asg (pe_fn h_L_draw (hr.mono (by decide)) rfl (G.g (x := "_law_draw")) (pa_cons (pv 0) (pa_cons (pe_lst (pa_cons (pe_tup (pa_cons pe_int (pa_cons pe_int pa_nil))) (pa_cons (pe_tup (pa_cons pe_int (pa_cons pe_int pa_nil))) (pa_cons (pe_tup (pa_cons pe_int (pa_cons pe_int pa_nil))) (pa_cons (pe_tup (pa_cons pe_int (pa_cons pe_int pa_nil))) pa_nil))))) pa_nil))) (pg_tupK (n := 2) rfl rfl (pgs_cons (pg_name sc_L_right.nd (i := 1) rfl (by first | exact .inl rfl | exact .inr rfl | exact .inr (.inl rfl) | exact .inr (.inr rfl))) (pgs_cons (pg_name sc_L_right.nd (i := 2) rfl (by first | exact .inl rfl | exact .inr rfl | exact .inr (.inl rfl) | exact .inr (.inr rfl))) pgs_nil))))
      (pss_cons (ps_set (i := 3) sc_L_right.nd rfl (by first | exact .inl rfl | exact .inr rfl | exact .inr (.inl rfl) | exact .inr (.inr rfl)) (pe_tup (pa_cons (pe_fn h_L_arrows (hr.mono (by decide)) rfl (G.g (x := "_law_arrows")) (pa_cons (pv 0) (pa_cons (pv 1) (pa_cons (pv 2) pa_nil)))) (pa_cons (pe_fn h_L_lot (hr.mono (by decide)) rfl (G.g (x := "_law_lot")) (pa_cons (pv 0) (pa_cons (pv 2) pa_nil))) pa_nil))))
      (pss_cons (ps_set (i := 4) sc_L_right.nd rfl (by first | exact .inl rfl | exact .inr rfl | exact .inr (.inl rfl) | exact .inr (.inr rfl)) (pe_ifExp (pt_cmpR op_eq (pe_fn h_L_drip (hr.mono (by decide)) rfl (G.g (x := "_law_drip")) (pa_cons (pv 0) (pa_cons pe_int pa_nil))) pe_int (nomark _)) (pe_tup (pa_cons (pe_ix (ix_tupK rfl) (pv 3) pe_int (fun _ _ => rfl)) (pa_cons (pe_fn h_L_lot (hr.mono (by decide)) rfl (G.g (x := "_law_lot")) (pa_cons (pv 0) (pa_cons (pv 2) pa_nil))) pa_nil))) (pe_tup (pa_cons (pe_fn h_L_arrows (hr.mono (by decide)) rfl (G.g (x := "_law_arrows")) (pa_cons (pv 0) (pa_cons (pv 1) (pa_cons (pv 2) pa_nil)))) (pa_cons (pe_ix (ix_tupK rfl) (pv 3) pe_int (fun _ _ => rfl)) pa_nil)))))
      (pss_cons (ps_asg (pe_tup (pa_cons (pe_mk (d := d_Watcher_init) G.wc.mkr h_Watcher_init (hr.mono (by decide)) rfl (G.g (x := "Watcher")) (pa_cons (pv 1) (pa_cons (pe_ix (ix_tupK rfl) (pv 3) pe_int (fun _ _ => rfl)) (pa_cons (pe_ix (ix_tupK rfl) (pv 3) pe_int (fun _ _ => rfl)) pa_nil)))) (pa_cons (pe_mk (d := d_Watcher_init) G.wc.mkr h_Watcher_init (hr.mono (by decide)) rfl (G.g (x := "Watcher")) (pa_cons (pv 1) (pa_cons (pe_ix (ix_tupK rfl) (pv 4) pe_int (fun _ _ => rfl)) (pa_cons (pe_ix (ix_tupK rfl) (pv 4) pe_int (fun _ _ => rfl)) pa_nil)))) pa_nil))) (pg_tupK (n := 2) rfl rfl (pgs_cons (pg_name sc_L_right.nd (i := 5) rfl (by first | exact .inl rfl | exact .inr rfl | exact .inr (.inl rfl) | exact .inr (.inr rfl))) (pgs_cons (pg_name sc_L_right.nd (i := 6) rfl (by first | exact .inl rfl | exact .inr rfl | exact .inr (.inl rfl) | exact .inr (.inr rfl))) pgs_nil))))
      (pss_cons (ps_set (i := 7) sc_L_right.nd rfl (by first | exact .inl rfl | exact .inr rfl | exact .inr (.inl rfl) | exact .inr (.inr rfl)) (pe_op op_cat (pe_fn h_L_rows (hr.mono (by decide)) rfl (G.g (x := "_law_rows")) (pa_cons (pv 1) (pa_cons pe_int pa_nil))) (pe_lst (pa_cons (pe_join pe_str (pe_lc rfl sc_L_right.nd (pi_range1 rfl (G.f (x := "range")) (pa_cons pe_int pa_nil)) (blkOk_by (own := [("_law_k", 8)]) (by first | (show blkC n_L_right (defScope s_L_right) _ _ = true; decide +kernel) | rfl)) (fun _ _ _ _ _ => (pg_name sc_L_right.nd (i := 8) rfl (by first | exact .inl rfl | exact .inr rfl | exact .inr (.inl rfl) | exact .inr (.inr rfl)))) (fun _ _ _ _ _ => pts_nil) (fun _ _ _ _ _ => (pe_fn h_L_draw (hr.mono (by decide)) rfl (G.g (x := "_law_draw")) (pa_cons (pv 0) (pa_cons (pe_callTy (call_listS rfl) rfl (G.f (x := "list")) bo_list (pa_cons (pe_slice sl_str pe_str po_none (po_some (pv 1))) pa_nil)) pa_nil)))))) pa_nil))))
      (pss_cons (ps_for PassesOwn.never rfl (pi_listK rfl (pv 7)) (pg_name sc_L_right.nd (i := 9) rfl (by first | exact .inl rfl | exact .inr rfl | exact .inr (.inl rfl) | exact .inr (.inr rfl))) (pss_one (ps_if (pt_not (pt_val (pe_fnG h_L_start_right (hr.mono (by decide)) hgd rfl (G.g (x := "_law_start_right")) (pa_cons (pv 5) (pa_cons (pv 3) (pa_cons (pv 1) (pa_cons (pv 9) pa_nil))))))) (pss_one (ps_ret pe_bl)) pss_nil)))
      (pss_cons (ps_set (i := 10) sc_L_right.nd rfl (by first | exact .inl rfl | exact .inr rfl | exact .inr (.inl rfl) | exact .inr (.inr rfl)) (pe_fn h_unlike_loop (hr.mono (by decide)) rfl (G.g (x := "unlike_loop")) (pa_cons (pv 5) (pa_cons (pv 6) pa_nil))))
      (pss_cons (ps_if (pt_cmp (pc_isN (pv 10))) (pss_one (ps_if (pt_cmpR (op_neDK hu64 rfl) (pe_lc rfl sc_L_right.nd (pi_listK rfl (pv 7)) (blkOk_by (own := [("_law_head", 9)]) (by first | (show blkC n_L_right (defScope s_L_right) _ _ = true; decide +kernel) | rfl)) (fun _ _ _ _ _ => (pg_name sc_L_right.nd (i := 9) rfl (by first | exact .inl rfl | exact .inr rfl | exact .inr (.inl rfl) | exact .inr (.inr rfl)))) (fun _ _ _ _ _ => (pts_one (pt_cmpR (op_neRdK rfl h_Reader_eq (hr.mono (by decide)) G) (pe_fn h_loops_behind (hr.mono (by decide)) rfl (G.g (x := "loops_behind")) (pa_cons (pv 5) (pa_cons (pv 9) pa_nil))) (pe_fn h_loops_behind (hr.mono (by decide)) rfl (G.g (x := "loops_behind")) (pa_cons (pv 6) (pa_cons (pv 9) pa_nil))) (nomark _)))) (fun _ _ _ _ _ => (pv 9))) (pe_lst pa_nil) (nomark _)) (pss_one (ps_ret pe_bl)) pss_nil)) (pss_one (ps_if (PW.pt (pw_and (pt_cmpR op_le (pe_callB call_len rfl (G.f (x := "len")) bo_len (pa_cons (pe_ix (ix_tupK rfl) (pv 10) pe_int (fun _ _ => rfl)) pa_nil)) pe_int (nomark _)) (pw_and1 (pt_cmpR (op_eqRdK rfl h_Reader_eq (hr.mono (by decide)) G) (pe_fn h_loops_behind (hr.mono (by decide)) rfl (G.g (x := "loops_behind")) (pa_cons (pv 5) (pa_cons (pe_ix (ix_tupK rfl) (pv 10) pe_int (fun _ _ => rfl)) pa_nil))) (pe_fn h_loops_behind (hr.mono (by decide)) rfl (G.g (x := "loops_behind")) (pa_cons (pv 6) (pa_cons (pe_ix (ix_tupK rfl) (pv 10) pe_int (fun _ _ => rfl)) pa_nil))) (nomark _))))) (pss_one (ps_ret pe_bl)) pss_nil)))
      (pss_one (ps_ret (pe_fnG h_L_reader_right (hr.mono (by decide)) hgd rfl (G.g (x := "_law_reader_right")) (pa_cons (pv 0) pa_nil)))))))))))) ?_
  obtain ⟨v, rfl, hv, q⟩ := h
  refine seq_asgR (fun x H' => SameV v H H' ∧ VialAt H' v ∧ ∃ (a : Addr) (k n : Nat), x = .ref a ∧ H' a = some (.tup [nv k, nv n]) ∧ ((k = 2 ∧ (n = 1 ∨ n = 2)) ∨ (k = 1 ∧ n = 3))) (fun Qx hQ => ?_) ?_
  · refine ⟨_, rfl, Evl.sz_of (show 2 ≤ 100000 by decide), fun a1 h1 => ⟨Evl.sz_of (show 2 ≤ 100000 by decide), fun a2 h2 => ⟨Evl.sz_of (show 2 ≤ 100000 by decide), fun a3 h3 => ⟨Evl.sz_of (show 2 ≤ 100000 by decide), fun a4 h4 => ⟨Evl.sz_of (show 4 ≤ 100000 by decide), fun l hl => ?_⟩⟩⟩⟩⟩
    have t1 := same_new (o := .tup [.int 2, .int 2]) h1
    have t2 := same_new (o := .tup [.int 2, .int 2]) h2
    have t3 := same_new (o := .tup [.int 1, .int 3]) h3
    have t4 := same_new (o := .tup [.int 2, .int 1]) h4
    have t5 := same_new (o := .lst [.ref a1, .ref a2, .ref a3, .ref a4]) hl
    have g1 := t5 _ _ (t4 _ _ (t3 _ _ (t2 _ _ (upd_same (H := H) (a := a1) (o := .tup [.int 2, .int 2])))))
    have g2 := t5 _ _ (t4 _ _ (t3 _ _ (upd_same (H := upd H a1 (.tup [.int 2, .int 2])) (a := a2) (o := .tup [.int 2, .int 2]))))
    have g3 := t5 _ _ (t4 _ _ (upd_same (H := upd (upd H a1 (.tup [.int 2, .int 2])) a2 (.tup [.int 2, .int 2])) (a := a3) (o := .tup [.int 1, .int 3])))
    have g4 := t5 _ _ (upd_same (H := upd (upd (upd H a1 (.tup [.int 2, .int 2])) a2 (.tup [.int 2, .int 2])) a3 (.tup [.int 1, .int 3])) (a := a4) (o := .tup [.int 2, .int 1]))
    have g5 := upd_same (H := upd (upd (upd (upd H a1 (.tup [.int 2, .int 2])) a2 (.tup [.int 2, .int 2])) a3 (.tup [.int 1, .int 3])) a4 (.tup [.int 2, .int 1])) (a := l) (o := .lst [.ref a1, .ref a2, .ref a3, .ref a4])
    have s5 := (((t1.trans t2).trans t3).trans t4).trans t5
    have nl : l ≠ v := fun z => (hv.same (((t1.trans t2).trans t3).trans t4)).ne hl z.symm
    generalize upd (upd (upd (upd (upd H a1 (.tup [.int 2, .int 2])) a2 (.tup [.int 2, .int 2])) a3 (.tup [.int 1, .int 3])) a4 (.tup [.int 2, .int 1])) l (.lst [.ref a1, .ref a2, .ref a3, .ref a4]) = H5 at g1 g2 g3 g4 g5 s5 ⊢
    have hv5 := hv.same s5
    refine ⟨v, l, _, rfl, hv5, g5, nl, by simp, by simp, fun H6 i x e6 hv6 hx => hQ _ _ ⟨(grow_v v).trans (fun a o _ h => s5 a o h) e6, hv6, ?_⟩⟩
    have tt := tups_v hv5 e6
    match i, hx with
    | 0, hx => cases hx; exact ⟨a1, 2, 2, rfl, tt _ _ g1, .inl ⟨rfl, .inr rfl⟩⟩
    | 1, hx => cases hx; exact ⟨a2, 2, 2, rfl, tt _ _ g2, .inl ⟨rfl, .inr rfl⟩⟩
    | 2, hx => cases hx; exact ⟨a3, 1, 3, rfl, tt _ _ g3, .inr ⟨rfl, rfl⟩⟩
    | 3, hx => cases hx; exact ⟨a4, 2, 1, rfl, tt _ _ g4, .inl ⟨rfl, .inl rfl⟩⟩
    | i + 4, hx => simp at hx
  rintro x H1 ⟨e1, hv1, a, k, n, rfl, ha, hkn⟩
  refine ⟨a, _, rfl, sqT ha, rfl, _, _, rfl, _, _, rfl, rfl, ?_⟩
  have hkn2 : 1 ≤ k ∧ k ≤ 2 ∧ 1 ≤ n ∧ n ≤ 3 := by omega
  refine seq_asgR (fun x H' => SameV v H1 H' ∧ VialAt H' v ∧ ∃ A M, PlanAt H' x k n A M) (fun Qx hQ => ?_) ?_
  · refine ⟨_, rfl, _, rfl, _, rfl, v, k, n, rfl, hv1, by omega, by omega, by omega, fun H2 rA B e2 hv2 hA ok hBn => ⟨_, rfl, _, rfl, v, n, rfl, hv2, by omega, fun H3 rE E' e3 hv3 hE asc lt hEl => ⟨Evl.sz_of (show 2 ≤ 100000 by decide), fun p hp => hQ _ _ ⟨?_, hv3.same (same_new hp), B, E', p, rA, rE, rfl, upd_same, (hA.mono (tups_v hv2 e3)).mono (same_tups (same_new hp)), hE.mono (same_tups (same_new hp)), ok, hBn, asc, lt, hEl⟩⟩⟩⟩
    exact (grow_v v).trans ((grow_v v).trans e2 e3) fun a o _ h => same_new hp a o h
  rintro x H2 ⟨e2, hv2, A1, M1, p1, vA1, vM1, rfl, hp1, hA1, hM1, ok1, hn1, asc1, lt1, hl1⟩
  refine seq_asgR (fun x H' => SameV v H2 H' ∧ VialAt H' v ∧ ∃ A M, PlanAt H' x k n A M) (fun Qx hQ => ?_) ?_
  · refine ⟨_, rfl, v, 2, rfl, hv2, by omega, by omega, fun H3 r e3 hv3 hr => ⟨rfl, _, rfl, ?_⟩⟩
    have tt := tups_v hv2 e3
    cases decide (nv r = V.int 0) with
    | true =>
      refine iteT ⟨_, rfl, p1, _, _, _, rfl, rfl, sqT (tt _ _ hp1), atE (j := 0) rfl rfl, _, rfl, _, rfl, v, n, rfl, hv3, by omega, fun H4 rE E' e4 hv4 hE asc lt hEl => ⟨Evl.sz_of (show 2 ≤ 100000 by decide), fun p hp => hQ _ _ ⟨?_, hv4.same (same_new hp), A1, E', p, vA1, rE, rfl, upd_same, ((hA1.mono tt).mono (tups_v hv3 e4)).mono (same_tups (same_new hp)), hE.mono (same_tups (same_new hp)), ok1, hn1, asc, lt, hEl⟩⟩⟩
      exact (grow_v v).trans ((grow_v v).trans e3 e4) fun a o _ h => same_new hp a o h
    | false =>
      refine iteF ⟨_, rfl, _, rfl, _, rfl, v, k, n, rfl, hv3, by omega, by omega, by omega, fun H4 rA B e4 hv4 hA ok hBn => ⟨_, rfl, p1, _, _, _, rfl, rfl, sqT (tups_v hv3 e4 _ _ (tt _ _ hp1)), atE (j := 1) rfl rfl, Evl.sz_of (show 2 ≤ 100000 by decide), fun p hp => hQ _ _ ⟨?_, hv4.same (same_new hp), B, M1, p, rA, vM1, rfl, upd_same, hA.mono (same_tups (same_new hp)), ((hM1.mono tt).mono (tups_v hv3 e4)).mono (same_tups (same_new hp)), ok, hBn, asc1, lt1, hl1⟩⟩⟩
      exact (grow_v v).trans ((grow_v v).trans e3 e4) fun a o _ h => same_new hp a o h
  rintro x H3 ⟨e3, hv3, A2, M2, p2, vA2, vM2, rfl, hp2, hA2, hM2, ok2, hn2, asc2, lt2, hl2⟩
  have tt3 := tups_v hv2 e3
  replace hp1 := tt3 _ _ hp1
  replace hA1 := hA1.mono tt3
  replace hM1 := hM1.mono tt3
  refine seq_asgR (fun x H' => Same H3 H' ∧ ∃ a w1 w2, x = .ref a ∧ H' a = some (.tup [w1, w2]) ∧ InsAt (CW_ K) H' w1 k A1 M1 ∧ InsAt (CW_ K) H' w2 k A2 M2) (fun Qx hQ => ?_) ?_
  · refine ⟨_, rfl, _, rfl, p1, _, _, _, rfl, rfl, sqT hp1, atE (j := 0) rfl rfl, _, rfl, p1, _, _, _, rfl, rfl, sqT hp1, atE (j := 1) rfl rfl, ?_⟩
    intro x dx hx hdx hne
    have sB := new_ins (C := CW_ K) hx hdx
    refine ⟨x, dx, vA1, vM1, k, A1, M1, rfl, upd_same, hA1.mono (same_tups sB), hM1.mono (same_tups sB), by omega, ok1, by omega, asc1, fun e he => by rw [hn1]; exact lt1 e he, by omega, fun H4 t e4 h1 h2 => ⟨rfl, ?_⟩⟩
    obtain ⟨s4, i4⟩ := made_at hx hdx hA1 hM1 e4 h1 h2
    refine ⟨_, rfl, _, rfl, p2, _, _, _, rfl, rfl, sqT (s4 _ _ hp2), atE (j := 0) rfl rfl, _, rfl, p2, _, _, _, rfl, rfl, sqT (s4 _ _ hp2), atE (j := 1) rfl rfl, ?_⟩
    intro x5 dx5 hx5 hdx5 hne5
    have sB5 := new_ins (C := CW_ K) hx5 hdx5
    have hA5 := hA2.mono (same_tups s4)
    have hM5 := hM2.mono (same_tups s4)
    refine ⟨x5, dx5, vA2, vM2, k, A2, M2, rfl, upd_same, hA5.mono (same_tups sB5), hM5.mono (same_tups sB5), by omega, ok2, by omega, asc2, fun e he => by rw [hn2]; exact lt2 e he, by omega, fun H5 t5 e5 h15 h25 => ⟨rfl, ?_⟩⟩
    obtain ⟨s5, i5⟩ := made_at hx5 hdx5 hA5 hM5 e5 h15 h25
    exact ⟨Evl.sz_of (show 2 ≤ 100000 by decide), fun p hp => hQ _ _ ⟨(s4.trans s5).trans (same_new hp), p, _, _, rfl, upd_same, (i4.mono s5).mono (same_new hp), i5.mono (same_new hp)⟩⟩
  rintro x H4 ⟨e4, a4, w1, w2, rfl, ha4, i1, i2⟩
  refine ⟨a4, _, rfl, sqT ha4, rfl, _, _, rfl, _, _, rfl, rfl, ?_⟩
  have hv4 := hv3.same e4
  refine seq_asgR (fun x H' => SameV v H4 H' ∧ VialAt H' v ∧ ∃ (l : Addr) (hs : List (List Nat)), x = .ref l ∧ H' l = some (.lst (hs.map tV)) ∧ hs.length ≤ 1000 ∧ ∀ u ∈ hs, (∀ p ∈ u, p < k) ∧ u.length ≤ 2) (fun Qx hQ => ?_) ?_
  · refine ⟨_, rfl, k, 1, rfl, by omega, by omega, fun H5 rl ws e5 h5 hws hwl => ?_⟩
    have hv5 := hv4.same e5
    refine ⟨⟨_, rfl⟩, 2, rfl, by omega, by omega, fun D hD => ?_⟩
    have nD : D ≠ v := fun z => hv5.ne hD z.symm
    refine lc_rel (grow_d v) walk_range (by simp) hD nD (fun i x _ => ∃ p : Nat, x = tV [p] ∧ p < k) (fun _ _ _ _ _ h => h) (fun _ _ _ _ h _ => h) (fun _ _ => trivial) ?_ ?_
    · rintro i x _ H6 hi e6 ⟨rfl, hx⟩ Kt hK
      have hv6 := e6.2 hv5
      refine ⟨rfl, _, rfl, _, rfl, (k : Int), rfl, "ab", rfl, Evl.sz_of (by decide), ?_⟩
      rw [ab_txt (by omega)]
      refine ⟨txt (List.range k), rfl, by rw [txt_size, List.length_range]; omega, fun p hp => ?_⟩
      have hls : ((txt (List.range k)).cps.toList.map fun c => V.str ⟨#[c]⟩) = (List.range k).map fun p => tV [p] := by
        show ((((List.range k).map (97 + ·)).toArray).toList.map fun c => V.str ⟨#[c]⟩) = _
        rw [List.toList_toArray, List.map_map]
        rfl
      rw [hls]
      refine ⟨v, p, (List.range k).map fun p => tV [p], rfl, hv6.same (same_new hp), upd_same, fun z => hv6.ne hp z.symm, by simp; omega, by simp; omega, fun H7 j y e7 hv7 hj => hK _ _ ⟨fun a o n h => e7 a o n (same_new hp _ _ h), fun _ => hv7⟩ ?_⟩
      rw [List.getElem?_map] at hj
      obtain ⟨c, hc, rfl⟩ := Option.map_eq_some_iff.mp hj
      exact ⟨c, rfl, List.mem_range.mp (List.mem_of_getElem? hc)⟩
    · intro xs H6 e6 hx6 hlen6 hall6
      obtain ⟨r, hr, hrp⟩ := pick_all (f := fun p => tV [p]) hall6
      have hrl : r.length = 2 := by
        have h1 := congrArg List.length hr
        rw [List.length_map, hlen6] at h1
        simpa using h1.symm
      match r, hrl, hr, hrp with
      | [c, d], _, hr, hrp =>
        have h6 : H6 rl = some (.lst (([] :: ws).map tV)) := e6.1 _ _ (fun z => by
          obtain ⟨a, b, c, h1, _⟩ := hv5
          rw [z, h1] at h5
          simp [tV] at h5) h5
        refine ⟨"", D, [txt [c], txt [d]], rfl, rfl, .inl (sqL (by rw [hx6, hr]; rfl)), (show 1 + (1 + 0) + 2 * 0 ≤ 16777216 by decide), Evl.sz_of (show 1 ≤ 100000 by decide), fun l9 hl9 => ?_⟩
        refine ⟨rl, l9, _, _, rfl, rfl, same_new hl9 _ _ h6, upd_same, Evl.sz_of (by simp; omega), fun l8 hl8 => hQ _ _ ⟨?_, ((e6.2 hv5).same (same_new hl9)).same (same_new hl8), l8, ([] :: ws) ++ [[c, d]], rfl, ?_, by simp; omega, ?_⟩⟩
        · exact fun a o n h => same_new hl8 _ _ (same_new hl9 _ _ (e6.1 a o n (e5 _ _ h)))
        · rw [upd_same, List.map_append]
          rfl
        · intro u hu
          rcases List.mem_append.mp hu with h | h
          · rcases List.mem_cons.mp h with rfl | h
            · simp
            · exact ⟨(hws u h).2.1, by have := (hws u h).2.2; omega⟩
          · obtain rfl := List.mem_singleton.mp h
            refine ⟨fun p hp => hrp p hp, by simp⟩
  rintro x H5 ⟨e5, hv5, l, hs, rfl, hl, hsl, hhs⟩
  have tt5 := (same_tups e4).trans' (tups_v hv4 e5)
  replace i1 := ins_v hv4 e5 i1
  replace i2 := ins_v hv4 e5 i2
  replace hp1 := tt5 _ _ hp1
  replace hA1 := hA1.mono tt5
  replace hM1 := hM1.mono tt5
  have few : ∀ A M, RR.ArrOk k A → A.length = n → RR.FewDeeds k A M := fun A M ok h => by
    rcases hkn with ⟨_, h2⟩ | ⟨rfl, rfl⟩
    · exact RR.few2 ok M (by omega)
    · exact RR.few3 ok h M
  refine ⟨_, rfl, l, rfl, ⟨_, sqL hl⟩, ?_⟩
  refine for_it walk_list (fun i σ' H' => Same H5 H' ∧ ∃ z8 z9 z10 : Option V, σ' = [some (.ref v), some (nv k), some (nv n), some (.ref p1), some (.ref p2), some w1, some w2, some (.ref l), z8, z9, z10]) ⟨Same.refl _, _, _, _, rfl⟩ (fun j σ' H' _ p => sqL (p.1 _ _ hl)) ?_ ?_
  · rintro i x σ' _ H6 hi ⟨e6, z8, z9, z10, rfl⟩ ⟨rfl, hx⟩
    rw [List.getElem?_map] at hx
    obtain ⟨u, hu, rfl⟩ := Option.map_eq_some_iff.mp hx
    obtain ⟨u1, u2⟩ := hhs u (List.mem_of_getElem? hu)
    exact ⟨_, rfl, _, rfl, _, rfl, _, rfl, w1, p1, vA1, vM1, u, k, A1, M1, rfl, i1.mono e6, e6 _ _ hp1, hA1.mono (same_tups e6), hM1.mono (same_tups e6), ok1, u1, by omega, by omega, by omega, few A1 M1 ok1 hn1, fun H7 e7 => ⟨_, rfl, iteF ⟨e6.trans e7, _, _, _, rfl⟩⟩⟩
  rintro σ' H6 ⟨e6, z8, z9, z10, rfl⟩
  have hEnd : ∀ H8 H9, Same H5 H8 → SameV v H8 H9 → SameV v H H9 := fun H8 H9 e8 e9 =>
    (grow_v v).trans ((grow_v v).trans ((grow_v v).trans ((grow_v v).trans ((grow_v v).trans e1 e2) e3) fun a o _ h => e4 a o h) e5) ((grow_v v).trans (fun a o _ h => e8 a o h) e9)
  refine ⟨_, rfl, _, rfl, w1, w2, k, A1, A2, M1, M2, rfl, i1.mono e6, i2.mono e6, ok1, ok2, by omega, by omega, by omega, fun H7 r e7 hr => ?_⟩
  have e67 := e6.trans e7
  refine ⟨_, rfl, ?_⟩
  rcases hr with ⟨u, c, ⟨p, rfl, hp⟩, hap, su, sc⟩ | ⟨rfl, n1, n2⟩
  · refine ⟨false, rfl, iteF ?_⟩
    refine ⟨_, rfl, p, _, _, _, rfl, rfl, sqT hp, atE (j := 0) rfl rfl, .str (txt u), u.length, rfl, ⟨Evl.sz_of (by rw [txt_len]; have := su.2; omega), (txt_len u).symm⟩, (u.length : Int), 200, rfl, rfl, _, rfl, ?_⟩
    have hul := su.2
    rw [decide_eq_true (by omega)]
    refine iteT ⟨_, rfl, _, rfl, p, _, _, _, rfl, rfl, sqT hp, atE (j := 0) rfl rfl, w1, u, k, A1, M1, rfl, i1.mono e67, ok1, su.1, by omega, ⟨by omega, by omega⟩, by omega, few A1 M1 ok1 hn1, fun H8 t1 e8 j1 tab1 => ?_⟩
    refine ⟨_, rfl, _, rfl, p, _, _, _, rfl, rfl, sqT (e8 _ _ hp), atE (j := 0) rfl rfl, w2, u, k, A2, M2, rfl, i2.mono (e67.trans e8), ok2, su.1, by omega, ⟨by omega, by omega⟩, by omega, few A2 M2 ok2 hn2, fun H9 t2 e9 j2 tab2 => ?_⟩
    have hne := RR.apart_least hap tab1 tab2
    refine eq_rd (j1.mono e9) j2 ?_
    rw [decide_eq_false (fun h => hne (Prod.ext h.2.1 h.2.2))]
    have e69 := (e67.trans e8).trans e9
    exact ⟨_, rfl, iteF ⟨_, rfl, v, rfl, hv5.same e69, fun H10 e10 => q _ (hEnd _ _ e69 e10)⟩⟩
  · have hl7 := e67 _ _ hl
    refine ⟨true, rfl, iteT ⟨_, rfl, l, rfl, ⟨_, sqL hl7⟩, fun D hD => ?_⟩⟩
    refine lc_fil grow_same walk_list (Rb := fun i b => b = false) (f := fun _ => V.non) (by rw [List.length_map]; omega) hD trivial (fun H e => sqL (e _ _ hl7)) ?_ (fun x σ H A B h k => h _ _ k) ?_
    · rintro i x _ H8 hi e8 ⟨rfl, hx⟩
      rw [List.getElem?_map] at hx
      obtain ⟨u, hu, rfl⟩ := Option.map_eq_some_iff.mp hx
      obtain ⟨u1, u2⟩ := hhs u (List.mem_of_getElem? hu)
      have e68 := e67.trans e8
      refine ⟨rfl, fun Kb hKb => ⟨_, rfl, _, rfl, w1, u, k, A1, M1, rfl, i1.mono e68, ok1, u1, by omega, ⟨by omega, by omega⟩, by omega, few A1 M1 ok1 hn1, fun H9 t1 e9 j1 _ => ⟨_, rfl, _, rfl, w2, u, k, A2, M2, rfl, i2.mono (e68.trans e9), ok2, u1, by omega, ⟨by omega, by omega⟩, by omega, few A2 M2 ok2 hn2, fun H10 t2 e10 j2 _ => ?_⟩⟩⟩
      rw [← RR.loops_same n1 n2 u] at j2
      exact ne_rdF (j1.mono e10) j2 ⟨_, rfl, hKb _ _ (e9.trans e10) rfl fun h => by cases h⟩
    · intro pf H8 e8 hpf hD8
      rw [List.filter_eq_nil_iff.mpr (fun i hi => by rw [hpf i (List.mem_range.mp hi)]; simp)] at hD8
      refine ⟨Evl.sz_of (show 0 ≤ 100000 by decide), fun l9 hl9 => ⟨.list [], .list [], .lst (sqL (same_new hl9 _ _ hD8)) .nil, .lst (sqL upd_same) .nil, rfl, rfl, false, rfl, iteF ?_⟩⟩
      have e69 := (e67.trans e8).trans (same_new (o := .lst []) hl9)
      exact ⟨_, rfl, v, rfl, hv5.same e69, fun H10 e10 => q _ (hEnd _ _ e69 e10)⟩
end
end RK
/-! W20: the law. -/
namespace RK
open PySem PySem.Spec PyProof.Rows L2
section
variable {P : Program} {w : World} {K : PySem.W.Frag} {mg : Str → Option Value} {base : Heap}
def sp_law (K : PySem.W.Frag) : Sp := fun vs H Q _ => ∃ (a : Addr) (ns : List Int), vs = [.ref a] ∧ SqL K H a (ns.map V.int) ∧ ns.length ≤ 1000 ∧ ∀ H', Q (.bl true) H'
theorem ok_law (G : Gs K mg) (h_L_right : FnG P w K mg base 10 d_L_right p_L_right (sp_L_right K)) (h_L_vial_of : Fn P w K mg base 1 d_L_vial_of p_L_vial_of (sp_L_vial_of K)) : FnG P w K mg base 11 d_law p_law (sp_law K) := by
  refine fn_mkG G 50 rfl sc_law (fun vs H Q E h => by obtain ⟨_, _, rfl, _⟩ := h; rfl) (fun _ _ _ _ _ _ us hl => match us, hl with | [_], _ => rfl) (fun cdv A outer s H vs Q E hr hgd h => ?_)
  have hu1 := hu_of hr
  have hu64 := hr.units
  have hrN := roomN.of hr
  refine both (pss_one (ps_ret (pe_callB (cr_allK rfl rfl) rfl (G.f (x := "all")) bo_all (pa_cons (pe_lc rfl sc_law.nd (pi_range1 rfl (G.f (x := "range")) (pa_cons (pe_callB (call_max2 rfl) rfl (G.f (x := "max")) bo_max (pa_cons pe_int (pa_cons (pe_callB (call_min2 rfl) rfl (G.f (x := "min")) bo_min (pa_cons (pe_callB (call_lenK rfl) rfl (G.f (x := "len")) bo_len (pa_cons (pv 0) pa_nil)) (pa_cons pe_int pa_nil))) pa_nil))) pa_nil)) (blkOk_by (own := [("_law_turn", 1)]) (by first | (show blkC n_law (defScope s_law) _ _ = true; decide +kernel) | rfl)) (fun _ _ _ _ _ => (pg_name sc_law.nd (i := 1) rfl (by first | exact .inl rfl | exact .inr rfl | exact .inr (.inl rfl) | exact .inr (.inr rfl)))) (fun _ _ _ _ _ => pts_nil) (fun _ _ _ _ _ => (pe_fnG h_L_right (hr.mono (by decide)) hgd rfl (G.g (x := "_law_right")) (pa_cons (pe_fn h_L_vial_of (hr.mono (by decide)) rfl (G.g (x := "_law_vial_of")) (pa_cons (pv 0) (pa_cons (pv 1) pa_nil))) pa_nil)))) pa_nil)))) ?_
  obtain ⟨a, ns, rfl, ha, hn, q⟩ := h
  refine ⟨_, rfl, a, ns.map V.int, rfl, .inl ha, ((ns.map V.int).length : Int), 3, rfl, 2, _, rfl, ?_⟩
  obtain ⟨m, hm, hm2⟩ : ∃ m : Nat, (if (if (3 : Int) < ((ns.map V.int).length : Int) then (3 : Int) else ((ns.map V.int).length : Int)) > 2 then (if (3 : Int) < ((ns.map V.int).length : Int) then (3 : Int) else ((ns.map V.int).length : Int)) else 2) = (m : Int) ∧ m ≤ 3 := by
    by_cases h1 : (3 : Int) < ((ns.map V.int).length : Int)
    · rw [if_pos h1]; exact ⟨3, rfl, by omega⟩
    · rw [if_neg h1]
      by_cases h2 : ((ns.map V.int).length : Int) > 2
      · rw [if_pos h2]; exact ⟨(ns.map V.int).length, rfl, by omega⟩
      · rw [if_neg h2]; exact ⟨2, rfl, by omega⟩
  dsimp only
  rw [hm]
  refine ⟨_, rfl, by omega, by omega, fun D hD => ?_⟩
  refine lc_rel grow_same walk_range (by simp; omega) hD trivial (fun i x _ => x = .bl true) (fun _ _ _ _ _ h => h) (fun _ _ _ _ h _ => h) (fun _ _ => trivial) ?_ ?_
  · rintro i x _ H2 hi e2 ⟨rfl, hx⟩ Kt hK
    obtain rfl : x = nv i := by rw [hx]; show V.int (0 + (i : Int)) = _; rw [Int.zero_add]; rfl
    refine ⟨rfl, _, rfl, _, rfl, a, ns, i, rfl, sqL_mono e2 ha, hn, by simp at hi; omega, fun H3 v e3 hv0 hv => ⟨v, rfl, hv, fun H4 e4 => hK _ _ (fun b o h => e4 b o (fun z => by rw [z, hv0] at h; cases h) (e3 _ _ h)) rfl⟩⟩
  · intro xs H2 e2 hx2 hlen2 hall2
    have hxs : xs = (List.replicate xs.length true).map V.bl := list_is (by simp) fun i x hx => ⟨true, by rw [List.getElem?_replicate, if_pos (List.getElem?_eq_some_iff.mp hx).1], hall2 i x hx⟩
    refine ⟨D, List.replicate xs.length true, rfl, sqL (by rw [hx2, ← hxs]), ?_⟩
    have : (List.replicate xs.length true).all id = true := by simp
    rw [this]
    exact q _
end
end RK
/-! F: the facts and the law. -/
namespace RK
open PySem PySem.Spec PyProof.Rows L2
theorem fnG_law {P : Program} {w : World} {K : PySem.W.Frag} {mg : Str → Option Value} {base : Heap} (G : Gs K mg) : FnG P w K mg base 11 d_law p_law (sp_law K) := by
  have x_L_drip := ok_L_drip (P := P) (w := w) (base := base) G
  have x_L_draw := ok_L_draw (P := P) (w := w) (base := base) G x_L_drip
  have x_L_lot := ok_L_lot (P := P) (w := w) (base := base) G x_L_drip
  have x_L_arrows := ok_L_arrows (P := P) (w := w) (base := base) G x_L_draw
  have x_is_number := ok_is_number (P := P) (w := w) (base := base) G
  have x_is_signs := ok_is_signs (P := P) (w := w) (base := base) G x_is_number
  have x_check_signs := ok_check_signs (P := P) (w := w) (base := base) G x_is_signs
  have x_is_goal := ok_is_goal (P := P) (w := w) (base := base) G x_is_number
  have x_are_arrows := ok_are_arrows (P := P) (w := w) (base := base) G x_is_goal
  have x_are_stands := ok_are_stands (P := P) (w := w) (base := base) G x_is_number
  have x_Watcher_init := ok_Watcher_init (P := P) (w := w) (base := base) G x_check_signs x_are_arrows x_are_stands
  have x_L_rows := ok_L_rows (P := P) (w := w) (base := base) G
  have x_check_watcher := ok_check_watcher (P := P) (w := w) (base := base) G
  have x_is_row := ok_is_row (P := P) (w := w) (base := base) G
  have x_check_row := ok_check_row (P := P) (w := w) (base := base) G x_is_row
  have x_Watcher_signs := ok_Watcher_signs (P := P) (w := w) (base := base) G
  have x_goal_by := ok_goal_by (P := P) (w := w) (base := base) G
  have x_Watcher_arrows := ok_Watcher_arrows (P := P) (w := w) (base := base) G
  have x_reached := ok_reached (P := P) (w := w) (base := base) G
  have x_turned_back := ok_turned_back (P := P) (w := w) (base := base) G
  have x_useful_of := ok_useful_of (P := P) (w := w) (base := base) G x_reached x_turned_back
  have x_kinds_of := ok_kinds_of (P := P) (w := w) (base := base) G
  have x_least_of := ok_least_of (P := P) (w := w) (base := base) G x_useful_of x_kinds_of
  have x_Reader_init := ok_Reader_init (P := P) (w := w) (base := base) G x_check_signs x_are_arrows x_are_stands
  have x_made := ok_made (P := P) (w := w) (base := base) G x_least_of x_Reader_init
  have x_goal_of := ok_goal_of (P := P) (w := w) (base := base) G
  have x_Watcher_marks := ok_Watcher_marks (P := P) (w := w) (base := base) G
  have x_dealt := ok_dealt (P := P) (w := w) (base := base) G x_goal_of x_Watcher_arrows x_Watcher_marks
  have x_is_good := ok_is_good (P := P) (w := w) (base := base) G
  have x_Watcher_len := ok_Watcher_len (P := P) (w := w) (base := base) G
  have x_loops_behind := ok_loops_behind (P := P) (w := w) (base := base) G x_check_watcher x_check_row x_Watcher_signs x_goal_by x_Watcher_arrows x_made x_dealt x_is_good x_Watcher_len
  have x_check_reader := ok_check_reader (P := P) (w := w) (base := base) G
  have x_Reader_signs := ok_Reader_signs (P := P) (w := w) (base := base) G
  have x_Reader_arrows := ok_Reader_arrows (P := P) (w := w) (base := base) G
  have x_led_to := ok_led_to (P := P) (w := w) (base := base) G x_check_reader x_check_row x_Reader_signs x_goal_by x_Reader_arrows
  have x_Reader_ends := ok_Reader_ends (P := P) (w := w) (base := base) G
  have x_says := ok_says (P := P) (w := w) (base := base) G x_led_to x_Reader_ends
  have x_least_by := ok_least_by (P := P) (w := w) (base := base) G x_made x_Reader_ends x_Reader_arrows x_Reader_signs
  have x_least := ok_least (P := P) (w := w) (base := base) G x_check_reader x_least_by
  have x_no_rows := ok_no_rows (P := P) (w := w) (base := base) G x_check_signs x_Reader_init
  have x_L_goes := ok_L_goes (P := P) (w := w) (base := base) G
  have x_L_watched := ok_L_watched (P := P) (w := w) (base := base) G x_L_goes
  have x_Reader_eq := ok_Reader_eq (P := P) (w := w) (base := base) G
  have x_L_start_right := ok_L_start_right (P := P) (w := w) (base := base) G x_loops_behind x_says x_least x_no_rows x_L_goes x_L_rows x_L_watched x_Reader_eq
  have x_check_watchers := ok_check_watchers (P := P) (w := w) (base := base) G x_check_watcher x_Watcher_signs
  have x_paired := ok_paired (P := P) (w := w) (base := base) G x_Watcher_signs x_goal_of x_Watcher_arrows
  have x_first_row_to := ok_first_row_to (P := P) (w := w) (base := base) G
  have x_back_row := ok_back_row (P := P) (w := w) (base := base) G x_first_row_to
  have x_loop_apart := ok_loop_apart (P := P) (w := w) (base := base) G x_paired x_Watcher_marks x_back_row x_first_row_to
  have x_loop_unlike := ok_loop_unlike (P := P) (w := w) (base := base) G x_loop_apart
  have x_unlike_loop := ok_unlike_loop (P := P) (w := w) (base := base) G x_check_watchers x_loop_unlike
  have x_watcher_with := ok_watcher_with (P := P) (w := w) (base := base) G x_Watcher_init
  have x_watcher_of := ok_watcher_of (P := P) (w := w) (base := base) G x_check_reader x_watcher_with x_Reader_ends x_Reader_arrows x_Reader_signs
  have x_passed := ok_passed (P := P) (w := w) (base := base) G x_goal_of x_Watcher_arrows x_Watcher_marks
  have x_watched := ok_watched (P := P) (w := w) (base := base) G x_passed
  have x_watches := ok_watches (P := P) (w := w) (base := base) G x_check_watcher x_check_row x_Watcher_signs x_watched x_goal_by x_Watcher_arrows
  have x_same_loops := ok_same_loops (P := P) (w := w) (base := base) G x_check_watchers x_loop_unlike
  have x_L_reader_right := ok_L_reader_right (P := P) (w := w) (base := base) G x_L_drip x_Reader_init x_L_lot x_L_arrows x_watcher_of x_L_rows x_says x_watches x_same_loops x_least
  have x_L_right := ok_L_right (P := P) (w := w) (base := base) G x_L_draw x_L_lot x_L_arrows x_L_drip x_Watcher_init x_L_rows x_L_start_right x_unlike_loop x_loops_behind x_L_reader_right x_Reader_eq
  have x_L_vial_of := ok_L_vial_of (P := P) (w := w) (base := base) G
  have x_law := ok_law (P := P) (w := w) (base := base) G x_L_right x_L_vial_of
  exact x_law
theorem FnP_one {K : PySem.W.Frag} {x qual : Str} {st : Stmt} {f : Addr} {fd fd2 : FuncData} (F : FnP K x qual st f fd) (F2 : FnP K x qual st f fd2) : fd = fd2 := by
  obtain ⟨oc, od, dV, kV, doc, pm, an, cdv, ct, osl, e1, lk, _⟩ := F.ex
  obtain ⟨oc2, od2, dV2, kV2, doc2, pm2, an2, cdv2, ct2, osl2, e2, lk2, _⟩ := F2.ex
  rw [lk] at lk2
  cases lk2
  rfl
theorem facts {P : Program} {w : World} {K : PySem.W.Frag} {h : Heap} {mg : Str → Option Value} {f : Addr} (X : K.In h) (N : h.Ns mainGlobals mg) (hfa : mg ("law" : Str) = some (.ref f)) (c : SaysA okL fnL K) :
    ∃ fd : FuncData, (∀ (s : Shared) (v : Value), BindsTo s fd ⟨[v], []⟩ [("_law_script", v)]) ∧ ∀ base : Heap, K.In base → base.Ns mainGlobals mg → FnOkG P w K mg base CX0 11 f fd ["_law_script"] (sp_law K) := by
  have G := gs_of X N c
  have e := hfa.symm.trans (G.glo "law" (by decide))
  cases e
  obtain ⟨fd, F⟩ := c.def_ 50 (d := d_law) rfl
  have b := FunD.bindsA (ps := ["_law_script"]) F fun _ _ _ _ _ _ us hl => match us, hl with | [_], _ => rfl
  refine ⟨fd, fun s v => b s [v] rfl, fun base _ _ => ?_⟩
  obtain ⟨fd2, F2, _, F3⟩ := (fnG_law (P := P) (w := w) (base := base) G).ex
  rw [FnP_one F F3]
  exact F2
end RK
open PySem PySem.W PySem.Calls PyProof.Rows
theorem PySem.Challenge.cw_rowreaders_k80_whole_loops_behind_starts_holds : PySem.Challenge.rw_rowreaders_k80_whole_loops_behind_starts.Holds := by
  w_on; o_law
  refine HandSHeadRun.head_any (r := RK.R) (q := view RK.R.prog [73]) (H := RK.hk) (ob := RK.ob) (M := 20000) (loose := RK.loose) (d := HandSHeadRun.topDef RK.R.prog 73) (kwd := []) RK.ob_eq
    (by kernel_rfl) (fun s => by kernel_rfl) RK.run (by kernel_rfl) (by kernel_rfl) (by kernel_rfl) (by rfl) (by first | assumption | decide +kernel) (by decide +kernel) ⟨rfl, rfl, rfl, rfl, rfl, by decide +kernel⟩ ?hw ?hc
  case hw => w_witness2
  case hc =>
    refine RK.walk_ofEG (l := PySem.Challenge.rw_rowreaders_k80_whole_loops_behind_starts) (most := 63) (k := 11) (x := "_law_script") (CX := L2.CX0) rfl (by decide) (by kernel_rfl) ⟨rfl, by decide, by decide⟩ ?F (fun _ _ _ _ z => z)
    intro w mg fa h Y N hmg0
    obtain ⟨K, KX, c⟩ := Y
    have hmg : mg ("law" : PySem.Str) = some (.ref fa) := by
      have e : (HandSHeadRun.topDef RK.R.prog 73).name = ("law" : PySem.Str) := by kernel_rfl
      rw [← e]
      exact hmg0
    obtain ⟨fd, hb, hF⟩ := RK.facts (P := (PySem.Challenge.rw_rowreaders_k80_whole_loops_behind_starts).prog) (w := w) KX N hmg c
    exact ⟨K, fd, RK.sp_law K, KX, hb, fun H a ns hl hS => ⟨a, ns, rfl, hS, by omega, fun _ => rfl⟩, hF⟩
