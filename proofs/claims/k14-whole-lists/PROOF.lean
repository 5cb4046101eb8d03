import PyProof.Rows.All
import Wide.All
import OpenK.AllK
import Wide.FinOn
import HandS.ForMost
import HandS.Defaults
import PySem.Challenge.RW_rankedjoins_k14_whole_lists_are_learnt
import HandS.Codes
import KE.GoesMore
import PyProof.EnumMake
import PyProof.Draws
import HandS.Walk
import HandS.OwnEq
import HandS.TupAny
import HandS.Flow
import HandS.More
import PyProof.StrOps2
import PyProof.Rows.ListStrD
import KE.KDictCopyH
import KE.KDictOf
import KE.SortKeyHeap
import HandS.Lambda
import HandS.EndTab
import HandS.IsInst
import HandS.Rev
import HandS.RevRange
import HandS.Style
import HandS.Conv
import HandS.Replace
import HandS.DictComp
import PyProof.StrLawsIn
import HandS.Text
import KE.KStateDown
import Lean
import HandS.Base
import HandS.Call
import HandS.Ends
import HandS.Words
import HandS.WordsExc
import HandS.Head0
import HandS.Head1
import HandS.Head2
import HandS.HeadEnd
import HandS.HeadHook1
import HandS.HeadHook2
import HandS.HeadHook3
import HandS.HeadHook4
import HandS.HeadWalk
section
/-! Rankedjoins: the mathematics in plain Lean. Rows are lists of ints, texts lists of codes. -/
set_option autoImplicit false
namespace Rj

/-- neighbors (x, y) put together to z, from left to right -/
def pt (x y z : Int) : List Int → List Int
  | [] => []
  | [a] => [a]
  | a :: b :: r => if a = x ∧ b = y then z :: pt x y z r else a :: pt x y z (b :: r)

/-- the neighbors of a row -/
def adj : List Int → List (Int × Int)
  | [] => []
  | [_] => []
  | a :: b :: r => (a, b) :: adj (b :: r)

/-- the row behind the joins ps, the first of which makes z -/
def stg (z : Int) : List (Int × Int) → List Int → List Int
  | [], R => R
  | p :: ps, R => stg (z + 1) ps (pt p.1 p.2 z R)

section pt
variable {x y z : Int}
theorem pt_yes {a b : Int} {r : List Int} (h : a = x ∧ b = y) : pt x y z (a :: b :: r) = z :: pt x y z r := by rw [pt, if_pos h]
theorem pt_no {a b : Int} {r : List Int} (h : ¬ (a = x ∧ b = y)) : pt x y z (a :: b :: r) = a :: pt x y z (b :: r) := by rw [pt, if_neg h]
theorem pt_one {a : Int} : pt x y z [a] = [a] := rfl
theorem pt_nil : pt x y z [] = [] := rfl

theorem pt_len (R : List Int) : (pt x y z R).length ≤ R.length := by
  fun_induction pt x y z R with
  | case1 => simp
  | case2 => simp
  | case3 a b r h ih => simp; omega
  | case4 a b r h ih => simp at ih ⊢; omega

theorem pt_split (R : List Int) : ∀ A' B' : List Int, pt x y z R = A' ++ B' → ∃ A B, R = A ++ B ∧ pt x y z A = A' ∧ pt x y z B = B' := by
  fun_induction pt x y z R with
  | case1 =>
    intro A' B' h
    obtain ⟨h1, h2⟩ := List.nil_eq_append_iff.mp h
    exact ⟨[], [], rfl, by rw [h1]; rfl, by rw [h2]; rfl⟩
  | case2 a =>
    intro A' B' h
    cases A' with
    | nil => exact ⟨[], [a], rfl, rfl, h⟩
    | cons c A'' =>
      simp at h
      obtain ⟨rfl, rfl, rfl⟩ := h
      exact ⟨[a], [], rfl, rfl, rfl⟩
  | case3 a b r h ih =>
    intro A' B' e
    cases A' with
    | nil => exact ⟨[], a :: b :: r, rfl, rfl, by rw [pt_yes h]; simpa using e⟩
    | cons c A'' =>
      simp at e
      obtain ⟨rfl, e⟩ := e
      obtain ⟨A1, B, h1, h2, h3⟩ := ih A'' B' e
      exact ⟨a :: b :: A1, B, by rw [h1]; rfl, by rw [pt_yes h, h2], h3⟩
  | case4 a b r h ih =>
    intro A' B' e
    cases A' with
    | nil => exact ⟨[], a :: b :: r, rfl, rfl, by rw [pt_no h]; simpa using e⟩
    | cons c A'' =>
      simp at e
      obtain ⟨rfl, e⟩ := e
      obtain ⟨A1, B, h1, h2, h3⟩ := ih A'' B' e
      cases A1 with
      | nil =>
        have : A'' = [] := by rw [← h2]; rfl
        subst this
        exact ⟨[a], B, by rw [h1]; rfl, rfl, h3⟩
      | cons b' A2 =>
        simp at h1
        obtain ⟨rfl, h1⟩ := h1
        exact ⟨a :: b :: A2, B, by rw [h1]; rfl, by rw [pt_no h, h2], h3⟩

theorem pt_head (R : List Int) : ∀ h t, pt x y z R = h :: t → h = z ∨ ∃ t', R = h :: t' := by
  fun_induction pt x y z R with
  | case1 => intro h t e; cases e
  | case2 a => intro h t e; cases e; exact .inr ⟨[], rfl⟩
  | case3 a b r h ih => intro h' t e; cases e; exact .inl rfl
  | case4 a b r h ih => intro h' t e; cases e; exact .inr ⟨_, rfl⟩

theorem adj_cons {a : Int} {R : List Int} {p : Int × Int} (h : p ∈ adj R) : p ∈ adj (a :: R) := by
  cases R with
  | nil => cases h
  | cons b r => exact List.mem_cons_of_mem _ h

theorem pt_none (R : List Int) (h : (x, y) ∉ adj R) : pt x y z R = R := by
  fun_induction pt x y z R with
  | case1 => rfl
  | case2 a => rfl
  | case3 a b r e ih => exact absurd (by obtain ⟨rfl, rfl⟩ := e; exact List.mem_cons_self) h
  | case4 a b r e ih => rw [ih fun m => h (adj_cons m)]

theorem pt_lt (R : List Int) (h : (x, y) ∈ adj R) : (pt x y z R).length < R.length := by
  fun_induction pt x y z R with
  | case1 => cases h
  | case2 a => cases h
  | case3 a b r e ih =>
    have := pt_len (x := x) (y := y) (z := z) r
    simp; omega
  | case4 a b r e ih =>
    have h' : (x, y) ∈ (a, b) :: adj (b :: r) := h
    rcases List.mem_cons.mp h' with q | q
    · cases q
      exact absurd ⟨rfl, rfl⟩ e
    · have := ih q
      simp at this ⊢
      omega

theorem adj_pt (R : List Int) : ∀ u v, (u, v) ∈ adj (pt x y z R) → u = z ∨ v = z ∨ ((u, v) ∈ adj R ∧ ¬ (u = x ∧ v = y)) := by
  fun_induction pt x y z R with
  | case1 => intro u v h; cases h
  | case2 a => intro u v h; cases h
  | case3 a b r e ih =>
    intro u v h
    cases q : pt x y z r with
    | nil => rw [q] at h; cases h
    | cons c t =>
      rw [q] at h
      have h' : (u, v) ∈ (z, c) :: adj (c :: t) := h
      rcases List.mem_cons.mp h' with k | k
      · cases k; exact .inl rfl
      · rw [← q] at k
        rcases ih u v k with m | m | ⟨m1, m2⟩
        · exact .inl m
        · exact .inr (.inl m)
        · exact .inr (.inr ⟨adj_cons (adj_cons m1), m2⟩)
  | case4 a b r e ih =>
    intro u v h
    cases q : pt x y z (b :: r) with
    | nil => rw [q] at h; cases h
    | cons c t =>
      rw [q] at h
      have h' : (u, v) ∈ (a, c) :: adj (c :: t) := h
      rcases List.mem_cons.mp h' with k | k
      · cases k
        rcases pt_head _ _ _ q with m | ⟨t', m⟩
        · exact .inr (.inl m)
        · cases m
          exact .inr (.inr ⟨List.mem_cons_self, e⟩)
      · rw [← q] at k
        rcases ih u v k with m | m | ⟨m1, m2⟩
        · exact .inl m
        · exact .inr (.inl m)
        · exact .inr (.inr ⟨adj_cons m1, m2⟩)

theorem pt_all {P : Int → Prop} (hz : P z) (R : List Int) (h : ∀ a ∈ R, P a) : ∀ a ∈ pt x y z R, P a := by
  fun_induction pt x y z R with
  | case1 => exact h
  | case2 a => exact h
  | case3 a b r e ih =>
    intro c hc
    rcases List.mem_cons.mp hc with q | q
    · rw [q]; exact hz
    · exact ih (fun d hd => h d (by simp [hd])) c q
  | case4 a b r e ih =>
    intro c hc
    rcases List.mem_cons.mp hc with q | q
    · rw [q]; exact h a (by simp)
    · exact ih (fun d hd => h d (List.mem_cons_of_mem _ hd)) c q
end pt

theorem adj_len (R : List Int) : (adj R).length = R.length - 1 := by
  fun_induction adj R with
  | case1 => rfl
  | case2 => rfl
  | case3 a b r ih => simp at ih ⊢; omega
theorem adj_mem (R : List Int) : ∀ u v, (u, v) ∈ adj R → u ∈ R ∧ v ∈ R := by
  fun_induction adj R with
  | case1 => intro u v h; cases h
  | case2 => intro u v h; cases h
  | case3 a b r ih =>
    intro u v h
    rcases List.mem_cons.mp h with q | q
    · cases q; simp
    · have := ih u v q
      exact ⟨List.mem_cons_of_mem _ this.1, List.mem_cons_of_mem _ this.2⟩
theorem adj_at (R : List Int) : ∀ (i : Nat) u v, R[i]? = some u → R[i + 1]? = some v → (adj R)[i]? = some (u, v) := by
  fun_induction adj R with
  | case1 => intro i u v h; simp at h
  | case2 => intro i u v h h2; simp at h2
  | case3 a b r ih =>
    intro i u v h h2
    cases i with
    | zero => simp at h h2 ⊢; exact ⟨h, h2⟩
    | succ i =>
      simp at h h2
      rw [List.getElem?_cons_succ]
      exact ih i u v (by simpa using h) (by simpa using h2)
theorem adj_of (R : List Int) : ∀ u v, (u, v) ∈ adj R → ∃ L M, R = L ++ ([u, v] ++ M) := by
  fun_induction adj R with
  | case1 => intro u v h; cases h
  | case2 => intro u v h; cases h
  | case3 a b r ih =>
    intro u v h
    rcases List.mem_cons.mp h with q | q
    · cases q; exact ⟨[], r, rfl⟩
    · obtain ⟨L, M, e⟩ := ih u v q
      exact ⟨a :: L, M, by rw [e]; rfl⟩

theorem stg_app (ps qs : List (Int × Int)) : ∀ (z : Int) (R : List Int), stg z (ps ++ qs) R = stg (z + ps.length) qs (stg z ps R) := by
  induction ps with
  | nil => intro z R; simp [stg]
  | cons p ps ih =>
    intro z R
    show stg (z + 1) (ps ++ qs) _ = _
    rw [ih]
    have e : z + 1 + (ps.length : Int) = z + ((p :: ps).length : Int) := by simp; omega
    rw [e]
    rfl
theorem stg_snoc (ps : List (Int × Int)) (p : Int × Int) (z : Int) (R : List Int) : stg z (ps ++ [p]) R = pt p.1 p.2 (z + ps.length) (stg z ps R) := by
  rw [stg_app]; rfl
theorem stg_split (ps : List (Int × Int)) : ∀ (z : Int) (R A' B' : List Int), stg z ps R = A' ++ B' → ∃ A B, R = A ++ B ∧ stg z ps A = A' ∧ stg z ps B = B' := by
  induction ps with
  | nil => intro z R A' B' h; exact ⟨A', B', h, rfl, rfl⟩
  | cons p ps ih =>
    intro z R A' B' h
    obtain ⟨A1, B1, h1, h2, h3⟩ := ih (z + 1) _ A' B' h
    obtain ⟨A, B, k1, k2, k3⟩ := pt_split R A1 B1 h1
    exact ⟨A, B, k1, by show stg (z + 1) ps (pt p.1 p.2 z A) = A'; rw [k2, h2], by show stg (z + 1) ps (pt p.1 p.2 z B) = B'; rw [k3, h3]⟩
theorem stg_len (ps : List (Int × Int)) : ∀ (z : Int) (R : List Int), (stg z ps R).length ≤ R.length := by
  induction ps with
  | nil => intro z R; exact Nat.le_refl _
  | cons p ps ih => intro z R; exact Nat.le_trans (ih _ _) (pt_len R)
theorem stg_one (ps : List (Int × Int)) (a : Int) : ∀ z : Int, stg z ps [a] = [a] := by
  induction ps with
  | nil => intro z; rfl
  | cons p ps ih => intro z; exact ih (z + 1)
theorem stg_all {P : Int → Prop} (ps : List (Int × Int)) : ∀ (z : Int) (R : List Int), (∀ k : Nat, k < ps.length → P (z + k)) → (∀ a ∈ R, P a) → ∀ a ∈ stg z ps R, P a := by
  induction ps with
  | nil => intro z R _ h; exact h
  | cons p ps ih =>
    intro z R hz h
    refine ih (z + 1) _ (fun k hk => ?_) (pt_all (by simpa using hz 0 (by simp)) R h)
    have := hz (k + 1) (by simp; omega)
    have e : z + ((k + 1 : Nat) : Int) = z + 1 + (k : Int) := by omega
    rw [e] at this
    exact this

/-- each join is of pieces below it -/
def Bound (b : Int) (ps : List (Int × Int)) : Prop := ∀ (k : Nat) p, ps[k]? = some p → (p.1 < b + k ∧ p.2 < b + k) ∧ 0 ≤ p.1 ∧ 0 ≤ p.2

theorem stg_take_none (ps : List (Int × Int)) : ∀ (z : Int) (R : List Int), (∀ p ∈ ps, p ∉ adj R) → stg z ps R = R := by
  induction ps with
  | nil => intro z R _; rfl
  | cons p ps ih =>
    intro z R h
    show stg (z + 1) ps (pt p.1 p.2 z R) = R
    rw [pt_none R (h p List.mem_cons_self)]
    exact ih _ _ fun q hq => h q (List.mem_cons_of_mem _ hq)

/-- the lowest join first, all its places: the row behind all joins is the same -/
theorem low_step {b : Int} {ps : List (Int × Int)} (B : Bound b ps) {m : Nat} {p : Int × Int} {R : List Int} (hm : ps[m]? = some p) (hl : ∀ k : Nat, k < m → ∀ q, ps[k]? = some q → q ∉ adj R) :
    stg b ps (pt p.1 p.2 (b + m) R) = stg b ps R := by
  obtain ⟨hlt, hp⟩ := List.getElem?_eq_some_iff.mp hm
  have e : ps = ps.take m ++ p :: ps.drop (m + 1) := by
    rw [← hp, ← List.drop_eq_getElem_cons hlt, List.take_append_drop]
  have hlen : (ps.take m).length = m := by rw [List.length_take]; omega
  have at_ : ∀ q ∈ ps.take m, ∃ k : Nat, k < m ∧ ps[k]? = some q := fun q hq => by
    obtain ⟨k, hk⟩ := List.mem_iff_getElem?.mp hq
    have hk' : k < m := by
      have := (List.getElem?_eq_some_iff.mp hk).1
      omega
    exact ⟨k, hk', by rw [List.getElem?_take_of_lt hk'] at hk; exact hk⟩
  have h1 : stg b (ps.take m) R = R := stg_take_none _ _ _ fun q hq => by
    obtain ⟨k, hk, hq'⟩ := at_ q hq
    exact hl k hk q hq'
  have h2 : stg b (ps.take m) (pt p.1 p.2 (b + m) R) = pt p.1 p.2 (b + m) R := stg_take_none _ _ _ fun q hq hadj => by
    obtain ⟨k, hk, hq'⟩ := at_ q hq
    have hb := B k q hq'
    rcases adj_pt R q.1 q.2 hadj with z | z | ⟨z, _⟩
    · omega
    · omega
    · exact hl k hk q hq' z
  have h3 : pt p.1 p.2 (b + m) (pt p.1 p.2 (b + m) R) = pt p.1 p.2 (b + m) R := pt_none _ fun hadj => by
    have hb := B m p hm
    rcases adj_pt R p.1 p.2 hadj with z | z | ⟨_, z⟩
    · omega
    · omega
    · exact z ⟨rfl, rfl⟩
  have go : ∀ S : List Int, stg b ps S = stg (b + m + 1) (ps.drop (m + 1)) (pt p.1 p.2 (b + m) (stg b (ps.take m) S)) := fun S => by
    have : stg b ps S = stg b (ps.take m ++ p :: ps.drop (m + 1)) S := by rw [← e]
    rw [this, stg_app, hlen]
    rfl
  rw [go, go, h1, h2, h3]
theorem low_end {b : Int} {ps : List (Int × Int)} {R : List Int} (h : ∀ p ∈ ps, p ∉ adj R) : stg b ps R = R := stg_take_none _ _ _ h

/-- behind all joins no neighbors are a join -/
theorem stg_fin {b : Int} (ps : List (Int × Int)) : Bound b ps → ∀ (R : List Int), ∀ p ∈ ps, p ∉ adj (stg b ps R) := by
  intro B R p hp hadj
  have key : ∀ (n : Nat), n ≤ ps.length → ∀ k q, k < n → ps[k]? = some q → q ∉ adj (stg b (ps.take n) R) := by
    intro n
    induction n with
    | zero => intro _ k q hk; omega
    | succ n ih =>
      intro hn k q hk hq hadj
      have hlt : n < ps.length := hn
      have et : ps.take (n + 1) = ps.take n ++ [ps[n]] := by rw [List.take_add_one, List.getElem?_eq_getElem hlt]; rfl
      rw [et, stg_snoc] at hadj
      have hl : (ps.take n).length = n := by rw [List.length_take]; omega
      rw [hl] at hadj
      have hb := B k q hq
      rcases adj_pt _ q.1 q.2 hadj with z | z | ⟨z, ne⟩
      · omega
      · omega
      · by_cases hkn : k = n
        · subst hkn
          rw [List.getElem?_eq_getElem hlt] at hq
          cases hq
          exact ne ⟨rfl, rfl⟩
        · exact ih (by omega) k q (by omega) hq z
  obtain ⟨k, hk⟩ := List.mem_iff_getElem?.mp hp
  have := key ps.length (Nat.le_refl _) k p (List.getElem?_eq_some_iff.mp hk).1 hk
  rw [List.take_length] at this
  exact this hadj

/-! ### texts -/
abbrev Txt := List Nat
def tat (T : List Txt) (i : Int) : Txt := T.getD i.toNat []
/-- the texts of the pieces -/
def grow (T : List Txt) (p : Int × Int) : List Txt := T ++ [tat T p.1 ++ tat T p.2]
def txsF (T : List Txt) (ps : List (Int × Int)) : List Txt := ps.foldl grow T
def txs (A : Txt) (ps : List (Int × Int)) : List Txt := txsF (A.map fun c => [c]) ps
theorem txs_nil (A : Txt) : txs A [] = A.map fun c => [c] := rfl
theorem txs_app (A : Txt) (ps qs : List (Int × Int)) : txs A (ps ++ qs) = txsF (txs A ps) qs := by
  unfold txs txsF; rw [List.foldl_append]
theorem txs_snoc (A : Txt) (ps : List (Int × Int)) (p : Int × Int) : txs A (ps ++ [p]) = txs A ps ++ [tat (txs A ps) p.1 ++ tat (txs A ps) p.2] := by
  rw [txs_app]; rfl
theorem txsF_len (ps : List (Int × Int)) : ∀ T : List Txt, (txsF T ps).length = T.length + ps.length := by
  induction ps with
  | nil => intro T; rfl
  | cons p ps ih =>
    intro T
    show (txsF (grow T p) ps).length = _
    rw [ih]; unfold grow; simp; omega
theorem txs_len (A : Txt) (ps : List (Int × Int)) : (txs A ps).length = A.length + ps.length := by
  unfold txs; rw [txsF_len]; simp
theorem txsF_pre (ps : List (Int × Int)) : ∀ T : List Txt, ∃ U, txsF T ps = T ++ U := by
  induction ps with
  | nil => intro T; exact ⟨[], by simp [txsF]⟩
  | cons p ps ih =>
    intro T
    obtain ⟨U, h⟩ := ih (grow T p)
    exact ⟨[tat T p.1 ++ tat T p.2] ++ U, by show txsF (grow T p) ps = _; rw [h]; unfold grow; simp⟩
theorem tat_pre {T U : List Txt} {i : Int} (h0 : 0 ≤ i) (h : i < T.length) : tat (T ++ U) i = tat T i := by
  unfold tat
  have h1 : i.toNat < T.length := by omega
  rw [List.getD_eq_getElem?_getD, List.getD_eq_getElem?_getD, List.getElem?_append_left h1]
theorem tat_take {A : Txt} {ps : List (Int × Int)} {r : Nat} {i : Int} (h0 : 0 ≤ i) (h : i < A.length + (ps.take r).length) : tat (txs A ps) i = tat (txs A (ps.take r)) i := by
  have e : ps = ps.take r ++ ps.drop r := (List.take_append_drop r ps).symm
  have : txs A ps = txsF (txs A (ps.take r)) (ps.drop r) := by rw [← txs_app, List.take_append_drop]
  obtain ⟨U, hU⟩ := txsF_pre (ps.drop r) (txs A (ps.take r))
  rw [this, hU]
  exact tat_pre h0 (by rw [txs_len]; omega)
theorem tat_letter {A : Txt} {ps : List (Int × Int)} {i : Nat} {c : Nat} (h : A[i]? = some c) : tat (txs A ps) i = [c] := by
  have hl := (List.getElem?_eq_some_iff.mp h).1
  have := tat_take (A := A) (ps := ps) (r := 0) (i := (i : Int)) (by omega) (by simp; omega)
  rw [this]
  unfold tat txs txsF
  simp [h]
theorem tat_join {A : Txt} {ps : List (Int × Int)} {r : Nat} {p : Int × Int} (h : ps[r]? = some p) (B : Bound A.length ps) :
    tat (txs A ps) ((A.length : Int) + r) = tat (txs A ps) p.1 ++ tat (txs A ps) p.2 := by
  have hl := (List.getElem?_eq_some_iff.mp h).1
  have hb := B r p h
  have ht : (ps.take (r + 1)) = ps.take r ++ [p] := by rw [List.take_add_one, h]; rfl
  have hl1 : (ps.take r).length = r := by rw [List.length_take]; omega
  have q1 := tat_take (A := A) (ps := ps) (r := r) (i := p.1) hb.2.1 (by rw [hl1]; omega)
  have q2 := tat_take (A := A) (ps := ps) (r := r) (i := p.2) hb.2.2 (by rw [hl1]; omega)
  rw [tat_take (r := r + 1) (i := (A.length : Int) + r) (by omega) (by rw [ht]; simp [hl1]; omega), ht, txs_snoc, q1, q2]
  unfold tat
  have e : ((A.length : Int) + r).toNat = (txs A (ps.take r)).length := by rw [txs_len, hl1]; omega
  rw [List.getD_eq_getElem?_getD, e, List.getElem?_append_right (Nat.le_refl _)]
  simp

/-- the row of the letters of a text -/
def lets (A : Txt) (s : Txt) : List Int := s.map fun c => ((A.idxOf c : Nat) : Int)
/-- the text of a row -/
def tor (T : List Txt) (R : List Int) : Txt := (R.map (tat T)).flatten
theorem tor_pt {T : List Txt} {x y z : Int} (h : tat T z = tat T x ++ tat T y) (R : List Int) : tor T (pt x y z R) = tor T R := by
  fun_induction pt x y z R with
  | case1 => rfl
  | case2 => rfl
  | case3 a b r e ih =>
    obtain ⟨rfl, rfl⟩ := e
    unfold tor at ih ⊢
    simp [ih, h]
  | case4 a b r e ih =>
    unfold tor at ih ⊢
    rw [List.map_cons, List.flatten_cons, ih]
    simp
theorem tor_stg {T : List Txt} (ps : List (Int × Int)) : ∀ (z : Int), (∀ (k : Nat) p, ps[k]? = some p → tat T (z + k) = tat T p.1 ++ tat T p.2) → ∀ R, tor T (stg z ps R) = tor T R := by
  induction ps with
  | nil => intro z _ R; rfl
  | cons p ps ih =>
    intro z h R
    show tor T (stg (z + 1) ps (pt p.1 p.2 z R)) = _
    rw [ih (z + 1) (fun k q hq => ?_), tor_pt (by simpa using h 0 p rfl)]
    have := h (k + 1) q (by simpa using hq)
    have e : z + ((k + 1 : Nat) : Int) = z + 1 + (k : Int) := by omega
    rw [e] at this
    exact this
theorem tor_lets {A : Txt} {ps : List (Int × Int)} : ∀ s : Txt, (∀ c ∈ s, c ∈ A) → tor (txs A ps) (lets A s) = s
  | [], _ => rfl
  | c :: s, h => by
    have ih := tor_lets (ps := ps) s fun d hd => h d (List.mem_cons_of_mem _ hd)
    have hc : c ∈ A := h c List.mem_cons_self
    have hi : A[A.idxOf c]? = some c := by
      rw [List.getElem?_eq_getElem (List.idxOf_lt_length_of_mem hc)]
      exact congrArg some (List.getElem_idxOf _)
    unfold tor lets at ih ⊢
    rw [List.map_cons, List.map_cons, List.flatten_cons, ih, tat_letter hi]
    rfl
theorem lets_all {A : Txt} {s : Txt} (h : ∀ c ∈ s, c ∈ A) : ∀ a ∈ lets A s, 0 ≤ a ∧ a < A.length := by
  intro a ha
  obtain ⟨c, hc, rfl⟩ := List.mem_map.mp ha
  have := List.idxOf_lt_length_of_mem (h c hc)
  omega

/-- the pair p may be the next join behind ps -/
structure OkP (A : Txt) (ps : List (Int × Int)) (p : Int × Int) : Prop where
  l0 : 0 ≤ p.1
  l1 : p.1 < A.length + ps.length
  r0 : 0 ≤ p.2
  r1 : p.2 < A.length + ps.length
  len : (tat (txs A ps) p.1 ++ tat (txs A ps) p.2).length ≤ 40
  cut : stg A.length ps (lets A (tat (txs A ps) p.1 ++ tat (txs A ps) p.2)) = [p.1, p.2]
def Proper (A : Txt) (ps : List (Int × Int)) : Prop := ∀ (r : Nat) p, ps[r]? = some p → OkP A (ps.take r) p

section proper
variable {A : Txt} {ps : List (Int × Int)}
theorem Proper.nil : Proper A [] := fun r p h => by simp at h
theorem Proper.bound (h : Proper A ps) : Bound A.length ps := fun k p hk => by
  have o := h k p hk
  have hl := (List.getElem?_eq_some_iff.mp hk).1
  have h1 := o.l1
  have h2 := o.r1
  rw [List.length_take] at h1 h2
  exact ⟨by omega, o.l0, o.r0⟩
theorem Proper.take (h : Proper A ps) (n : Nat) : Proper A (ps.take n) := fun r p hr => by
  have hl := (List.getElem?_eq_some_iff.mp hr).1
  rw [List.length_take] at hl
  have e : (ps.take n).take r = ps.take r := by rw [List.take_take]; congr 1; omega
  rw [e]
  exact h r p (by rw [List.getElem?_take_of_lt (by omega)] at hr; exact hr)
theorem Proper.snoc (h : Proper A ps) {p : Int × Int} (o : OkP A ps p) : Proper A (ps ++ [p]) := fun r q hr => by
  by_cases hl : r < ps.length
  · rw [List.getElem?_append_left hl] at hr
    rw [List.take_append_of_le_length (by omega)]
    exact h r q hr
  · have hl' := (List.getElem?_eq_some_iff.mp hr).1
    simp at hl'
    have e : r = ps.length := by omega
    subst e
    simp at hr
    subst hr
    simpa using o
theorem Proper.nonneg (h : Proper A ps) : ∀ p ∈ ps, 0 ≤ p.1 ∧ 0 ≤ p.2 := fun p hp => by
  obtain ⟨k, hk⟩ := List.mem_iff_getElem?.mp hp
  exact ⟨(h k p hk).l0, (h k p hk).r0⟩
theorem OkP.new (h : Proper A ps) {p : Int × Int} (o : OkP A ps p) : p ∉ ps := fun hp => by
  have := stg_fin ps h.bound (lets A (tat (txs A ps) p.1 ++ tat (txs A ps) p.2)) p hp
  rw [o.cut] at this
  exact this List.mem_cons_self
theorem Proper.nodup (h : Proper A ps) : ps.Nodup := by
  have key : ∀ n, n ≤ ps.length → (ps.take n).Nodup := by
    intro n
    induction n with
    | zero => intro _; simp
    | succ n ih =>
      intro hn
      have hlt : n < ps.length := hn
      have hk : ps[n]? = some ps[n] := List.getElem?_eq_getElem hlt
      have et : ps.take (n + 1) = ps.take n ++ [ps[n]] := by rw [List.take_add_one, hk]; rfl
      rw [et, List.nodup_append]
      refine ⟨ih (by omega), by simp, fun a ha b hb => ?_⟩
      have : b = ps[n] := by simpa using hb
      rw [this]
      intro e
      rw [e] at ha
      exact (h n _ hk).new (h.take n) ha
  have := key ps.length (Nat.le_refl _)
  rwa [List.take_length] at this
/-- all signs of all texts are letters, texts are not empty and of at most 40 letters -/
theorem Proper.texts (h : Proper A ps) : ∀ i : Int, 0 ≤ i → i < A.length + ps.length → (∀ c ∈ tat (txs A ps) i, c ∈ A) ∧ 1 ≤ (tat (txs A ps) i).length ∧ (tat (txs A ps) i).length ≤ 40 := by
  have key : ∀ n : Nat, ∀ i : Int, i.toNat < n → 0 ≤ i → i < A.length + ps.length → (∀ c ∈ tat (txs A ps) i, c ∈ A) ∧ 1 ≤ (tat (txs A ps) i).length ∧ (tat (txs A ps) i).length ≤ 40 := by
    intro n
    induction n with
    | zero => intro i hi; omega
    | succ n ih =>
      intro i hi h0 h1
      by_cases hA : i < A.length
      · have hlt : i.toNat < A.length := by omega
        have hk : A[i.toNat]? = some A[i.toNat] := List.getElem?_eq_getElem hlt
        have e : ((i.toNat : Nat) : Int) = i := by omega
        have := tat_letter (ps := ps) hk
        rw [e] at this
        rw [this]
        refine ⟨fun c hc => ?_, by simp, by simp⟩
        have : c = A[i.toNat] := by simpa using hc
        rw [this]
        exact List.getElem_mem _
      · obtain ⟨r, hr⟩ : ∃ r : Nat, i = A.length + r := ⟨(i - A.length).toNat, by omega⟩
        have hlt : r < ps.length := by omega
        have hk : ps[r]? = some ps[r] := List.getElem?_eq_getElem hlt
        have o := h r _ hk
        have hb := h.bound r _ hk
        have hl1 : (ps.take r).length = r := by rw [List.length_take]; omega
        have e1 := tat_take (A := A) (ps := ps) (r := r) (i := (ps[r]).1) o.l0 (by rw [hl1]; omega)
        have e2 := tat_take (A := A) (ps := ps) (r := r) (i := (ps[r]).2) o.r0 (by rw [hl1]; omega)
        have hlen := o.len
        rw [← e1, ← e2] at hlen
        rw [hr, tat_join hk h.bound]
        have i1 := ih (ps[r]).1 (by have := o.l0; omega) o.l0 (by omega)
        have i2 := ih (ps[r]).2 (by have := o.r0; omega) o.r0 (by omega)
        refine ⟨fun c hc => ?_, ?_, hlen⟩
        · rcases List.mem_append.mp hc with q | q
          · exact i1.1 c q
          · exact i2.1 c q
        · rw [List.length_append]
          have := i1.2.1
          omega
  intro i h0 h1
  exact key (i.toNat + 1) i (by omega) h0 h1
theorem Proper.tor (h : Proper A ps) (R : List Int) : tor (txs A ps) (stg A.length ps R) = tor (txs A ps) R :=
  tor_stg ps _ (fun _ _ hk => tat_join hk h.bound) R
/-- two neighbors in a cut are the cut of their text: a list stays proper -/
theorem nbr_ok (h : Proper A ps) {s : Txt} (hs : ∀ c ∈ s, c ∈ A) {p : Int × Int} (hp : p ∈ adj (stg A.length ps (lets A s))) (hl : (tat (txs A ps) p.1 ++ tat (txs A ps) p.2).length ≤ 40) : OkP A ps p := by
  obtain ⟨x, y⟩ := p
  have rng : ∀ a ∈ stg (A.length : Int) ps (lets A s), 0 ≤ a ∧ a < A.length + ps.length :=
    stg_all (P := fun a => 0 ≤ a ∧ a < A.length + ps.length) ps _ _ (fun _ _ => by omega) fun a ha => by
      have := lets_all hs a ha
      omega
  obtain ⟨m1, m2⟩ := adj_mem _ x y hp
  obtain ⟨L, M, e⟩ := adj_of _ x y hp
  obtain ⟨R1, R2, e1, e2, e3⟩ := stg_split ps _ _ _ _ e
  obtain ⟨R3, R4, e4, e5, e6⟩ := stg_split ps _ _ _ _ e3
  subst e4
  unfold lets at e1
  obtain ⟨s1, s2, f1, f2, f3⟩ := List.map_eq_append_iff.mp e1
  obtain ⟨s3, s4, g1, g2, g3⟩ := List.map_eq_append_iff.mp f3
  have hs3 : ∀ c ∈ s3, c ∈ A := fun c hc => hs c (by rw [f1, g1]; simp [hc])
  have g2' : lets A s3 = R3 := g2
  have t1 : tor (txs A ps) [x, y] = s3 := by rw [← e5, h.tor, ← g2', tor_lets s3 hs3]
  have t2 : tor (txs A ps) [x, y] = tat (txs A ps) x ++ tat (txs A ps) y := by unfold tor; simp
  refine ⟨(rng x m1).1, (rng x m1).2, (rng y m2).1, (rng y m2).2, hl, ?_⟩
  show stg A.length ps (lets A (tat (txs A ps) x ++ tat (txs A ps) y)) = [x, y]
  rw [← t2, t1, g2', e5]
end proper
end Rj
end
section
/-! Rankedjoins: the mathematics of learning. -/
set_option autoImplicit false
namespace Rj

/-! ### totals: a list of (pair, total), in the order of their first place -/
abbrev Tot := List ((Int × Int) × Int)
def lk (E : Tot) (p : Int × Int) : Option Int := (E.find? fun e => decide (e.1 = p)).map (·.2)
def lk0 (E : Tot) (p : Int × Int) : Int := (lk E p).getD 0
def putT (E : Tot) (p : Int × Int) (v : Int) : Tot :=
  if (E.any fun e => decide (e.1 = p)) = true then E.map (fun e => if e.1 = p then (e.1, v) else e) else E ++ [(p, v)]
def addP (c : Int) (E : Tot) (p : Int × Int) : Tot := putT E p (lk0 E p + c)
def addR (E : Tot) (R : List Int) (c : Int) : Tot := (adj R).foldl (addP c) E
abbrev Corpus := List (Txt × Int)
def addC (cut : Txt → List Int) (E : Tot) (C : Corpus) : Tot := C.foldl (fun E e => addR E (cut e.1) e.2) E

theorem any_iff (E : Tot) (p : Int × Int) : (E.any fun e => decide (e.1 = p)) = true ↔ p ∈ E.map (·.1) := by
  simp [List.any_eq_true]
theorem lk_put (E : Tot) (p q : Int × Int) (v : Int) : lk (putT E p v) q = if q = p then some v else lk E q := by
  unfold putT
  split
  · rename_i h
    induction E with
    | nil => simp at h
    | cons e E ih =>
      unfold lk at ih ⊢
      by_cases h1 : e.1 = p
      · by_cases h2 : q = p
        · subst h2; simp [h1]
        · have h3 : ¬ p = q := fun z => h2 z.symm
          by_cases h4 : (E.any fun e => decide (e.1 = p)) = true
          · have := ih h4
            simp only [if_neg h2] at this
            simp only [List.map_cons, List.find?_cons, h1, h3, decide_false, if_neg h2, if_true]
            exact this
          · have hE : E.map (fun e => if e.1 = p then (e.1, v) else e) = E := by
              have : ∀ e ∈ E, (if e.1 = p then (e.1, v) else e) = e := fun e he => by
                rw [if_neg]
                intro z
                exact h4 (List.any_eq_true.mpr ⟨e, he, by simp [z]⟩)
              rw [List.map_congr_left this]; simp
            simp only [List.map_cons, hE]
            simp [h1, h2, h3]
      · have h4 : (E.any fun e => decide (e.1 = p)) = true := by simpa [h1] using h
        have := ih h4
        by_cases h5 : e.1 = q
        · have h6 : ¬ q = p := fun z => h1 (h5.trans z)
          simp [h5, h6]
        · simp only [List.map_cons, if_neg h1, List.find?_cons, h5, decide_false]
          exact this
  · rename_i h
    unfold lk
    rw [List.find?_append]
    by_cases h2 : q = p
    · subst h2
      have : E.find? (fun e => decide (e.1 = q)) = none := by
        rw [List.find?_eq_none]
        intro e he
        simp
        intro z
        exact h (List.any_eq_true.mpr ⟨e, he, by simp [z]⟩)
      simp [this]
    · have h3 : ¬ p = q := fun z => h2 z.symm
      simp [h2, h3]
theorem keys_put (E : Tot) (p : Int × Int) (v : Int) : (putT E p v).map (·.1) = if p ∈ E.map (·.1) then E.map (·.1) else E.map (·.1) ++ [p] := by
  unfold putT
  by_cases h : p ∈ E.map (·.1)
  · rw [if_pos ((any_iff E p).mpr h), if_pos h, List.map_map]
    refine List.map_congr_left fun e _ => ?_
    show (if e.1 = p then (e.1, v) else e).1 = e.1
    split <;> rfl
  · rw [if_neg (fun z => h ((any_iff E p).mp z)), if_neg h]
    simp
theorem nd_put {E : Tot} (h : (E.map (·.1)).Nodup) (p : Int × Int) (v : Int) : ((putT E p v).map (·.1)).Nodup := by
  rw [keys_put]
  split
  · exact h
  · rename_i hn
    rw [List.nodup_append]
    exact ⟨h, by simp, fun a ha b hb e => by
      have : b = p := by simpa using hb
      subst this
      subst e
      exact hn ha⟩
theorem lk0_add (c : Int) (E : Tot) (p q : Int × Int) : lk0 (addP c E p) q = lk0 E q + if q = p then c else 0 := by
  unfold addP
  show (lk (putT E p _) q).getD 0 = _
  rw [lk_put]
  by_cases h : q = p
  · subst h; simp
  · simp [h, lk0]
theorem lk0_foldP (c : Int) (q : Int × Int) : ∀ (l : List (Int × Int)) (E : Tot), lk0 (l.foldl (addP c) E) q = lk0 E q + c * ((l.count q : Nat) : Int)
  | [], E => by simp
  | p :: l, E => by
    rw [List.foldl_cons, lk0_foldP c q l, lk0_add, List.count_cons]
    by_cases h : q = p
    · subst h
      simp
      rw [Int.mul_add]; omega
    · have h' : (p == q) = false := by simp; exact fun z => h z.symm
      simp [h, h']
theorem keys_foldP (c : Int) (q : Int × Int) : ∀ (l : List (Int × Int)) (E : Tot), q ∈ (l.foldl (addP c) E).map (·.1) ↔ q ∈ E.map (·.1) ∨ q ∈ l
  | [], E => by simp
  | p :: l, E => by
    rw [List.foldl_cons, keys_foldP c q l]
    unfold addP
    rw [keys_put]
    split
    · rename_i h
      constructor
      · rintro (h1 | h1)
        · exact .inl h1
        · exact .inr (List.mem_cons_of_mem _ h1)
      · rintro (h1 | h1)
        · exact .inl h1
        · rcases List.mem_cons.mp h1 with rfl | h2
          · exact .inl h
          · exact .inr h2
    · simp only [List.mem_append, List.mem_cons, List.not_mem_nil, or_false, or_assoc]
theorem nd_foldP (c : Int) : ∀ (l : List (Int × Int)) (E : Tot), (E.map (·.1)).Nodup → ((l.foldl (addP c) E).map (·.1)).Nodup
  | [], _, h => h
  | _ :: l, _, h => nd_foldP c l _ (nd_put h _ _)
theorem len_put (E : Tot) (p : Int × Int) (v : Int) : (putT E p v).length ≤ E.length + 1 := by
  unfold putT
  split
  · simp
  · simp
theorem len_foldP (c : Int) : ∀ (l : List (Int × Int)) (E : Tot), (l.foldl (addP c) E).length ≤ E.length + l.length
  | [], _ => by simp
  | p :: l, E => by
    have h1 := len_foldP c l (addP c E p)
    have h2 := len_put E p (lk0 E p + c)
    rw [List.foldl_cons, List.length_cons]
    unfold addP at h1 ⊢
    omega
/-- how often, weighed -/
def wt (cut : Txt → List Int) (q : Int × Int) (C : Corpus) : Int := (C.map fun e => e.2 * (((adj (cut e.1)).count q : Nat) : Int)).sum
theorem lk0_addC (cut : Txt → List Int) (q : Int × Int) : ∀ (C : Corpus) (E : Tot), lk0 (addC cut E C) q = lk0 E q + wt cut q C
  | [], E => by simp [addC, wt]
  | e :: C, E => by
    have ih := lk0_addC cut q C (addR E (cut e.1) e.2)
    unfold addC at ih ⊢
    rw [List.foldl_cons, ih]
    unfold addR wt
    rw [lk0_foldP, List.map_cons, List.sum_cons]
    omega
theorem keys_addC (cut : Txt → List Int) (q : Int × Int) : ∀ (C : Corpus) (E : Tot), q ∈ (addC cut E C).map (·.1) ↔ q ∈ E.map (·.1) ∨ ∃ e ∈ C, q ∈ adj (cut e.1)
  | [], E => by simp [addC]
  | e :: C, E => by
    have ih := keys_addC cut q C (addR E (cut e.1) e.2)
    unfold addC at ih ⊢
    rw [List.foldl_cons, ih]
    unfold addR
    rw [keys_foldP]
    simp only [List.mem_cons, exists_eq_or_imp, or_assoc]
theorem nd_addC (cut : Txt → List Int) : ∀ (C : Corpus) (E : Tot), (E.map (·.1)).Nodup → ((addC cut E C).map (·.1)).Nodup
  | [], _, h => h
  | _ :: C, _, h => nd_addC cut C _ (nd_foldP _ _ _ h)
theorem lk_mem {E : Tot} (h : (E.map (·.1)).Nodup) {e : (Int × Int) × Int} (he : e ∈ E) : lk E e.1 = some e.2 := by
  induction E with
  | nil => cases he
  | cons f E ih =>
    unfold lk at ih ⊢
    rw [List.map_cons, List.nodup_cons] at h
    rcases List.mem_cons.mp he with rfl | he
    · simp
    · have : ¬ f.1 = e.1 := fun z => h.1 (z ▸ List.mem_map_of_mem he)
      simp only [List.find?_cons, this, decide_false]
      exact ih h.2 he
theorem mem_keys {E : Tot} {q : Int × Int} (h : q ∈ E.map (·.1)) : ∃ t, (q, t) ∈ E := by
  obtain ⟨e, he, rfl⟩ := List.mem_map.mp h
  exact ⟨e.2, he⟩
theorem wt_nonneg_zero {cut : Txt → List Int} {q : Int × Int} {C : Corpus} (h : ∀ e ∈ C, q ∉ adj (cut e.1)) : wt cut q C = 0 := by
  induction C with
  | nil => rfl
  | cons e C ih =>
    have h1 : (adj (cut e.1)).count q = 0 := List.count_eq_zero.mpr (h e List.mem_cons_self)
    have h2 := ih fun f hf => h f (List.mem_cons_of_mem _ hf)
    unfold wt at h2 ⊢
    rw [List.map_cons, List.sum_cons, h1, h2]
    simp

/-! ### the first one -/
/-- e stands ahead of f or is f: descending totals, ascending pairs -/
def le2 (e f : (Int × Int) × Int) : Bool := decide (f.2 < e.2) || (decide (e.2 = f.2) && (decide (e.1.1 < f.1.1) || (decide (e.1.1 = f.1.1) && decide (e.1.2 ≤ f.1.2))))
theorem le2_iff (e f : (Int × Int) × Int) : le2 e f = true ↔ f.2 < e.2 ∨ (e.2 = f.2 ∧ (e.1.1 < f.1.1 ∨ (e.1.1 = f.1.1 ∧ e.1.2 ≤ f.1.2))) := by
  unfold le2; simp
theorem le2_total (e f : (Int × Int) × Int) : le2 e f = true ∨ le2 f e = true := by rw [le2_iff, le2_iff]; omega
theorem le2_trans {e f g : (Int × Int) × Int} (h1 : le2 e f = true) (h2 : le2 f g = true) : le2 e g = true := by rw [le2_iff] at *; omega
theorem le2_anti {e f : (Int × Int) × Int} (h1 : le2 e f = true) (h2 : le2 f e = true) : e = f := by
  rw [le2_iff] at *
  obtain ⟨⟨a, b⟩, c⟩ := e
  obtain ⟨⟨a', b'⟩, c'⟩ := f
  simp only at *
  have e1 : c = c' := by omega
  have e2 : a = a' := by omega
  have e3 : b = b' := by omega
  subst e1; subst e2; subst e3; rfl
def best : Tot → Option ((Int × Int) × Int)
  | [] => none
  | e :: E => match best E with
    | none => some e
    | some f => if le2 e f then some e else some f
theorem best_mem : ∀ {E : Tot} {h}, best E = some h → h ∈ E ∧ ∀ e ∈ E, le2 h e = true
  | [], h, e => by cases e
  | e :: E, h, q => by
    unfold best at q
    cases hb : best E with
    | none =>
      rw [hb] at q
      simp at q
      subst q
      cases E with
      | nil => exact ⟨by simp, fun f hf => by
          have : f = e := by simpa using hf
          subst this
          rw [le2_iff]; omega⟩
      | cons f E =>
        unfold best at hb
        split at hb
        · cases hb
        · split at hb <;> cases hb
    | some f =>
      rw [hb] at q
      obtain ⟨h1, h2⟩ := best_mem hb
      simp only at q
      split at q
      · rename_i hl
        cases q
        refine ⟨by simp, fun g hg => ?_⟩
        rcases List.mem_cons.mp hg with rfl | hg
        · rw [le2_iff]; omega
        · exact le2_trans hl (h2 g hg)
      · rename_i hl
        cases q
        refine ⟨List.mem_cons_of_mem _ h1, fun g hg => ?_⟩
        rcases List.mem_cons.mp hg with rfl | hg
        · exact (le2_total _ _).resolve_left hl
        · exact h2 g hg
theorem best_none {E : Tot} : best E = none ↔ E = [] := by
  cases E with
  | nil => simp [best]
  | cons e E =>
    unfold best
    cases best E with
    | none => simp
    | some f => simp only; split <;> simp
theorem best_eq {E : Tot} {h} (hm : h ∈ E) (ha : ∀ e ∈ E, le2 h e = true) : best E = some h := by
  cases hb : best E with
  | none =>
    rw [best_none.mp hb] at hm
    cases hm
  | some f =>
    obtain ⟨h1, h2⟩ := best_mem hb
    rw [le2_anti (h2 h hm) (ha f h1)]

/-! ### learning -/
def cutM (A : Txt) (ps : List (Int × Int)) (s : Txt) : List Int := stg A.length ps (lets A s)
def totM (A : Txt) (ps : List (Int × Int)) (C : Corpus) : Tot := addC (cutM A ps) [] C
def nxt (A : Txt) (ps : List (Int × Int)) (C : Corpus) : Option (Int × Int) :=
  match best (totM A ps C) with
  | none => none
  | some (p, t) => if t < 2 then none else if (tat (txs A ps) p.1).length + (tat (txs A ps) p.2).length > 40 then none else some p
def lrn (A : Txt) (C : Corpus) : Nat → List (Int × Int) → List (Int × Int)
  | 0, ps => ps
  | k + 1, ps => match nxt A ps C with
    | none => ps
    | some p => lrn A C k (ps ++ [p])
def OverA (A : Txt) (C : Corpus) : Prop := ∀ e ∈ C, ∀ c ∈ e.1, c ∈ A

theorem nxt_ok {A : Txt} {ps : List (Int × Int)} {C : Corpus} (P : Proper A ps) (hC : OverA A C) {p : Int × Int} (h : nxt A ps C = some p) : OkP A ps p := by
  unfold nxt at h
  cases hb : best (totM A ps C) with
  | none => rw [hb] at h; cases h
  | some f =>
    obtain ⟨q, t⟩ := f
    rw [hb] at h
    simp only at h
    split at h
    · cases h
    · split at h
      · cases h
      · rename_i h1 h2
        cases h
        obtain ⟨hm, _⟩ := best_mem hb
        have hk : p ∈ (totM A ps C).map (·.1) := List.mem_map_of_mem (f := (·.1)) hm
        unfold totM at hk
        rw [keys_addC] at hk
        rcases hk with hk | ⟨e, he, hk⟩
        · cases hk
        · exact nbr_ok P (hC e he) hk (by rw [List.length_append]; omega)
theorem lrn_pre {A : Txt} {C : Corpus} : ∀ (k : Nat) (ps : List (Int × Int)), ∃ qs, lrn A C k ps = ps ++ qs ∧ qs.length ≤ k
  | 0, ps => ⟨[], by simp [lrn], by simp⟩
  | k + 1, ps => by
    unfold lrn
    cases h : nxt A ps C with
    | none => exact ⟨[], by simp, by simp⟩
    | some p =>
      obtain ⟨qs, h1, h2⟩ := lrn_pre (A := A) (C := C) k (ps ++ [p])
      exact ⟨p :: qs, by simp only; rw [h1]; simp, by simp; omega⟩
theorem lrn_proper {A : Txt} {C : Corpus} (hC : OverA A C) : ∀ (k : Nat) (ps : List (Int × Int)), Proper A ps → Proper A (lrn A C k ps)
  | 0, _, P => P
  | k + 1, ps, P => by
    unfold lrn
    cases h : nxt A ps C with
    | none => exact P
    | some p => exact lrn_proper hC k _ (P.snoc (nxt_ok P hC h))
/-- fewer joins: the first part -/
theorem lrn_few {A : Txt} {C : Corpus} : ∀ (k f : Nat) (ps : List (Int × Int)), f + ps.length ≤ (lrn A C k ps).length → lrn A C f ps = (lrn A C k ps).take (f + ps.length)
  | k, 0, ps, h => by
    obtain ⟨qs, h1, _⟩ := lrn_pre (A := A) (C := C) k ps
    rw [h1]
    simp [lrn]
  | 0, f + 1, ps, h => by
    simp [lrn] at h
    omega
  | k + 1, f + 1, ps, h => by
    unfold lrn at h ⊢
    cases hn : nxt A ps C with
    | none =>
      rw [hn] at h
      simp only at h
      omega
    | some p =>
      rw [hn] at h
      simp only at h ⊢
      have := lrn_few (A := A) (C := C) k f (ps ++ [p]) (by simp; omega)
      rw [this]
      congr 1
      simp
      omega

/-! ### every proper list is learnt from its own corpus -/
def corpusFrom (A : Txt) (ps : List (Int × Int)) : Corpus := (List.range ps.length).map fun (r : Nat) => (tat (txs A ps) ((A.length : Int) + (r : Int)), (2 : Int) * (40 : Int) ^ (ps.length - 1 - r : Nat))

section own
variable {A : Txt} {ps : List (Int × Int)}
theorem text_of_join (P : Proper A ps) {r' : Nat} {p : Int × Int} (h : ps[r']? = some p) :
    tat (txs A ps) ((A.length : Int) + r') = tat (txs A (ps.take r')) p.1 ++ tat (txs A (ps.take r')) p.2 := by
  have o := P r' p h
  have hl := (List.getElem?_eq_some_iff.mp h).1
  rw [tat_join h P.bound, tat_take o.l0 o.l1, tat_take o.r0 o.r1]
theorem cut_same (P : Proper A ps) {r : Nat} {p : Int × Int} (h : ps[r]? = some p) : cutM A (ps.take r) (tat (txs A ps) ((A.length : Int) + r)) = [p.1, p.2] := by
  rw [text_of_join P h]
  exact (P r p h).cut
theorem cut_below (P : Proper A ps) {r' r : Nat} {p : Int × Int} (h : ps[r']? = some p) (hr : r' < r) : cutM A (ps.take r) (tat (txs A ps) ((A.length : Int) + r')) = [(A.length : Int) + r'] := by
  have hl := (List.getElem?_eq_some_iff.mp h).1
  have e : ps.take r = ps.take r' ++ (p :: (ps.take r).drop (r' + 1)) := by
    have hr2 : (ps.take r)[r']? = some p := by rw [List.getElem?_take_of_lt hr]; exact h
    obtain ⟨hlt, hp⟩ := List.getElem?_eq_some_iff.mp hr2
    have e2 : (ps.take r).take r' = ps.take r' := by rw [List.take_take]; congr 1; omega
    rw [← e2, ← hp, ← List.drop_eq_getElem_cons hlt, List.take_append_drop]
  have hlen : (ps.take r').length = r' := by rw [List.length_take]; omega
  have c := cut_same P h
  unfold cutM at c ⊢
  rw [e, stg_app, c, hlen]
  show stg _ _ (pt p.1 p.2 _ [p.1, p.2]) = _
  rw [pt_yes ⟨rfl, rfl⟩, pt_nil, stg_one]
theorem row_len (P : Proper A ps) {r' r : Nat} (h : r' < ps.length) : (cutM A (ps.take r) (tat (txs A ps) ((A.length : Int) + r'))).length ≤ 40 := by
  unfold cutM
  have h1 := stg_len (ps.take r) A.length (lets A (tat (txs A ps) ((A.length : Int) + r')))
  have h2 := (P.texts ((A.length : Int) + r') (by omega) (by omega)).2.2
  have h3 : (lets A (tat (txs A ps) ((A.length : Int) + r'))).length = (tat (txs A ps) ((A.length : Int) + r')).length := by unfold lets; simp
  omega
theorem sum_map_le {α : Type} (f g : α → Int) : ∀ l : List α, (∀ a ∈ l, f a ≤ g a) → (l.map f).sum ≤ (l.map g).sum
  | [], _ => by simp
  | a :: l, h => by
    have := sum_map_le f g l fun b hb => h b (List.mem_cons_of_mem _ hb)
    have h1 := h a List.mem_cons_self
    rw [List.map_cons, List.map_cons, List.sum_cons, List.sum_cons]
    omega
theorem geo (n : Nat) : ∀ m, m ≤ n → (((List.range m).map fun j => (39 : Int) * (2 * 40 ^ j)).sum) = 2 * ((40 : Int) ^ m - 1)
  | 0, _ => by simp
  | m + 1, h => by
    rw [List.range_succ, List.map_append, List.sum_append, geo n m (by omega)]
    simp
    rw [Int.pow_succ]
    omega
/-- the weights of the texts behind r, 39 places each, are below r's own -/
theorem tail_sum : ∀ (n r : Nat), r < n → (((List.range n).map fun r' => if r < r' then (39 : Int) * (2 * 40 ^ (n - 1 - r')) else 0).sum) = 2 * ((40 : Int) ^ (n - 1 - r) - 1) := by
  intro n r h
  have e1 : List.range n = List.range (r + 1) ++ (List.range (n - 1 - r)).map (fun j => r + 1 + j) := by
    have : n = (r + 1) + (n - 1 - r) := by omega
    conv => lhs; rw [this]
    rw [List.range_add]
  rw [e1, List.map_append, List.sum_append]
  have z1 : (((List.range (r + 1)).map fun r' => if r < r' then (39 : Int) * (2 * 40 ^ (n - 1 - r')) else 0).sum) = 0 := by
    have : ((List.range (r + 1)).map fun r' => if r < r' then (39 : Int) * (2 * 40 ^ (n - 1 - r')) else 0) = (List.range (r + 1)).map fun _ => (0 : Int) := by
      refine List.map_congr_left fun a ha => ?_
      have := List.mem_range.mp ha
      rw [if_neg (by omega)]
    rw [this]
    have z : ∀ l : List Nat, (l.map fun _ => (0 : Int)).sum = 0 := by
      intro l
      induction l with
      | nil => rfl
      | cons a l ih => rw [List.map_cons, List.sum_cons, ih]; rfl
    exact z _
  rw [z1, List.map_map]
  have e2 : ((List.range (n - 1 - r)).map ((fun r' => if r < r' then (39 : Int) * (2 * 40 ^ (n - 1 - r')) else 0) ∘ fun j => r + 1 + j)) = ((List.range (n - 1 - r)).map fun j => (39 : Int) * (2 * 40 ^ ((n - 1 - r) - 1 - j))) := by
    refine List.map_congr_left fun j hj => ?_
    have := List.mem_range.mp hj
    show (if r < r + 1 + j then _ else _) = _
    have e0 : n - 1 - (r + 1 + j) = (n - 1 - r) - 1 - j := by omega
    show (if r < r + 1 + j then (39 : Int) * (2 * 40 ^ (n - 1 - (r + 1 + j))) else 0) = _
    rw [if_pos (by omega), e0]
  rw [e2]
  have e3 : ((List.range (n - 1 - r)).map fun j => (39 : Int) * (2 * 40 ^ ((n - 1 - r) - 1 - j))) = ((List.range (n - 1 - r)).map fun j => (39 : Int) * (2 * 40 ^ j)).reverse := by
    refine List.ext_getElem (by simp) fun i h1 h2 => ?_
    simp at h1
    simp
  rw [e3, List.sum_reverse, geo (n - 1 - r) _ (Nat.le_refl _)]
  omega
theorem wt_corpus (cut : Txt → List Int) (q : Int × Int) : wt cut q (corpusFrom A ps) = ((List.range ps.length).map fun r' => ((2 : Int) * 40 ^ (ps.length - 1 - r')) * (((adj (cut (tat (txs A ps) ((A.length : Int) + r')))).count q : Nat) : Int)).sum := by
  unfold wt corpusFrom
  rw [List.map_map]
  rfl
theorem pow40_pos (n : Nat) : (1 : Int) ≤ 40 ^ n := by
  have : (0 : Int) < 40 ^ n := Int.pow_pos (by decide)
  omega
theorem wt_other (P : Proper A ps) {r : Nat} {p q : Int × Int} (h : ps[r]? = some p) (hq : q ≠ p) :
    wt (cutM A (ps.take r)) q (corpusFrom A ps) ≤ 2 * ((40 : Int) ^ (ps.length - 1 - r) - 1) := by
  have hl := (List.getElem?_eq_some_iff.mp h).1
  rw [wt_corpus, ← tail_sum ps.length r hl]
  refine sum_map_le _ _ _ fun r' hr' => ?_
  have hr' := List.mem_range.mp hr'
  have hk : ps[r']? = some ps[r'] := List.getElem?_eq_getElem hr'
  by_cases c : r < r'
  · rw [if_pos c]
    have h1 : (adj (cutM A (ps.take r) (tat (txs A ps) ((A.length : Int) + r')))).count q ≤ 39 := by
      have h2 := List.count_le_length (a := q) (l := adj (cutM A (ps.take r) (tat (txs A ps) ((A.length : Int) + r'))))
      rw [adj_len] at h2
      have h3 := row_len (r := r) P hr'
      omega
    rw [Int.mul_comm 39]
    exact Int.mul_le_mul_of_nonneg_left (by omega) (by have := pow40_pos (ps.length - 1 - r'); omega)
  · rw [if_neg c]
    have z : (adj (cutM A (ps.take r) (tat (txs A ps) ((A.length : Int) + r')))).count q = 0 := by
      by_cases c2 : r' = r
      · subst c2
        rw [cut_same P h]
        show ([(p.1, p.2)] : List (Int × Int)).count q = 0
        rw [List.count_eq_zero]
        simp
        exact hq
      · rw [cut_below P hk (by omega)]
        rfl
    rw [z]
    simp
theorem wt_self (P : Proper A ps) {r : Nat} {p : Int × Int} (h : ps[r]? = some p) : 2 * (40 : Int) ^ (ps.length - 1 - r) ≤ wt (cutM A (ps.take r)) p (corpusFrom A ps) := by
  have hl := (List.getElem?_eq_some_iff.mp h).1
  rw [wt_corpus]
  have e1 : List.range ps.length = List.range r ++ (r :: (List.range (ps.length - 1 - r)).map (fun j => r + 1 + j)) := by
    have : ps.length = (r + 1) + (ps.length - 1 - r) := by omega
    conv => lhs; rw [this]
    rw [List.range_add, List.range_succ]
    simp
  have nn : ∀ l : List Nat, (0 : Int) ≤ (l.map fun r' => ((2 : Int) * 40 ^ (ps.length - 1 - r')) * (((adj (cutM A (ps.take r) (tat (txs A ps) ((A.length : Int) + r')))).count p : Nat) : Int)).sum := by
    intro l
    have := sum_map_le (fun _ : Nat => (0 : Int)) (fun r' => ((2 : Int) * 40 ^ (ps.length - 1 - r')) * (((adj (cutM A (ps.take r) (tat (txs A ps) ((A.length : Int) + r')))).count p : Nat) : Int)) l fun a _ => by
      have := pow40_pos (ps.length - 1 - a)
      exact Int.mul_nonneg (by omega) (by omega)
    have z : ∀ l : List Nat, (l.map fun _ => (0 : Int)).sum = 0 := by
      intro l
      induction l with
      | nil => rfl
      | cons a l ih => rw [List.map_cons, List.sum_cons, ih]; rfl
    rw [z] at this
    exact this
  rw [e1, List.map_append, List.sum_append, List.map_cons, List.sum_cons]
  have c1 : (adj (cutM A (ps.take r) (tat (txs A ps) ((A.length : Int) + r)))).count p = 1 := by
    rw [cut_same P h]
    show ([(p.1, p.2)] : List (Int × Int)).count p = 1
    simp
  rw [c1]
  have n1 := nn (List.range r)
  have n2 := nn ((List.range (ps.length - 1 - r)).map (fun j => r + 1 + j))
  have c2 : ((1 : Nat) : Int) = 1 := rfl
  rw [c2, Int.mul_one]
  omega
theorem nxt_own (P : Proper A ps) {r : Nat} {p : Int × Int} (h : ps[r]? = some p) : nxt A (ps.take r) (corpusFrom A ps) = some p := by
  have hl := (List.getElem?_eq_some_iff.mp h).1
  have nd : ((totM A (ps.take r) (corpusFrom A ps)).map (·.1)).Nodup := nd_addC _ _ _ (by simp)
  have tot : ∀ q, lk0 (totM A (ps.take r) (corpusFrom A ps)) q = wt (cutM A (ps.take r)) q (corpusFrom A ps) := fun q => by
    unfold totM
    rw [lk0_addC]
    simp [lk0, lk]
  have hp1 := pow40_pos (ps.length - 1 - r)
  have hs := wt_self P h
  obtain ⟨t, ht⟩ : ∃ t, (p, t) ∈ totM A (ps.take r) (corpusFrom A ps) := by
    refine mem_keys ?_
    unfold totM
    rw [keys_addC]
    refine .inr ⟨(tat (txs A ps) ((A.length : Int) + r), 2 * 40 ^ (ps.length - 1 - r)), ?_, ?_⟩
    · unfold corpusFrom
      exact List.mem_map.mpr ⟨r, List.mem_range.mpr hl, rfl⟩
    · show p ∈ adj (cutM A (ps.take r) _)
      rw [cut_same P h]
      exact List.mem_cons_self
  have et : t = wt (cutM A (ps.take r)) p (corpusFrom A ps) := by
    have := lk_mem nd ht
    rw [← tot p]
    unfold lk0
    rw [this]
    rfl
  have hb : best (totM A (ps.take r) (corpusFrom A ps)) = some (p, t) := by
    refine best_eq ht fun e he => ?_
    rw [le2_iff]
    by_cases c : e.1 = p
    · have := lk_mem nd he
      rw [c, lk_mem nd ht] at this
      have e2 : t = e.2 := Option.some.inj this
      refine .inr ⟨e2, .inr ⟨by rw [c], by rw [c]; exact Int.le_refl _⟩⟩
    · left
      have h1 := lk_mem nd he
      have h2 : e.2 = wt (cutM A (ps.take r)) e.1 (corpusFrom A ps) := by
        rw [← tot e.1]
        unfold lk0
        rw [h1]
        rfl
      have h3 := wt_other P h c
      show e.2 < t
      omega
  unfold nxt
  rw [hb]
  have o := P r p h
  have hlen := o.len
  rw [List.length_append] at hlen
  simp only
  rw [if_neg (by omega), if_neg (by omega)]
theorem nxt_end (P : Proper A ps) : nxt A ps (corpusFrom A ps) = none := by
  have : totM A ps (corpusFrom A ps) = [] := by
    have hk : ∀ q, q ∉ (totM A ps (corpusFrom A ps)).map (·.1) := fun q hq => by
      unfold totM at hq
      rw [keys_addC] at hq
      rcases hq with hq | ⟨e, he, hq⟩
      · cases hq
      · obtain ⟨r', hr', rfl⟩ := List.mem_map.mp he
        have hr' := List.mem_range.mp hr'
        have hk : ps[r']? = some ps[r'] := List.getElem?_eq_getElem hr'
        have c := cut_below (r := ps.length) P hk hr'
        rw [List.take_length] at c
        have hq' : q ∈ adj (cutM A ps (tat (txs A ps) ((A.length : Int) + r'))) := hq
        rw [c] at hq'
        cases hq'
    cases e : totM A ps (corpusFrom A ps) with
    | nil => rfl
    | cons f E =>
      rw [e] at hk
      exact absurd List.mem_cons_self (hk f.1)
  unfold nxt
  rw [this]
  rfl
theorem lrn_own (P : Proper A ps) : ∀ (k r : Nat), r ≤ ps.length → lrn A (corpusFrom A ps) k (ps.take r) = ps.take (r + k)
  | 0, r, _ => rfl
  | k + 1, r, h => by
    unfold lrn
    by_cases c : r < ps.length
    · have hk : ps[r]? = some ps[r] := List.getElem?_eq_getElem c
      rw [nxt_own P hk]
      simp only
      have et : ps.take r ++ [ps[r]] = ps.take (r + 1) := by rw [List.take_add_one, hk]; rfl
      rw [et, lrn_own P k (r + 1) c]
      congr 1
      omega
    · have e1 : ps.take r = ps := List.take_of_length_le (by omega)
      rw [e1, nxt_end P, List.take_of_length_le (by omega)]
theorem corpusFrom_over (P : Proper A ps) : OverA A (corpusFrom A ps) := fun e he => by
  obtain ⟨r', hr', rfl⟩ := List.mem_map.mp he
  have hr' := List.mem_range.mp hr'
  exact (P.texts ((A.length : Int) + r') (by omega) (by omega)).1
end own
end Rj
end
section
set_option Elab.async false
set_option linter.all false
set_option maxRecDepth 100000
namespace Rj
open PySem PySem.Spec PyProof.Rows L2
def top (i : Nat) : Stmt := PySem.Challenge.pw_rankedjoins_k14_whole_lists_are_learnt.main.body.getD i (.Pass ⟨0, 0, 0, 0⟩)
abbrev sIsBetween : Stmt := top 11
abbrev sIsAlphabet : Stmt := top 12
abbrev sCheckedAlphabet : Stmt := top 13
abbrev sPutTogether : Stmt := top 14
abbrev sLowestPair : Stmt := top 15
abbrev sCutRow : Stmt := top 16
abbrev sJInit : Stmt := inClass (top 17) 0
abbrev sJTake : Stmt := inClass (top 17) 1
abbrev sJIsProper : Stmt := inClass (top 17) 2
abbrev sJIsPiece : Stmt := inClass (top 17) 4
abbrev sJCheckPiece : Stmt := inClass (top 17) 5
abbrev sJTextOf : Stmt := inClass (top 17) 6
abbrev sJPieceOf : Stmt := inClass (top 17) 9
abbrev sJLen : Stmt := inClass (top 17) 11
abbrev sJEq : Stmt := inClass (top 17) 13
abbrev sGrown : Stmt := top 18
abbrev sLettersOf : Stmt := top 20
abbrev sCut : Stmt := top 21
abbrev sNeighbors : Stmt := top 23
abbrev sNextPair : Stmt := top 24
abbrev sLearn : Stmt := top 25
abbrev sCorpusOf : Stmt := top 26
abbrev sLNumbers : Stmt := top 28
abbrev sLSame : Stmt := top 29
abbrev sLAlphabet : Stmt := top 30
abbrev sLJoinAll : Stmt := top 31
abbrev sLStaged : Stmt := top 32
abbrev sLLetters : Stmt := top 33
abbrev sLIsProper : Stmt := top 34
abbrev sLList : Stmt := top 35
abbrev sLCorpus : Stmt := top 36
abbrev sLAreProper : Stmt := top 37
abbrev sLRuns : Stmt := top 38
abbrev sLaw : Stmt := top 39
abbrev FnP (K : PySem.W.Frag) (x qual : Str) (st : Stmt) (f : Addr) (fd : FuncData) : Prop := FunD K x qual (defArgs st) (defBody st) (defScope st) [] [] f fd
end Rj
end
section
set_option Elab.async false
set_option linter.all false
set_option maxRecDepth 100000
namespace Rj
open PySem PySem.Spec PyProof.Rows L2
/-- what the top has written -/
structure Wd (K : PySem.W.Frag) (mg : Str → Option Value) where
  fIsBetween : Addr
  dIsBetween : FuncData
  FIsBetween : FnP K "is_between" "is_between" sIsBetween fIsBetween dIsBetween
  gIsBetween : mg "is_between" = some (.ref fIsBetween)
  fIsAlphabet : Addr
  dIsAlphabet : FuncData
  FIsAlphabet : FnP K "is_alphabet" "is_alphabet" sIsAlphabet fIsAlphabet dIsAlphabet
  gIsAlphabet : mg "is_alphabet" = some (.ref fIsAlphabet)
  fCheckedAlphabet : Addr
  dCheckedAlphabet : FuncData
  FCheckedAlphabet : FnP K "checked_alphabet" "checked_alphabet" sCheckedAlphabet fCheckedAlphabet dCheckedAlphabet
  gCheckedAlphabet : mg "checked_alphabet" = some (.ref fCheckedAlphabet)
  fPutTogether : Addr
  dPutTogether : FuncData
  FPutTogether : FnP K "put_together" "put_together" sPutTogether fPutTogether dPutTogether
  gPutTogether : mg "put_together" = some (.ref fPutTogether)
  fLowestPair : Addr
  dLowestPair : FuncData
  FLowestPair : FnP K "lowest_pair" "lowest_pair" sLowestPair fLowestPair dLowestPair
  gLowestPair : mg "lowest_pair" = some (.ref fLowestPair)
  fCutRow : Addr
  dCutRow : FuncData
  FCutRow : FnP K "cut_row" "cut_row" sCutRow fCutRow dCutRow
  gCutRow : mg "cut_row" = some (.ref fCutRow)
  fJInit : Addr
  dJInit : FuncData
  FJInit : FnP K "__init__" "Joins.__init__" sJInit fJInit dJInit
  fJTake : Addr
  dJTake : FuncData
  FJTake : FnP K "take" "Joins.take" sJTake fJTake dJTake
  fJIsProper : Addr
  dJIsProper : FuncData
  FJIsProper : FnP K "is_proper" "Joins.is_proper" sJIsProper fJIsProper dJIsProper
  fJIsPiece : Addr
  dJIsPiece : FuncData
  FJIsPiece : FnP K "is_piece" "Joins.is_piece" sJIsPiece fJIsPiece dJIsPiece
  fJCheckPiece : Addr
  dJCheckPiece : FuncData
  FJCheckPiece : FnP K "check_piece" "Joins.check_piece" sJCheckPiece fJCheckPiece dJCheckPiece
  fJTextOf : Addr
  dJTextOf : FuncData
  FJTextOf : FnP K "text_of" "Joins.text_of" sJTextOf fJTextOf dJTextOf
  fJPieceOf : Addr
  dJPieceOf : FuncData
  FJPieceOf : FnP K "piece_of" "Joins.piece_of" sJPieceOf fJPieceOf dJPieceOf
  fJLen : Addr
  dJLen : FuncData
  FJLen : FnP K "__len__" "Joins.__len__" sJLen fJLen dJLen
  fJEq : Addr
  dJEq : FuncData
  FJEq : FnP K "__eq__" "Joins.__eq__" sJEq fJEq dJEq
  fGrown : Addr
  dGrown : FuncData
  FGrown : FnP K "grown" "grown" sGrown fGrown dGrown
  gGrown : mg "grown" = some (.ref fGrown)
  fLettersOf : Addr
  dLettersOf : FuncData
  FLettersOf : FnP K "letters_of" "letters_of" sLettersOf fLettersOf dLettersOf
  gLettersOf : mg "letters_of" = some (.ref fLettersOf)
  fCut : Addr
  dCut : FuncData
  FCut : FnP K "cut" "cut" sCut fCut dCut
  gCut : mg "cut" = some (.ref fCut)
  fNeighbors : Addr
  dNeighbors : FuncData
  FNeighbors : FnP K "neighbors" "neighbors" sNeighbors fNeighbors dNeighbors
  gNeighbors : mg "neighbors" = some (.ref fNeighbors)
  fNextPair : Addr
  dNextPair : FuncData
  FNextPair : FnP K "next_pair" "next_pair" sNextPair fNextPair dNextPair
  gNextPair : mg "next_pair" = some (.ref fNextPair)
  fLearn : Addr
  dLearn : FuncData
  FLearn : FnP K "learn" "learn" sLearn fLearn dLearn
  gLearn : mg "learn" = some (.ref fLearn)
  fCorpusOf : Addr
  dCorpusOf : FuncData
  FCorpusOf : FnP K "corpus_of" "corpus_of" sCorpusOf fCorpusOf dCorpusOf
  gCorpusOf : mg "corpus_of" = some (.ref fCorpusOf)
  fLNumbers : Addr
  dLNumbers : FuncData
  FLNumbers : FnP K "_law_numbers" "_law_numbers" sLNumbers fLNumbers dLNumbers
  gLNumbers : mg "_law_numbers" = some (.ref fLNumbers)
  fLSame : Addr
  dLSame : FuncData
  FLSame : FnP K "_law_same" "_law_same" sLSame fLSame dLSame
  gLSame : mg "_law_same" = some (.ref fLSame)
  fLAlphabet : Addr
  dLAlphabet : FuncData
  FLAlphabet : FnP K "_law_alphabet" "_law_alphabet" sLAlphabet fLAlphabet dLAlphabet
  gLAlphabet : mg "_law_alphabet" = some (.ref fLAlphabet)
  fLJoinAll : Addr
  dLJoinAll : FuncData
  FLJoinAll : FnP K "_law_join_all" "_law_join_all" sLJoinAll fLJoinAll dLJoinAll
  gLJoinAll : mg "_law_join_all" = some (.ref fLJoinAll)
  fLStaged : Addr
  dLStaged : FuncData
  FLStaged : FnP K "_law_staged" "_law_staged" sLStaged fLStaged dLStaged
  gLStaged : mg "_law_staged" = some (.ref fLStaged)
  fLLetters : Addr
  dLLetters : FuncData
  FLLetters : FnP K "_law_letters" "_law_letters" sLLetters fLLetters dLLetters
  gLLetters : mg "_law_letters" = some (.ref fLLetters)
  fLIsProper : Addr
  dLIsProper : FuncData
  FLIsProper : FnP K "_law_is_proper" "_law_is_proper" sLIsProper fLIsProper dLIsProper
  gLIsProper : mg "_law_is_proper" = some (.ref fLIsProper)
  fLList : Addr
  dLList : FuncData
  FLList : FnP K "_law_list" "_law_list" sLList fLList dLList
  gLList : mg "_law_list" = some (.ref fLList)
  fLCorpus : Addr
  dLCorpus : FuncData
  FLCorpus : FnP K "_law_corpus" "_law_corpus" sLCorpus fLCorpus dLCorpus
  gLCorpus : mg "_law_corpus" = some (.ref fLCorpus)
  fLAreProper : Addr
  dLAreProper : FuncData
  FLAreProper : FnP K "_law_are_proper" "_law_are_proper" sLAreProper fLAreProper dLAreProper
  gLAreProper : mg "_law_are_proper" = some (.ref fLAreProper)
  fLRuns : Addr
  dLRuns : FuncData
  FLRuns : FnP K "_law_runs" "_law_runs" sLRuns fLRuns dLRuns
  gLRuns : mg "_law_runs" = some (.ref fLRuns)
  fLaw : Addr
  dLaw : FuncData
  FLaw : FnP K "law" "law" sLaw fLaw dLaw
  gLaw : mg "law" = some (.ref fLaw)
  C : Addr
  gC : mg "Joins" = some (.ref C)
  cl : Cls K C
  mkC : Mk K C fJInit
  n_alphabet : NoAttr K C "alphabet"
  n_pairs : NoAttr K C "pairs"
  n_texts : NoAttr K C "texts"
  n_ranks : NoAttr K C "ranks"
  n_numbers : NoAttr K C "numbers"
  n_longest : NoAttr K C "longest"
  mJTake : Meth K C "take" fJTake
  mJIsProper : Meth K C "is_proper" fJIsProper
  mJIsPiece : Meth K C "is_piece" fJIsPiece
  mJCheckPiece : Meth K C "check_piece" fJCheckPiece
  mJTextOf : Meth K C "text_of" fJTextOf
  mJPieceOf : Meth K C "piece_of" fJPieceOf
  mJLen : Meth K C "__len__" fJLen
  mJEq : Meth K C "__eq__" fJEq
  no_len : mg "len" = none
  no_isinstance : mg "isinstance" = none
  no_int : mg "int" = none
  no_bool : mg "bool" = none
  no_str : mg "str" = none
  no_tuple : mg "tuple" = none
  no_list : mg "list" = none
  no_dict : mg "dict" = none
  no_enumerate : mg "enumerate" = none
  no_range : mg "range" = none
  no_reversed : mg "reversed" = none
  no_sorted : mg "sorted" = none
  no_max : mg "max" = none
  no_min : mg "min" = none
  no_abs : mg "abs" = none
  ic : C8.InsC K C
  cN : Addr
  exN : ∃ (oc : Value) (od : Option Addr) (dV kV doc pm : Value) (an : Option Addr) (ct : Value) (osl : Array (Option Value)), dNeighbors = PySem.W.fnOf "neighbors" "neighbors" (defArgs sNeighbors) (defBody sNeighbors) (defScope sNeighbors) dV kV doc pm an (.ref cN) ct ∧ K.lookup fNeighbors = some ⟨oc, od, .func dNeighbors, osl⟩ ∧ PySem.W.codeIn K (.ref cN) "neighbors" = true
  iML : ∃ t, mg "MOST_LETTERS" = some (.int 30 t)
  iLP : ∃ t, mg "LONGEST_PIECE" = some (.int 40 t)
abbrev NIsBetween : List Str := ["value", "least", "most"]
theorem scIsBetween : FnScope NIsBetween ["value", "least", "most"] (defScope sIsBetween) := ⟨rfl, rfl, rfl, by decide +kernel, rfl, by decide +kernel, by decide +kernel⟩
theorem Wd.bIsBetween {K : PySem.W.Frag} {mg : Str → Option Value} (T : Wd K mg) : Binds K T.dIsBetween ["value", "least", "most"] [] := T.FIsBetween.bindsN fun _ _ _ _ _ _ us hl => match us, hl with | [_, _, _], _ => rfl
abbrev NIsAlphabet : List Str := ["alphabet", "sign", "at"]
theorem scIsAlphabet : FnScope NIsAlphabet ["alphabet"] (defScope sIsAlphabet) := ⟨rfl, rfl, rfl, by decide +kernel, rfl, by decide +kernel, by decide +kernel⟩
theorem Wd.bIsAlphabet {K : PySem.W.Frag} {mg : Str → Option Value} (T : Wd K mg) : Binds K T.dIsAlphabet ["alphabet"] [] := T.FIsAlphabet.bindsN fun _ _ _ _ _ _ us hl => match us, hl with | [_], _ => rfl
abbrev NCheckedAlphabet : List Str := ["alphabet"]
theorem scCheckedAlphabet : FnScope NCheckedAlphabet ["alphabet"] (defScope sCheckedAlphabet) := ⟨rfl, rfl, rfl, by decide +kernel, rfl, by decide +kernel, by decide +kernel⟩
theorem Wd.bCheckedAlphabet {K : PySem.W.Frag} {mg : Str → Option Value} (T : Wd K mg) : Binds K T.dCheckedAlphabet ["alphabet"] [] := T.FCheckedAlphabet.bindsN fun _ _ _ _ _ _ us hl => match us, hl with | [_], _ => rfl
abbrev NPutTogether : List Str := ["row", "pair", "piece", "found", "at"]
theorem scPutTogether : FnScope NPutTogether ["row", "pair", "piece"] (defScope sPutTogether) := ⟨rfl, rfl, rfl, by decide +kernel, rfl, by decide +kernel, by decide +kernel⟩
theorem Wd.bPutTogether {K : PySem.W.Frag} {mg : Str → Option Value} (T : Wd K mg) : Binds K T.dPutTogether ["row", "pair", "piece"] [] := T.FPutTogether.bindsN fun _ _ _ _ _ _ us hl => match us, hl with | [_, _, _], _ => rfl
abbrev NLowestPair : List Str := ["ranks", "row", "best", "at", "pair"]
theorem scLowestPair : FnScope NLowestPair ["ranks", "row"] (defScope sLowestPair) := ⟨rfl, rfl, rfl, by decide +kernel, rfl, by decide +kernel, by decide +kernel⟩
theorem Wd.bLowestPair {K : PySem.W.Frag} {mg : Str → Option Value} (T : Wd K mg) : Binds K T.dLowestPair ["ranks", "row"] [] := T.FLowestPair.bindsN fun _ _ _ _ _ _ us hl => match us, hl with | [_, _], _ => rfl
abbrev NCutRow : List Str := ["ranks", "letters", "row", "pair"]
theorem scCutRow : FnScope NCutRow ["ranks", "letters", "row"] (defScope sCutRow) := ⟨rfl, rfl, rfl, by decide +kernel, rfl, by decide +kernel, by decide +kernel⟩
theorem Wd.bCutRow {K : PySem.W.Frag} {mg : Str → Option Value} (T : Wd K mg) : Binds K T.dCutRow ["ranks", "letters", "row"] [] := T.FCutRow.bindsN fun _ _ _ _ _ _ us hl => match us, hl with | [_, _, _], _ => rfl
abbrev NJInit : List Str := ["self", "alphabet", "pairs", "pair", "letter", "at"]
theorem scJInit : FnScope NJInit ["self", "alphabet", "pairs"] (defScope sJInit) := ⟨rfl, rfl, rfl, by decide +kernel, rfl, by decide +kernel, by decide +kernel⟩
theorem Wd.bJInit {K : PySem.W.Frag} {mg : Str → Option Value} (T : Wd K mg) : Binds K T.dJInit ["self", "alphabet", "pairs"] [] := T.FJInit.bindsN fun _ _ _ _ _ _ us hl => match us, hl with | [_, _, _], _ => rfl
abbrev NJTake : List Str := ["self", "pair", "rank", "text"]
theorem scJTake : FnScope NJTake ["self", "pair"] (defScope sJTake) := ⟨rfl, rfl, rfl, by decide +kernel, rfl, by decide +kernel, by decide +kernel⟩
theorem Wd.bJTake {K : PySem.W.Frag} {mg : Str → Option Value} (T : Wd K mg) : Binds K T.dJTake ["self", "pair"] [] := T.FJTake.bindsN fun _ _ _ _ _ _ us hl => match us, hl with | [_, _], _ => rfl
abbrev NJIsProper : List Str := ["self", "pair", "left", "right", "most", "text", "row", "letter"]
theorem scJIsProper : FnScope NJIsProper ["self", "pair"] (defScope sJIsProper) := ⟨rfl, rfl, rfl, by decide +kernel, rfl, by decide +kernel, by decide +kernel⟩
theorem Wd.bJIsProper {K : PySem.W.Frag} {mg : Str → Option Value} (T : Wd K mg) : Binds K T.dJIsProper ["self", "pair"] [] := T.FJIsProper.bindsN fun _ _ _ _ _ _ us hl => match us, hl with | [_, _], _ => rfl
abbrev NJIsPiece : List Str := ["self", "piece"]
theorem scJIsPiece : FnScope NJIsPiece ["self", "piece"] (defScope sJIsPiece) := ⟨rfl, rfl, rfl, by decide +kernel, rfl, by decide +kernel, by decide +kernel⟩
theorem Wd.bJIsPiece {K : PySem.W.Frag} {mg : Str → Option Value} (T : Wd K mg) : Binds K T.dJIsPiece ["self", "piece"] [] := T.FJIsPiece.bindsN fun _ _ _ _ _ _ us hl => match us, hl with | [_, _], _ => rfl
abbrev NJCheckPiece : List Str := ["self", "piece"]
theorem scJCheckPiece : FnScope NJCheckPiece ["self", "piece"] (defScope sJCheckPiece) := ⟨rfl, rfl, rfl, by decide +kernel, rfl, by decide +kernel, by decide +kernel⟩
theorem Wd.bJCheckPiece {K : PySem.W.Frag} {mg : Str → Option Value} (T : Wd K mg) : Binds K T.dJCheckPiece ["self", "piece"] [] := T.FJCheckPiece.bindsN fun _ _ _ _ _ _ us hl => match us, hl with | [_, _], _ => rfl
abbrev NJTextOf : List Str := ["self", "piece"]
theorem scJTextOf : FnScope NJTextOf ["self", "piece"] (defScope sJTextOf) := ⟨rfl, rfl, rfl, by decide +kernel, rfl, by decide +kernel, by decide +kernel⟩
theorem Wd.bJTextOf {K : PySem.W.Frag} {mg : Str → Option Value} (T : Wd K mg) : Binds K T.dJTextOf ["self", "piece"] [] := T.FJTextOf.bindsN fun _ _ _ _ _ _ us hl => match us, hl with | [_, _], _ => rfl
abbrev NJPieceOf : List Str := ["self", "text"]
theorem scJPieceOf : FnScope NJPieceOf ["self", "text"] (defScope sJPieceOf) := ⟨rfl, rfl, rfl, by decide +kernel, rfl, by decide +kernel, by decide +kernel⟩
theorem Wd.bJPieceOf {K : PySem.W.Frag} {mg : Str → Option Value} (T : Wd K mg) : Binds K T.dJPieceOf ["self", "text"] [] := T.FJPieceOf.bindsN fun _ _ _ _ _ _ us hl => match us, hl with | [_, _], _ => rfl
abbrev NJLen : List Str := ["self"]
theorem scJLen : FnScope NJLen ["self"] (defScope sJLen) := ⟨rfl, rfl, rfl, by decide +kernel, rfl, by decide +kernel, by decide +kernel⟩
theorem Wd.bJLen {K : PySem.W.Frag} {mg : Str → Option Value} (T : Wd K mg) : Binds K T.dJLen ["self"] [] := T.FJLen.bindsN fun _ _ _ _ _ _ us hl => match us, hl with | [_], _ => rfl
abbrev NJEq : List Str := ["self", "other"]
theorem scJEq : FnScope NJEq ["self", "other"] (defScope sJEq) := ⟨rfl, rfl, rfl, by decide +kernel, rfl, by decide +kernel, by decide +kernel⟩
theorem Wd.bJEq {K : PySem.W.Frag} {mg : Str → Option Value} (T : Wd K mg) : Binds K T.dJEq ["self", "other"] [] := T.FJEq.bindsN fun _ _ _ _ _ _ us hl => match us, hl with | [_, _], _ => rfl
abbrev NGrown : List Str := ["joins", "pair", "other"]
theorem scGrown : FnScope NGrown ["joins", "pair"] (defScope sGrown) := ⟨rfl, rfl, rfl, by decide +kernel, rfl, by decide +kernel, by decide +kernel⟩
theorem Wd.bGrown {K : PySem.W.Frag} {mg : Str → Option Value} (T : Wd K mg) : Binds K T.dGrown ["joins", "pair"] [] := T.FGrown.bindsN fun _ _ _ _ _ _ us hl => match us, hl with | [_, _], _ => rfl
abbrev NLettersOf : List Str := ["joins", "text", "row", "at", "sign"]
theorem scLettersOf : FnScope NLettersOf ["joins", "text"] (defScope sLettersOf) := ⟨rfl, rfl, rfl, by decide +kernel, rfl, by decide +kernel, by decide +kernel⟩
theorem Wd.bLettersOf {K : PySem.W.Frag} {mg : Str → Option Value} (T : Wd K mg) : Binds K T.dLettersOf ["joins", "text"] [] := T.FLettersOf.bindsN fun _ _ _ _ _ _ us hl => match us, hl with | [_, _], _ => rfl
abbrev NCut : List Str := ["joins", "text"]
theorem scCut : FnScope NCut ["joins", "text"] (defScope sCut) := ⟨rfl, rfl, rfl, by decide +kernel, rfl, by decide +kernel, by decide +kernel⟩
theorem Wd.bCut {K : PySem.W.Frag} {mg : Str → Option Value} (T : Wd K mg) : Binds K T.dCut ["joins", "text"] [] := T.FCut.bindsN fun _ _ _ _ _ _ us hl => match us, hl with | [_, _], _ => rfl
abbrev NNeighbors : List Str := ["joins", "corpus", "totals", "text", "count", "row", "at", "pair"]
theorem scNeighbors : FnScope NNeighbors ["joins", "corpus"] (defScope sNeighbors) := ⟨rfl, rfl, rfl, by decide +kernel, rfl, by decide +kernel, by decide +kernel⟩
theorem Wd.bNeighbors {K : PySem.W.Frag} {mg : Str → Option Value} (T : Wd K mg) : Binds K T.dNeighbors ["joins", "corpus"] [] := T.FNeighbors.bindsN fun _ _ _ _ _ _ us hl => match us, hl with | [_, _], _ => rfl
abbrev NNextPair : List Str := ["joins", "corpus", "found", "left", "right"]
theorem scNextPair : FnScope NNextPair ["joins", "corpus"] (defScope sNextPair) := ⟨rfl, rfl, rfl, by decide +kernel, rfl, by decide +kernel, by decide +kernel⟩
theorem Wd.bNextPair {K : PySem.W.Frag} {mg : Str → Option Value} (T : Wd K mg) : Binds K T.dNextPair ["joins", "corpus"] [] := T.FNextPair.bindsN fun _ _ _ _ _ _ us hl => match us, hl with | [_, _], _ => rfl
abbrev NLearn : List Str := ["alphabet", "corpus", "many", "joins", "text", "count", "_", "pair"]
theorem scLearn : FnScope NLearn ["alphabet", "corpus", "many"] (defScope sLearn) := ⟨rfl, rfl, rfl, by decide +kernel, rfl, by decide +kernel, by decide +kernel⟩
theorem Wd.bLearn {K : PySem.W.Frag} {mg : Str → Option Value} (T : Wd K mg) : Binds K T.dLearn ["alphabet", "corpus", "many"] [] := T.FLearn.bindsN fun _ _ _ _ _ _ us hl => match us, hl with | [_, _, _], _ => rfl
abbrev NCorpusOf : List Str := ["joins", "count", "found", "rank"]
theorem scCorpusOf : FnScope NCorpusOf ["joins"] (defScope sCorpusOf) := ⟨rfl, rfl, rfl, by decide +kernel, rfl, by decide +kernel, by decide +kernel⟩
theorem Wd.bCorpusOf {K : PySem.W.Frag} {mg : Str → Option Value} (T : Wd K mg) : Binds K T.dCorpusOf ["joins"] [] := T.FCorpusOf.bindsN fun _ _ _ _ _ _ us hl => match us, hl with | [_], _ => rfl
abbrev NLNumbers : List Str := ["_law_cell", "_law_at", "_law_many", "_law_great", "_law_rest", "_law_numbers_here", "_law_k", "_law_mixed"]
theorem scLNumbers : FnScope NLNumbers ["_law_cell", "_law_at", "_law_many"] (defScope sLNumbers) := ⟨rfl, rfl, rfl, by decide +kernel, rfl, by decide +kernel, by decide +kernel⟩
theorem Wd.bLNumbers {K : PySem.W.Frag} {mg : Str → Option Value} (T : Wd K mg) : Binds K T.dLNumbers ["_law_cell", "_law_at", "_law_many"] [] := T.FLNumbers.bindsN fun _ _ _ _ _ _ us hl => match us, hl with | [_, _, _], _ => rfl
abbrev NLSame : List Str := ["_law_actual", "_law_expected", "_law_k"]
theorem scLSame : FnScope NLSame ["_law_actual", "_law_expected"] (defScope sLSame) := ⟨rfl, rfl, rfl, by decide +kernel, rfl, by decide +kernel, by decide +kernel⟩
theorem Wd.bLSame {K : PySem.W.Frag} {mg : Str → Option Value} (T : Wd K mg) : Binds K T.dLSame ["_law_actual", "_law_expected"] [] := T.FLSame.bindsN fun _ _ _ _ _ _ us hl => match us, hl with | [_, _], _ => rfl
abbrev NLAlphabet : List Str := ["_law_numbers_here", "_law_k", "_law_many", "_law_signs", "_law_chosen", "_law_j", "_law_sign"]
theorem scLAlphabet : FnScope NLAlphabet ["_law_numbers_here", "_law_k", "_law_many"] (defScope sLAlphabet) := ⟨rfl, rfl, rfl, by decide +kernel, rfl, by decide +kernel, by decide +kernel⟩
theorem Wd.bLAlphabet {K : PySem.W.Frag} {mg : Str → Option Value} (T : Wd K mg) : Binds K T.dLAlphabet ["_law_numbers_here", "_law_k", "_law_many"] [] := T.FLAlphabet.bindsN fun _ _ _ _ _ _ us hl => match us, hl with | [_, _, _], _ => rfl
abbrev NLJoinAll : List Str := ["_law_row", "_law_pair", "_law_made", "_law_joined", "_law_gone", "_law_k"]
theorem scLJoinAll : FnScope NLJoinAll ["_law_row", "_law_pair", "_law_made"] (defScope sLJoinAll) := ⟨rfl, rfl, rfl, by decide +kernel, rfl, by decide +kernel, by decide +kernel⟩
theorem Wd.bLJoinAll {K : PySem.W.Frag} {mg : Str → Option Value} (T : Wd K mg) : Binds K T.dLJoinAll ["_law_row", "_law_pair", "_law_made"] [] := T.FLJoinAll.bindsN fun _ _ _ _ _ _ us hl => match us, hl with | [_, _, _], _ => rfl
abbrev NLStaged : List Str := ["_law_many", "_law_pairs", "_law_row", "_law_rank"]
theorem scLStaged : FnScope NLStaged ["_law_many", "_law_pairs", "_law_row"] (defScope sLStaged) := ⟨rfl, rfl, rfl, by decide +kernel, rfl, by decide +kernel, by decide +kernel⟩
theorem Wd.bLStaged {K : PySem.W.Frag} {mg : Str → Option Value} (T : Wd K mg) : Binds K T.dLStaged ["_law_many", "_law_pairs", "_law_row"] [] := T.FLStaged.bindsN fun _ _ _ _ _ _ us hl => match us, hl with | [_, _, _], _ => rfl
abbrev NLLetters : List Str := ["_law_alphabet_here", "_law_text", "_law_sign"]
theorem scLLetters : FnScope NLLetters ["_law_alphabet_here", "_law_text"] (defScope sLLetters) := ⟨rfl, rfl, rfl, by decide +kernel, rfl, by decide +kernel, by decide +kernel⟩
theorem Wd.bLLetters {K : PySem.W.Frag} {mg : Str → Option Value} (T : Wd K mg) : Binds K T.dLLetters ["_law_alphabet_here", "_law_text"] [] := T.FLLetters.bindsN fun _ _ _ _ _ _ us hl => match us, hl with | [_, _], _ => rfl
abbrev NLIsProper : List Str := ["_law_alphabet_here", "_law_texts", "_law_pairs", "_law_pair", "_law_piece", "_law_text"]
theorem scLIsProper : FnScope NLIsProper ["_law_alphabet_here", "_law_texts", "_law_pairs", "_law_pair"] (defScope sLIsProper) := ⟨rfl, rfl, rfl, by decide +kernel, rfl, by decide +kernel, by decide +kernel⟩
theorem Wd.bLIsProper {K : PySem.W.Frag} {mg : Str → Option Value} (T : Wd K mg) : Binds K T.dLIsProper ["_law_alphabet_here", "_law_texts", "_law_pairs", "_law_pair"] [] := T.FLIsProper.bindsN fun _ _ _ _ _ _ us hl => match us, hl with | [_, _, _, _], _ => rfl
abbrev NLList : List Str := ["_law_numbers_here", "_law_k", "_law_alphabet_here", "_law_many", "_law_pairs", "_law_texts", "_law_j", "_law_pair"]
theorem scLList : FnScope NLList ["_law_numbers_here", "_law_k", "_law_alphabet_here", "_law_many"] (defScope sLList) := ⟨rfl, rfl, rfl, by decide +kernel, rfl, by decide +kernel, by decide +kernel⟩
theorem Wd.bLList {K : PySem.W.Frag} {mg : Str → Option Value} (T : Wd K mg) : Binds K T.dLList ["_law_numbers_here", "_law_k", "_law_alphabet_here", "_law_many"] [] := T.FLList.bindsN fun _ _ _ _ _ _ us hl => match us, hl with | [_, _, _, _], _ => rfl
abbrev NLCorpus : List Str := ["_law_numbers_here", "_law_k", "_law_alphabet_here", "_law_texts", "_law_corpus_here", "_law_j", "_law_seed", "_law_text", "_law_part", "_law_piece", "_law_letter", "_law_drawn"]
theorem scLCorpus : FnScope NLCorpus ["_law_numbers_here", "_law_k", "_law_alphabet_here", "_law_texts"] (defScope sLCorpus) := ⟨rfl, rfl, rfl, by decide +kernel, rfl, by decide +kernel, by decide +kernel⟩
theorem Wd.bLCorpus {K : PySem.W.Frag} {mg : Str → Option Value} (T : Wd K mg) : Binds K T.dLCorpus ["_law_numbers_here", "_law_k", "_law_alphabet_here", "_law_texts"] [] := T.FLCorpus.bindsN fun _ _ _ _ _ _ us hl => match us, hl with | [_, _, _, _], _ => rfl
abbrev NLAreProper : List Str := ["_law_alphabet_here", "_law_pairs", "_law_texts", "_law_rank", "_law_pair"]
theorem scLAreProper : FnScope NLAreProper ["_law_alphabet_here", "_law_pairs"] (defScope sLAreProper) := ⟨rfl, rfl, rfl, by decide +kernel, rfl, by decide +kernel, by decide +kernel⟩
theorem Wd.bLAreProper {K : PySem.W.Frag} {mg : Str → Option Value} (T : Wd K mg) : Binds K T.dLAreProper ["_law_alphabet_here", "_law_pairs"] [] := T.FLAreProper.bindsN fun _ _ _ _ _ _ us hl => match us, hl with | [_, _], _ => rfl
abbrev NLRuns : List Str := ["_law_numbers_here", "_law_alphabet_here", "_law_many", "_law_pairs", "_law_texts", "_law_j", "_law_left", "_law_first", "_law_right"]
theorem scLRuns : FnScope NLRuns ["_law_numbers_here", "_law_alphabet_here", "_law_many"] (defScope sLRuns) := ⟨rfl, rfl, rfl, by decide +kernel, rfl, by decide +kernel, by decide +kernel⟩
theorem Wd.bLRuns {K : PySem.W.Frag} {mg : Str → Option Value} (T : Wd K mg) : Binds K T.dLRuns ["_law_numbers_here", "_law_alphabet_here", "_law_many"] [] := T.FLRuns.bindsN fun _ _ _ _ _ _ us hl => match us, hl with | [_, _, _], _ => rfl
abbrev NLaw : List Str := ["_law_script", "_law_at", "_law_numbers_here", "_law_alphabet_here", "_law_drawn", "_law_pairs", "_law_joins", "_law_due", "_law_power", "_law_rank", "_law_corpus_here", "_law_told", "_law_few", "_law_handed"]
theorem scLaw : FnScope NLaw ["_law_script"] (defScope sLaw) := ⟨rfl, rfl, rfl, by decide +kernel, rfl, by decide +kernel, by decide +kernel⟩
theorem Wd.bLaw {K : PySem.W.Frag} {mg : Str → Option Value} (T : Wd K mg) : Binds K T.dLaw ["_law_script"] [] := T.FLaw.bindsN fun _ _ _ _ _ _ us hl => match us, hl with | [_], _ => rfl
end Rj
end
section
set_option Elab.async false
set_option linter.all false
set_option maxRecDepth 100000
set_option maxHeartbeats 2000000
/-! Rules of our own over the layer: enumerate(text), a list or a tuple walked, len(o) by an own __len__, list(text), text * int, dict(d) with tuple keys. -/
namespace Rj
open PySem PySem.Spec PyProof.Rows L2

/-! ### enumerate(text) -/
def ItEs (x : Str) : It :=
  ⟨fun i _ => i < x.cps.size, fun i H v H' => ∃ T c, v = .ref T ∧ H T = none ∧ H' = upd H T (.tup [.int (i : Nat), .str ⟨#[c]⟩]) ∧ x.cps[i]? = some c, fun i _ => x.cps.size ≤ i⟩
/-- the i-th sign of x as a value -/
abbrev SignAt (x : Str) : Nat → Value → Prop := fun i v => ∃ c u, x.cps[i]? = some c ∧ v = .str ⟨#[c]⟩ u
theorem draws_text {X : Cx} {pins : List (Addr × Obj)} {σ : L2.St} {H : Hp} {s : Shared} (I : Inv X pins σ H s) (calm : X.calm = true) (n : Addr) (x : Str) (t : Tok) :
    Draws X.prog X.w X.A.in1 n [n] x.cps.size (SignAt x) fun i g => g.IsStrIter n (strIterType x) x t i :=
  Draws.text (A := X.A.in1) (show X.A.in1.handled = none from I.ok.hd calm) n x t
/-- the two objects before turn i: m enumerates, n walks the text -/
structure EnS (x : Str) (t : Tok) (m n : Addr) (i : Nat) (g : Heap) : Prop where
  outer : ∃ last, IsEnum g m n ((i : Nat) : Int) last
  inner : g.IsStrIter n (strIterType x) x t i
  apart : m ≠ n
  inside : i ≤ x.cps.size
theorem pair_mem {b m n : Addr} (h : b ∈ [m, n]) : b = m ∨ b = n := by simpa using h
theorem EnS.below {x : Str} {t : Tok} {m n : Addr} {i : Nat} {g : Heap} (S : EnS x t m n i g) {b : Addr} (h : b ∈ [m, n]) : b < g.objs.size :=
  (pair_mem h).elim (fun z => let ⟨_, q⟩ := S.outer; z ▸ Heap.lt_size q) fun z => let ⟨_, q, _⟩ := S.inner; z ▸ Heap.lt_size q
theorem turn_enumS {P : Program} {w : World} {K : PySem.W.Frag} {es : List Expr} {j : Nat} {tp : Pos} (x : Str) (t : Tok) (m n : Addr) : Turn P w K (.Tuple es j tp) (ItEs x) [m, n] m (EnS x t m n) where
  mem := by simp
  obj := fun i g S b hb => (pair_mem hb).elim (fun z => let ⟨_, q⟩ := S.outer; z ▸ ⟨_, q, fun v y => nomatch y⟩) fun z => let ⟨o, q, _, dat⟩ := S.inner; z ▸ ⟨o, q, fun v y => by rw [dat] at y; cases y⟩
  keep := fun i g g' S k => ⟨let ⟨l, q⟩ := S.outer; ⟨l, k m (by simp) _ q⟩, let ⟨o, q, r⟩ := S.inner; ⟨o, k n (by simp) o q, r⟩, S.apart, S.inside⟩
  item := by
    rintro X rfl rfl rfl calm i pins s σ H E I free S (lt : i < x.cps.size)
    obtain ⟨last, out⟩ := S.outer
    have ne := S.apart
    refine wpAny_pyNext_enum_itemD (draws_text I calm n x t) out S.inner lt ne (by simpa using ne) fun v g1 tk hv out1 in1 tup1 _ old1 => ?_
    obtain ⟨c, u, hc, rfl⟩ := hv
    refine ⟨_, rfl, wpAny_letOwnedTupleGo_enum (s := { s with heap := g1, toks := tk + 1 }) out1 fun g2 out2 only2 => ?_⟩
    have lm : m < s.heap.objs.size := S.below (by simp)
    have tup2 := (only2.2 _ (Nat.ne_of_gt lm)).trans tup1
    have obj2 : ObjOk X.prog X.w (upd H s.heap.objs.size (.tup [.int (i : Nat), .str ⟨#[c]⟩])) g2 s.heap.objs.size (.tup [.int (i : Nat), .str ⟨#[c]⟩]) :=
      ⟨(by decide : 2 ≤ sizeLine), [.int i tk, .str ⟨#[c]⟩ u], .cons ⟨tk, rfl⟩ (.cons ⟨u, rfl⟩ .nil), _, tup2, rfl, _, rfl⟩
    have kept2 : ∀ b ob, b ∉ [m, n] → s.heap.get? b = some ob → g2.get? b = some ob := fun b ob hb q =>
      (only2.2 b fun z => hb (z ▸ List.mem_cons_self)).trans (old1 b ob (fun z => hb (z ▸ List.mem_cons_self)) (fun z => hb (z ▸ List.mem_cons_of_mem _ List.mem_cons_self)) q)
    refine ⟨.ref s.heap.objs.size, _, I.turnedNew (t' := tk + 1) (ch := [m, n]) kept2 free (Nat.le_refl _) obj2, rfl, ⟨_, c, rfl, I.hok.fresh (Nat.le_refl _), rfl, hc⟩, ⟨⟨.str ⟨#[c]⟩ u, ?_⟩, ?_, ne, lt⟩, fun b hb => ?_⟩
    · rw [show ((i + 1 : Nat) : Int) = (i : Int) + 1 from rfl]
      exact out2
    · exact let ⟨o, q, r⟩ := in1; ⟨o, (only2.2 n (Ne.symm ne)).trans q, r⟩
    · exact (upd_ne (Nat.ne_of_lt (S.below hb))).trans (free b hb).1
  done := by
    rintro X rfl rfl rfl calm i pins s σ H E I free S (ge : x.cps.size ≤ i)
    obtain rfl : i = x.cps.size := Nat.le_antisymm S.inside ge
    obtain ⟨last, out⟩ := S.outer
    obtain ⟨a0, a1, _, a3, a4, a5⟩ := free n (by simp)
    exact wpAny_pyNext_enum_endD (draws_text I calm n x t) out S.inner fun g eb => ⟨rfl, I.turned (t' := s.toks) (fun b o hb q => eb b o hb q) a0 a1 a3 a4 a5⟩
  self := fun A i s Q E S k => let ⟨_, q⟩ := S.outer; wpAny_pyIter_enum q k
def iEnumS (ta : TA) : TI := fun σ H R => ta σ H fun vs H1 => ∃ x, vs = [.str x] ∧ R (ItEs x) H1
theorem pi_enumS {X : Cx} {e : Expr} {ta : TA} {p pos tp : Pos} {es : List Expr} {j : Nat} (gl : Gl X "enumerate") (no : X.mg "enumerate" = none) (ha : PA X [e] ta) (one : starEach [e] X.env = [(false, eval e X.env)] := by rfl) :
    PI X (.Tuple es j tp) (.Call (.Name "enumerate" p) [e] [] pos) (iEnumS ta) where
  run := fun pins s σ H R I hw => by
    refine Call_ (ld_blt I gl no boot_enumerate (PyProof.Rows.callWith_type1 (thn (ha.run pos pins s σ H _ I hw) fun us t ⟨vs, G, J, rel, x, ex, q⟩ => ?_) one rfl))
    subst ex
    obtain ⟨y, rfl, tk, rfl⟩ := vals1 rel
    refine call_enumerate_str fun g out inn _ old => wpAny_pyIter_enum out ?_
    let k := t.heap.objs.size
    have J2 : Inv X pins σ G { t with heap := g } := J.kept (t' := t.toks) old
    refine ⟨k + 1, [k + 1, k], _, _, G, rfl, J2, turn_enumS x tk (k + 1) k, ⟨⟨.none, out⟩, inn, Nat.succ_ne_self k, Nat.zero_le _⟩, fun b hb => ?_, q⟩
    have le : k ≤ b := (pair_mem hb).elim (fun z => z ▸ Nat.le_succ k) fun z => z ▸ Nat.le_refl k
    exact J.fpOk le (J.hok.fresh le)
theorem walk_enumS {x : Str} : Walk (ItEs x) x.cps.size (fun _ => True) (fun i H v H' => ∃ T c, v = .ref T ∧ H T = none ∧ H' = upd H T (.tup [.int (i : Nat), .str ⟨#[c]⟩]) ∧ x.cps[i]? = some c) :=
  ⟨fun _ _ lt _ => lt, fun _ _ => Nat.le_refl _, fun _ _ _ _ _ _ yl => yl⟩

/-! ### a list or a tuple -/
def iSeq (K : PySem.W.Frag) (tl : TE) : TI := fun σ H R => tl σ H fun x H1 => ∃ a, x = .ref a ∧ (((∃ xs, SqL K H1 a xs) ∧ R (Itl K a) H1) ∨ ((∃ xs, SqT K H1 a xs) ∧ R (Itt K a) H1))
theorem pi_seq {X : Cx} {tg l : Expr} {tl : TE} (hl : PE X l tl) : PI X tg l (iSeq X.K tl) where
  run := fun pins s σ H R I hw => thn (hl.run pins s σ H _ I hw) fun v t ⟨y, G, J, rel, a, ey, q⟩ => by
    subst ey
    cases rel
    rcases q with ⟨⟨xs, hx⟩, q⟩ | ⟨⟨xs, hx⟩, q⟩
    · obtain ⟨_, _, pl, _⟩ := J.list hx
      exact wpAny_pyIter_list pl.isList (pi_one (tk := t.toks) J _ (turn_list a _) ⟨_, Heap.get?_push_size _ rfl, rfl, rfl⟩ q)
    · obtain ⟨us, _, pl, _⟩ := J.tuple hx
      exact wpAny_pyIter_tuple (show t.heap.IsTuple a us.toArray from pl) (pi_one (tk := t.toks) J _ (turn_tuple a _) ⟨_, Heap.get?_push_size _ rfl, rfl, rfl⟩ q)

/-! ### list(text) -/
theorem call_listS {X : Cx} (hc : X.calm = true) : CallR X (.type "list") (fun xs H Q => ∃ x : Str, xs = [.str x] ∧ x.length ≤ sizeLine ∧ ∀ l, H l = none → Q (.ref l) (upd H l (.lst (x.cps.toList.map fun c => V.str ⟨#[c]⟩)))) := by
  intro pins s σ H xs us Q I r h
  obtain ⟨x, rfl, hz, q⟩ := h
  obtain ⟨u, rfl, rx⟩ := vals1 r
  obtain ⟨t, rfl⟩ := rx
  refine PySem.call_list_str (I.ok.hd hc) x t (hn := hz) fun h' tk acc' c' hk hS' hacc => ?_
  have rv : Vals (x.cps.toList.map fun c => V.str ⟨#[c]⟩) acc'.toList := by
    refine vals_of_idx _ _ (by simp [hacc.1]) fun j u h2 => ?_
    obtain ⟨c, w, hc', e⟩ := hacc.2 j u (by simpa using h2)
    exact ⟨.str ⟨#[c]⟩, by simp [hc'], by rw [e]; exact ⟨w, rfl⟩⟩
  refine ⟨.ref s.heap.objs.size, _, I.laid (t' := tk) hk (Nat.le_refl _) (show ObjOk X.prog X.w _ h' _ (.lst _) from ⟨?_, acc'.toList, c', rv, by simpa using hS'⟩), rfl, q _ (I.hok.fresh (Nat.le_refl _))⟩
  rw [List.length_map, Array.length_toList]
  exact hz

/-! ### a sign * int -/
theorem foldl_rep (c : Nat) : ∀ (n : Nat) (acc : Array Nat), ((List.replicate n #[c]).foldl (· ++ ·) acc) = acc ++ (List.replicate n c).toArray
  | 0, acc => by simp
  | n + 1, acc => by
    rw [List.replicate_succ, List.foldl_cons, foldl_rep c n]
    apply Array.ext'
    simp [List.replicate_succ]
theorem op_mulC {X : Cx} : OpR X (binaryOp .Mult) (fun x y H Q => ∃ (c : Nat) (n : Int), x = .str ⟨#[c]⟩ ∧ y = .int n ∧ 0 ≤ n ∧ n ≤ 1000 ∧ Q (.str ⟨(List.replicate n.toNat c).toArray⟩) H) := by
  intro pins s σ H x y v u Q I rx ry h
  obtain ⟨c, n, rfl, rfl, h0, h1, q⟩ := h
  obtain ⟨t, rfl⟩ := rx
  obtain ⟨t2, rfl⟩ := ry
  have hl1 : (⟨#[c]⟩ : Str).length = 1 := rfl
  refine PySem.P.mul_str ?_ ?_ ?_ ?_
  · have e1 : ¬ n < -(2 ^ 63 : Int) := by omega
    have e2 : ¬ n ≥ 2 ^ 63 := by omega
    rw [decide_eq_false e1, decide_eq_false e2]; rfl
  · intro hn _
    rw [hl1]
    have hn' : 1 ≤ n := by omega
    have : (1 : Int) ≤ (2 ^ 63 - 1) / n := by
      rw [Int.le_ediv_iff_mul_le (by omega)]
      omega
    have e : ((1 : Nat) : Int) = 1 := rfl
    omega
  · intro _ _
    rw [hl1]
    unfold Builtin.Str.tooLong
    rw [decide_eq_false]
    rw [sizeLine_eq]
    omega
  · by_cases c1 : n < 1
    · rw [if_pos c1]
      have e : n.toNat = 0 := by omega
      rw [e] at q
      exact ⟨by decide, .str Str.empty, H, I.tok _, ⟨_, rfl⟩, q⟩
    · rw [if_neg c1]
      by_cases c2 : (n == 1 || (⟨#[c]⟩ : Str).length == 0) = true
      · rw [if_pos c2]
        have e : n = 1 := by
          rw [hl1] at c2
          simpa using c2
        subst e
        exact ⟨.str ⟨#[c]⟩, H, I, ⟨_, rfl⟩, q⟩
      · rw [if_neg c2]
        have e := foldl_rep c n.toNat #[]
        show _ ∧ _
        rw [e, Array.empty_append]
        refine ⟨?_, .str ⟨(List.replicate n.toNat c).toArray⟩, H, I.tok _, ⟨_, rfl⟩, q⟩
        show (⟨(List.replicate n.toNat c).toArray⟩ : Str).length ≤ sizeLine
        rw [sizeLine_eq]
        show (List.replicate n.toNat c).toArray.size ≤ 16777216
        simp
        omega

/-! ### dict(d), d with tuple keys of different hashes -/
/-- an empty dict more -/
abbrev born (s : Shared) : Shared := { s with heap := s.heap.push PySem.W.emptyDict }
theorem call_dict_heap {prog : Program} {w : World} {κ : Type} [DecidableEq κ] {knd : HeapKind prog w κ} {A : Around} {E : Value → Shared → Prop} {s : Shared} {src : Addr} {ents : List (κ × Addr × Value)} {Q : Value → Shared → Prop} (room : knd.room A.in1.in1)
    (noS : (src == sysModules) = false) (at0 : s.heap.DictOfH knd src ents) (at1 : (born s).heap.DictOfH knd src ents) (tups : ∀ e ∈ ents, (born s).TypeIs (.ref e.2.1) "tuple") (diff : (ents.map fun e => knd.hash e.1).Nodup) (few : ents.length ≤ sizeLine)
    (k : ∀ g, g.DictOfH knd s.heap.objs.size ents → Heap.SameBut s.heap.objs.size (born s).heap g → Q (.ref s.heap.objs.size) { s with heap := g }) : wpAny (model prog w) A (call (.type "dict") [.ref src]) Q E s := by
  have other : s.heap.objs.size ≠ src := let ⟨_, _, _, q, _⟩ := at0; Nat.ne_of_gt (Heap.lt_size q)
  have isD : (born s).TypeIs (.ref s.heap.objs.size) "dict" := ⟨_, Heap.get?_push_size _ rfl, rfl⟩
  refine callType_codes (Q₁ := fun d t => d = .ref s.heap.objs.size ∧ t = born s) F.kt_called_dict (F.kt_typeCall_dict_1 _) F.entry_dict_init (kt_code_dict_new _ ⟨rfl, rfl⟩) fun d t ⟨ed, et⟩ => ?_
  subst ed et
  refine ⟨isD, F.args_dict_init_2 _ _, ?_⟩
  unfold Builtin.«dict.__init__» Builtin.Dict.selfAndRest
  refine wpAny_bind (wpAny_bind (wpAny_notOrdered_dict isD (wpAny_pure ?_)))
  refine updateFrom_dictH (A := A.in1) (knd := knd) (kvs := []) .none room other noS (Heap.DictOfH.new s.heap) at1 (.inr ⟨tups, diff⟩) (by simpa using few) fun g gd _ only => ?_
  rw [storedAllH_nil_of_nodup ents at0.nodup] at gd
  exact ⟨rfl, k g gd only⟩
theorem kt_keys {H : Hp} : ∀ {kvs : List (List Key × V)} {xs : List (List Key × Addr × Value)}, KT H kvs xs → kvs.map (·.1) = xs.map (·.1)
  | _, _, .nil => rfl
  | _, _, .cons r t => by rw [List.map_cons, List.map_cons, r.1, kt_keys t]
theorem kt_mem {H : Hp} : ∀ {kvs : List (List Key × V)} {xs : List (List Key × Addr × Value)}, KT H kvs xs → ∀ x ∈ xs, H x.2.1 = some (.tup (x.1.map kV))
  | _, _, .nil, x, hx => absurd hx List.not_mem_nil
  | _, _, .cons r t, x, hx => by
    rcases List.mem_cons.mp hx with e | hx
    · rw [e, ← r.1]; exact r.2.1
    · exact kt_mem t x hx
theorem call_dictT {X : Cx} (hu : X.A.units + 64 < cLine) : CallR X (.type "dict") (fun xs H Q => ∃ (a : Addr) (kvs : List (List Key × V)), xs = [.ref a] ∧ H a = some (.dT kvs) ∧ (kvs.map fun kv => (tupleKind (mixKind X.prog X.w)).hash kv.1).Nodup ∧ ∀ p, H p = none → Q (.ref p) (upd H p (.dT kvs))) := by
  intro pins s σ H xs us Q I r q
  obtain ⟨a, kvs, rfl, ha, hh, q⟩ := q
  obtain ⟨u, rfl, rx⟩ := vals1 r
  cases rx
  obtain ⟨z, lo, ws, kt, dd⟩ := dt_rd I.hok (.inl ha)
  have hm : (s.heap.objs.size == sysModules) = false := beq_eq_false_iff_ne.mpr fun z => Nat.ne_of_gt I.big z
  have hap : (ws.map fun x => (tupleKind (mixKind X.prog X.w)).hash x.1).Nodup := by
    have e := congrArg (List.map (tupleKind (mixKind X.prog X.w)).hash) (kt_keys kt)
    simp only [List.map_map] at e
    exact e ▸ hh
  refine call_dict_heap (show X.A.units + 1 + 1 < cLine by omega) lo dd ?_ (fun x hx => ?_) hap (by rw [← Paired.length kt]; exact z) fun h' d' hs => ?_
  · obtain ⟨o, es, ep, h1, h2, h3, h4, h5, h6⟩ := dd
    exact ⟨o, es, ep, Heap.get?_push_of_some _ h1, h2, h3, h4, fun x hx => key_of (I.kept (t' := s.toks) fun b o e => Heap.get?_push_of_some _ e).hok (kt_mem kt x hx), h6⟩
  · obtain ⟨_, its, _, o, h1, h2, _⟩ := (show ObjOk X.prog X.w H s.heap x.2.1 (.tup _) from I.hok _ _ (kt_mem kt x hx))
    exact ⟨o, Heap.get?_push_of_some _ h1, h2⟩
  · obtain ⟨o, es, ep, h1, h2, h3, h4, h5, h6⟩ := d'
    have nf : H s.heap.objs.size = none := I.hok.fresh (Nat.le_refl _)
    refine ⟨.ref s.heap.objs.size, upd H s.heap.objs.size (.dT kvs), I.laid (t' := s.toks) (fun b u e => (hs.2 b (Nat.ne_of_lt (Heap.lt_size e))).trans (Heap.get?_push_of_some _ e)) (Nat.le_refl _)
      (show ObjOk X.prog X.w _ _ _ (.dT kvs) from ⟨z, hm, ws, ?_, o, es, ep, h1, h2, h3, h4, h6⟩), rfl, q _ nf⟩
    exact KT.keeps kt fun b ys e => by rw [upd_ne (ne_of_none e nf)]; exact e

/-! ### len(o) by an own __len__ -/
theorem call_lenO {X : Cx} {C f : Addr} {fd : FuncData} {k : Nat} {sp : Sp} (F : FnOk X.prog X.w X.K X.mg X.base CX0 k f fd ["self"] sp) (hr : Room (k + 1) X.A)
    (m : Meth X.K C "__len__" f) (hb : Binds X.K fd ["self"] []) : CallR X (.builtin "len") (fun xs H Q => ∃ a dx fs, xs = [.ref a] ∧ H a = some (.ins C dx fs) ∧ sp [.ref a] H (fun v H' => ∃ n : Int, v = .int n ∧ 0 ≤ n ∧ n < 2 ^ 63 ∧ Q (.int n) H') E0) := by
  intro pins s σ H xs us Q I r h
  obtain ⟨a, dx, fs, rfl, ha, hsp⟩ := h
  obtain ⟨u, rfl, rx⟩ := vals1 r
  cases rx
  obtain ⟨_, here, _⟩ := ins_get I.hok ha
  obtain ⟨_, look, _⟩ := here.look
  obtain ⟨_, frame⟩ := I.fr
  refine PySem.W.len_K frame I.ok.mod.kin look m.at_ m.fn ?_
  have z := I.env0
  have ev : Env0 X.prog X.w X.K X.mg X.base X.A.in1 X.stack s H := ⟨z.frames, z.mod, z.bs, z.bsz, z.funs, z.frf, z.hok, z.bare⟩
  have bt : BindsTo s fd ⟨[.ref a], []⟩ ((["self"] : List Str).zip [Value.ref a]) := by simpa using hb s [.ref a] I.kIn rfl
  refine wpAny_call (codeAny_mono (F.run X.A.in1 X.stack s H ⟨[.ref a], []⟩ [.ref a] [.ref a] _ E0 hr.in1 ev bt (.cons rfl .nil) hsp) fun r s' hq => ?_)
  cases r with
  | error e => exact hq.elim
  | ok fl =>
    cases fl with
    | ret w =>
      obtain ⟨z, H', I', rz, n, ez, h0, h1, q⟩ := I.after hq
      subst ez
      obtain ⟨t, rfl⟩ := rz
      exact ⟨⟨h0, h1⟩, .int n, H', I'.tok _, ⟨_, rfl⟩, q⟩
    | next => exact False.elim hq
    | brk => exact False.elim hq
    | cont => exact False.elim hq

/-! ### a dict comprehension over a walk -/
/-- one turn of {tk: tv for g in .. if tt}, Nx the heaps behind it -/
abbrev dcTurn (g : TG) (tt : TT) (tk tv : TE) (vs : List Nat) (σ : L2.St) (D : Addr) (Nx : Hp → Prop) (x : V) (H : Hp) : Prop :=
  g x (wipe σ vs) H fun σ2 H2 => wipe σ2 vs = wipe σ vs ∧ tt σ2 H2 fun b H3 => if b = true then tk σ2 H3 fun y H4 => tv σ2 H4 fun z H5 =>
    ∃ kvs k, y = kV k ∧ H5 D = some (.dK kvs) ∧ kvs.length < sizeLine ∧ Nx (upd H5 D (.dK (putK kvs k z)))
  else Nx H3
/-- its loop over J -/
abbrev dcLoop (J : It) (g : TG) (tt : TT) (tk tv : TE) (vs : List Nat) (σ : L2.St) (H : Hp) (D : Addr) (End : Hp → Prop) : Prop :=
  ∃ W : Nat → Nat → Hp → Prop, (∃ m, W 0 m (upd H D (.dK []))) ∧ ∀ i m H1, W i m H1 → (J.stop i H1 ∧ End H1) ∨
    (J.go i H1 ∧ ∃ Nx : Hp → Prop, (∀ H2, Nx H2 → ∃ m2, m2 < m ∧ W (i + 1) m2 H2) ∧ ∀ x H2, J.yld i H1 x H2 → dcTurn g tt tk tv vs σ D Nx x H2)
theorem dc_it {J : It} {n : Nat} {G : Hp → Prop} {Y : Nat → Hp → V → Hp → Prop} (w : Walk J n G Y) {g : TG} {tt : TT} {tk tv : TE} {vs : List Nat} {σ : L2.St} {H : Hp} {D : Addr} {End : Hp → Prop} (Pv : Nat → Hp → Prop) (first : Pv 0 (upd H D (.dK [])))
    (good : ∀ i H1, i ≤ n → Pv i H1 → G H1) (turn : ∀ i x H1 H2, i < n → Pv i H1 → Y i H1 x H2 → dcTurn g tt tk tv vs σ D (Pv (i + 1)) x H2) (last : ∀ H1, Pv n H1 → End H1) : dcLoop J g tt tk tv vs σ H D End := by
  refine ⟨fun i m H1 => m + i = n ∧ Pv i H1, ⟨n, rfl, first⟩, fun i m H1 ⟨e, pv⟩ => ?_⟩
  have ok := good i H1 (by omega) pv
  by_cases lt : i < n
  · exact .inr ⟨w.goes i H1 lt ok, Pv (i + 1), fun H2 pv2 => ⟨m - 1, by omega, by omega, pv2⟩, fun x H2 yl => turn i x H1 H2 lt pv (w.yields i H1 x H2 lt ok yl)⟩
  · obtain rfl : i = n := by omega
    exact .inl ⟨w.stops H1 ok, last H1 pv⟩
end Rj
end
section
set_option Elab.async false
set_option linter.all false
set_option maxRecDepth 100000
set_option maxHeartbeats 2000000
/-! sorted(pairs, key=lambda entry: (-entry[1], entry[0])), the entries ((x, y), total). -/
namespace Rj
open PySem PySem.Spec PyProof.Rows L2 LamX
open PySem.W (EachIs AllAlike Sortable KeyPure dataLe dataLt dataLt_pair dataLt_int dataLt_ii alike)

/-- the key of an entry -/
def keyD (e : (Int × Int) × Int) : PyData := .tuple [.int (-e.2), .tuple [.int e.1.1, .int e.1.2]]
def leE (e f : (Int × Int) × Int) : Bool := decide (f.2 < e.2) || (decide (e.2 = f.2) && (decide (e.1.1 < f.1.1) || (decide (e.1.1 = f.1.1) && decide (e.1.2 ≤ f.1.2))))
theorem keyD_lt (e f : (Int × Int) × Int) : dataLt (keyD e) (keyD f) = decide (f.2 < e.2 ∨ (e.2 = f.2 ∧ (e.1.1 < f.1.1 ∨ (e.1.1 = f.1.1 ∧ e.1.2 < f.1.2)))) := by
  unfold keyD
  rw [dataLt_pair (by simp [alike]) (by simp [alike, PySem.W.alikeAll]), dataLt_int, dataLt_ii]
  have e1 : PyData.eqv (.int (-e.2)) (.int (-f.2)) = decide (e.2 = f.2) := by
    simp only [PyData.eqv]
    by_cases h : e.2 = f.2
    · rw [h]; simp
    · have h' : ¬ -e.2 = -f.2 := by omega
      simp [h, h']
  have e2 : PyData.eqv (.tuple [.int e.1.1, .int e.1.2]) (.tuple [.int f.1.1, .int f.1.2]) = (decide (e.1.1 = f.1.1) && decide (e.1.2 = f.1.2)) := by
    simp only [PyData.eqv, PyData.eqvAll, Bool.and_true]
    by_cases h : e.1.1 = f.1.1 <;> by_cases h' : e.1.2 = f.1.2 <;> simp [h, h']
  rw [e1, e2]
  by_cases h : e.2 = f.2
  · by_cases h1 : e.1.1 = f.1.1 <;> by_cases h2 : e.1.2 = f.1.2 <;> simp [h, h1, h2]
  · have h3 : (-e.2 < -f.2) = (f.2 < e.2) := by
      apply propext
      constructor <;> intro q <;> omega
    simp [h, h3]
theorem keyD_le : dataLe false keyD = leE := by
  funext e f
  show (!dataLt (keyD f) (keyD e)) = leE e f
  rw [keyD_lt]
  unfold leE
  by_cases h : e.2 < f.2 ∨ (f.2 = e.2 ∧ (f.1.1 < e.1.1 ∨ (f.1.1 = e.1.1 ∧ f.1.2 < e.1.2)))
  · rw [decide_eq_true h]
    symm
    simp only [Bool.not_true, Bool.or_eq_false_iff, Bool.and_eq_false_iff, decide_eq_false_iff_not]
    omega
  · rw [decide_eq_false h]
    symm
    simp only [Bool.not_false, Bool.or_eq_true, Bool.and_eq_true, decide_eq_true_eq]
    omega
theorem leE_total (e f : (Int × Int) × Int) : (leE e f || leE f e) = true := by
  unfold leE
  simp only [Bool.or_eq_true, Bool.and_eq_true, decide_eq_true_eq]
  omega
theorem leE_trans (e f g : (Int × Int) × Int) : leE e f = true → leE f g = true → leE e g = true := by
  unfold leE
  simp only [Bool.or_eq_true, Bool.and_eq_true, decide_eq_true_eq]
  omega

/-! ### the lambda's body -/
def lamArgs (p : Pos) : Arguments := { posonlyargs := [], args := [{ arg := "entry", annotation := none, pos := p }], vararg := none, kwonlyargs := [], kw_defaults := [], kwarg := none, defaults := [] }
def lamBody (p1 p2 p3 p4 p5 p6 p7 p8 : Pos) (j1 j2 k : Nat) : Expr :=
  .Tuple [.UnaryOp .USub (.Subscript (.Name "entry" p1) (.Constant (.int 1) j1 p2) p3) p4, .Subscript (.Name "entry" p5) (.Constant (.int 0) j2 p6) p7] k p8
def lamScope : Scope := { kind := .function, names := [(PySem.Str.ofString "entry", .local)], isGenerator := false, isCoroutine := false, more := [] }
section
variable {prog : Program} {w : World} {A : Around} {E : Value → Shared → Prop} {s : Shared}
theorem entry_at {env : Env} {m : Str → Option Value} {e : Addr} {its : Array Value} {i : Int} {j : Nat} {x : Value} {p1 p2 p3 : Pos} {k : Nat} {Q : Value → Shared → Prop} (hk : env.scope.kind = .function) (hl : env.kindOf "entry" = some .local) (hn : s.heap.Ns env.locals m) (hm : m "entry" = some (Value.ref e))
    (ht : IsTup s.heap e its) (hlo : -(2 ^ 63) ≤ i) (hhi : i < 2 ^ 63) (hj : seqIndex? i its.size = some j) (hx : its[j]? = some x) (h : ∀ tk, Q x { s with toks := tk }) :
    wpAny (model prog w) A (eval (.Subscript (.Name "entry" p1) (.Constant (.int i) k p2) p3) env) Q E s := by
  refine Subscript_ (wpAny_Name (wpAny_loadName_local hk hl hn hm (wpAny_Constant_int ?_)))
  exact subscriptTail_builtinR (x := x) (s := { s with toks := s.toks + 1 }) (IsTup.typeIs (s := { s with toks := s.toks + 1 }) ht) slot_tuple_getitem.lookup
    (getItem_tuple (j := j) (Q := fun r s' => r = x ∧ Q r s') ht hlo hhi hj hx ⟨rfl, h _⟩)
theorem lam_key {f c' e pr : Addr} {q : Str} {pm ctv : Value} {p0 p1 p2 p3 p4 p5 p6 p7 p8 : Pos} {j1 j2 k : Nat} {x y t : Int} {tx ty tt : Tok} (hroom : A.depth < recursionLimit) (hlim : s.heap.NoLimit)
    (hf : s.heap.get? f = some (PySem.W.kla_obj "<lambda>" q (lamArgs p0) (lamBody p1 p2 p3 p4 p5 p6 p7 p8 j1 j2 k) lamScope [] pm c' ctv)) (hc : s.heap.CodeRec (.ref c') q)
    (he : IsTup s.heap e #[.ref pr, .int t tt]) (hp : IsTup s.heap pr #[.int x tx, .int y ty]) :
    wpAny (model prog w) A (call (.ref f) [.ref e]) (KeyPure (keyD ((x, y), t)) s) E s := by
  refine wpAny_call (PySem.W.kla_callFunE hroom hf rfl rfl rfl rfl hc ?_)
  have hb : bindArgs (PySem.W.kla_fn "<lambda>" q (lamArgs p0) (lamBody p1 p2 p3 p4 p5 p6 p7 p8 j1 j2 k) lamScope [] pm (.ref c') ctv) ⟨[.ref e], []⟩ = pure [(("entry" : Str), Value.ref e)] := by rfl
  rw [hb]
  refine wpAny_pure (wpAny_newFunctionEnv (show ∀ x ∈ lamScope.names, x.2 ≠ .cell by decide +kernel) (fun z hz => ?_) (fun h₁ hns hsb => ⟨hlim.fresh _ hsb, ?_⟩) rfl)
  · have : z = (("entry" : Str), Value.ref e) := by simpa using hz
    rw [this]
    rfl
  have kp : ∀ b o, s.heap.get? b = some o → h₁.get? b = some o := fun b o z => hsb.extBut b o (Nat.ne_of_lt (Heap.lt_size z)) (Heap.get?_push_of_some _ z)
  have he₁ : IsTup h₁ e #[.ref pr, .int t tt] := by
    obtain ⟨o, h1, h2⟩ := he
    exact ⟨o, kp _ _ h1, h2⟩
  have hp₁ : IsTup h₁ pr #[.int x tx, .int y ty] := by
    obtain ⟨o, h1, h2⟩ := hp
    exact ⟨o, kp _ _ h1, h2⟩
  refine PySem.W.kla_codeExpr ?_
  unfold lamBody
  refine wpAny_Tuple_spliced ?_
  refine Calls.spliced_cons (UnaryOp_ (entry_at (m := fun z => ([("entry", Value.ref e)] : List (Str × Value)).reverse.lookup z) (e := e) (j := 1) rfl rfl hns rfl he₁ (by decide) (by decide) rfl rfl fun tk => neg_int ?_))
  refine Calls.spliced_cons (entry_at (m := fun z => ([("entry", Value.ref e)] : List (Str × Value)).reverse.lookup z) (e := e) (j := 0) rfl rfl hns rfl he₁ (by decide) (by decide) rfl rfl fun tk2 => ?_)
  refine Calls.spliced_nil ⟨by show 2 ≤ sizeLine; decide, ?_⟩
  have get2 : ∀ b o, h₁.get? b = some o → (h₁.push { cls := .type "tuple", data := .seq ([Value.int (-t) tk, Value.ref pr] : List Value).toArray }).get? b = some o := fun b o z => Heap.get?_push_of_some _ z
  obtain ⟨op, g1, g2, n, g3⟩ := hp₁
  refine ⟨_, _, rfl, fun b o z => get2 b o (kp b o z), ?_⟩
  exact Reads.tuple (as := []) (Heap.get?_push_size _ rfl) rfl rfl (.cons (as := []) (.int _ _) (.cons (as := []) (bs := []) (.tuple (as := []) (get2 _ _ g1) g2 g3 (.cons (as := []) (.int _ _) (.cons (as := []) (bs := []) (.int _ _) .nil))) .nil))
end

/-! ### the rule -/
/-- an entry's tuple, its pair's tuple, what they hold -/
abbrev En := Addr × Addr × ((Int × Int) × Int)
def EnAt (H : Hp) (b : En) : Prop := H b.1 = some (.tup [.ref b.2.1, .int b.2.2.2]) ∧ H b.2.1 = some (.tup [.int b.2.2.1.1, .int b.2.2.1.2])
def tSortL (P : Addr) (q : Str) (t : TA) : TE := fun σ H Q => t σ H fun vs H1 => ∃ (a : Addr) (bs : List En), vs = [.ref a] ∧ H1 a = some (.lst (bs.map fun b => V.ref b.1)) ∧ (∀ b ∈ bs, EnAt H1 b) ∧ TabS H1 P q ∧
  ∀ (H2 : Hp) (p : Addr), ExtN H1 H2 → TabS H2 P q → H2 p = none → Q (.ref p) (upd H2 p (.lst ((bs.mergeSort fun b c => leE b.2.2 c.2.2).map fun b => V.ref b.1)))
theorem each_of {bs : List En} : ∀ {us : List Value}, Vals (bs.map fun b => V.ref b.1) us → EachIs (fun v (b : En) => v = Value.ref b.1) us bs := by
  induction bs with
  | nil => intro us r; cases r; exact .nil
  | cons b bs ih =>
    intro us r
    rw [List.map_cons] at r
    cases r with
    | cons h t => exact .cons h (ih t)
theorem vals_each {bs : List En} : ∀ {us : List Value}, EachIs (fun v (b : En) => v = Value.ref b.1) us bs → Vals (bs.map fun b => V.ref b.1) us := by
  induction bs with
  | nil => intro us r; cases r; exact .nil
  | cons b bs ih =>
    intro us r
    cases r with
    | cons h t => exact .cons h (ih t)
section
variable {X : Cx}
theorem pe_sortL {e : Expr} {t : TA} {c P : Addr} {k : Nat} {p pos lpos kpos p0 p1 p2 p3 p4 p5 p6 p7 p8 : Pos} {j1 j2 jk : Nat} (hg : Gl X "sorted") (hm : X.mg "sorted" = none) (he : PA X [e] t)
    (TB : TabB X.base X.mg c P) (hcode : X.env.code = .ref c) (hr : Room (k + 3) X.A)
    (hs : backTo pos (starEach [e] X.env) = (false, eval e X.env) :: backTo pos (starEach [] X.env) := by rfl) (hpl : (backTo pos (starEach [e] X.env)).any (·.1) = false := by rfl) :
    PE X (.Call (.Name "sorted" p) [e] [⟨some "key", .Lambda (lamArgs p0) (lamBody p1 p2 p3 p4 p5 p6 p7 p8 j1 j2 jk) lamScope lpos, kpos⟩] pos) (tSortL P (X.env.qual ++ "<lambda>") t) := by
  refine ⟨fun pins s σ H Q I h => ?_⟩
  refine wpAny_Call_Name_kw (ld_blt I hg hm (u := .builtin "sorted") (by decide +kernel) ?_)
  refine PyProof.Rows.callWith_kw (thn (he.run pos pins s σ H _ I h) fun us s1 ⟨vs, H1, I1, r1, q1⟩ => ?_) hs hpl (by rfl) (by rfl)
  obtain ⟨a, bs, rfl, ha, hb, hT, q⟩ := q1
  obtain ⟨u, rfl, ru⟩ := vals1 r1
  cases ru
  show wpAny _ _ (evalAll ((do let v ← eval (.Lambda (lamArgs p0) (lamBody p1 p2 p3 p4 p5 p6 p7 p8 j1 j2 jk) lamScope lpos) X.env; standAt pos; pure v) :: [])) _ _ s1
  refine wpAny_evalAll_cons (wpAny_bind (lam_make2 (T := [(P, X.env.qual ++ "<lambda>")]) I1 TB hcode (by simp) (fun p hp _ => by rw [List.mem_singleton.mp hp]) (fun p hp => by rw [List.mem_singleton.mp hp]; exact hT) rfl (fun y hy e => ?_) fun f c' pm ctv H2 s2 I2 eN T2 hf hfn hfr hco => ?_))
  · have : y = (PySem.Str.ofString "entry", NameKind.local) := by simpa [lamScope] using hy
    rw [this] at e
    cases e
  refine wpAny_bind (wpAny_standAt (wpAny_pure (wpAny_evalAll_nil ?_)))
  have ha2 : H2 a = some (.lst (bs.map fun b => V.ref b.1)) := eN _ _ ha (fun ps z => by cases z)
  have hb2 : ∀ b ∈ bs, EnAt H2 b := fun b hm => ⟨eN _ _ (hb b hm).1 (fun ps z => by cases z), eN _ _ (hb b hm).2 (fun ps z => by cases z)⟩
  obtain ⟨hz, its, n, rv, hl⟩ := (show ObjOk X.prog X.w H2 s2.heap a (.lst _) from I2.hok a _ ha2)
  have hlen : bs.length ≤ sizeLine := by simpa using hz
  obtain ⟨⟨oc, cvs, ct, hoc, hdc, hvc⟩, _, _⟩ := I2.hok c' _ hco
  have hu := hr.units
  have ek : dataLe false (fun b : En => keyD b.2.2) = fun b c => leE b.2.2 c.2.2 := by
    funext b c
    show dataLe false keyD b.2.2 c.2.2 = _
    rw [keyD_le]
  refine PySem.W.sorted_key_data (l := a) (f := .ref f) (b := false) (bs := bs) (R := fun v (b : En) => v = Value.ref b.1) (fun b : En => keyD b.2.2) ⟨_, hl, rfl, n, rfl⟩ (each_of rv) (AllAlike.of fun _ _ => by simp [alike, PySem.W.alikeAll, keyD]) (Sortable.tuples fun _ => ⟨_, _, rfl⟩) hlen (fun b _ => ?_) (PyProof.Rows.ksk_s1 _ _) (fun _ => PyProof.Rows.ksk_l1 _ _) (fun _ => PyProof.Rows.ksk_t1 _ _) (fun v b hv hbm h' tk kp => ?_) fun out c2 h' tk kp hfr2 hD hol eo => ?_
  · have hd : (keyD b.2.2).depth = 2 := by simp [keyD, PyData.depth, PyData.depthAll]
    omega
  · subst hv
    obtain ⟨hb1, hb3⟩ := hb2 b hbm
    obtain ⟨_, i1, r1', o1, g1, g2, n1, g3⟩ := (show ObjOk X.prog X.w H2 s2.heap b.1 (.tup _) from I2.hok _ _ hb1)
    obtain ⟨_, i2, r2', o2, k1, k2, n2, k3⟩ := (show ObjOk X.prog X.w H2 s2.heap b.2.1 (.tup _) from I2.hok _ _ hb3)
    obtain ⟨w1, w2, rfl, v1, v2⟩ := vals2 r1'
    obtain ⟨w3, w4, rfl, v3, v4⟩ := vals2 r2'
    cases v1
    obtain ⟨tt, rfl⟩ := v2
    obtain ⟨tx, rfl⟩ := v3
    obtain ⟨ty, rfl⟩ := v4
    exact lam_key (s := { s2 with heap := h', toks := tk }) hr.in1.in1.depth (I2.nolimit.keeps kp) (kp _ _ hf) ⟨c', oc, cvs, ct, rfl, kp _ _ hoc, hdc, hvc⟩ ⟨o1, kp _ _ g1, g2, n1, g3⟩ ⟨o2, kp _ _ k1, k2, n2, k3⟩
  · rw [ek] at eo
    refine ⟨.ref (s2.heap.objs.size + 1), upd H2 (s2.heap.objs.size + 1) (.lst ((bs.mergeSort fun b c => leE b.2.2 c.2.2).map fun b => V.ref b.1)), I2.laid (t' := tk) kp (Nat.le_succ _) ⟨?_, out, c2, vals_each eo, hD⟩, rfl, q H2 _ eN (T2 (P, X.env.qual ++ "<lambda>") (by simp)) (I2.hok.fresh (Nat.le_succ _))⟩
    rw [List.length_map, List.length_mergeSort]
    exact hlen
end
end Rj
end
section
set_option Elab.async false
set_option linter.all false
set_option maxRecDepth 100000
set_option maxHeartbeats 2000000
/-! The data as they stand in the heap. -/
namespace Rj
open PySem PySem.Spec PyProof.Rows L2

/-! ### texts -/
def tx (t : Txt) : Str := ⟨t.toArray⟩
theorem tx_app (a b : Txt) : tx a ++ tx b = tx (a ++ b) := by
  show (⟨a.toArray ++ b.toArray⟩ : Str) = ⟨(a ++ b).toArray⟩
  simp
theorem tx_len (a : Txt) : (tx a).length = a.length := by
  show a.toArray.size = a.length
  simp
theorem tx_inj {a b : Txt} (h : tx a = tx b) : a = b := by
  have := congrArg (fun s : Str => s.cps.toList) h
  simpa [tx] using this
theorem tx_cps (a : Txt) : (tx a).cps = a.toArray := rfl
theorem tx_one (c : Nat) : (⟨#[c]⟩ : Str) = tx [c] := rfl
theorem tx_of (s : Str) : s = tx s.cps.toList := by
  obtain ⟨a⟩ := s
  simp [tx]
abbrev vt (t : Txt) : V := .str (tx t)
theorem small_line {n : Nat} (h : n ≤ 100000) : n ≤ sizeLine := by rw [sizeLine_eq]; omega
theorem small_lt {n : Nat} (h : n ≤ 100000) : n < sizeLine := by rw [sizeLine_eq]; omega

theorem blT {p : Prop} [Decidable p] (h : p) : V.bl (decide p) = V.bl true := by rw [decide_eq_true h]
theorem blF {p : Prop} [Decidable p] (h : ¬ p) : V.bl (decide p) = V.bl false := by rw [decide_eq_false h]
/-- a comprehension without a test -/
theorem lcY {σ : L2.St} {H : Hp} {A B : Hp → Prop} (h : A H) : tYes σ H (fun b H3 => if b = true then A H3 else B H3) := iteT (A := A H) (B := B H) h
/-! ### heaps -/
theorem same_new {H : Hp} {p : Addr} {o : HO} (h : H p = none) : Same H (upd H p o) := fun b u e => by rw [upd_ne (ne_of_none e h)]; exact e
/-- what H does not know may change -/
theorem _root_.L2.Same.mut {H H' : Hp} {p : Addr} {o : HO} (e : Same H H') (h : H p = none) : Same H (upd H' p o) := fun a u ha => by rw [upd_ne (ne_of_none ha h)]; exact e a u ha
theorem _root_.L2.Same.add {H H' : Hp} {p : Addr} {o : HO} (e : Same H H') (h : H' p = none) : Same H (upd H' p o) := e.trans (same_new h)
/-- all but the table at T stays -/
def SameT (T : Addr) (H H' : Hp) : Prop := ∀ b o, b ≠ T → H b = some o → H' b = some o
theorem _root_.L2.Same.t {T : Addr} {H H' : Hp} (e : Same H H') : SameT T H H' := fun b o _ h => e b o h
theorem SameT.refl (T : Addr) (H : Hp) : SameT T H H := fun _ _ _ h => h
theorem SameT.trans {T : Addr} {H H1 H2 : Hp} (a : SameT T H H1) (b : SameT T H1 H2) : SameT T H H2 := fun c o n h => b c o n (a c o n h)
theorem SameT.add {T : Addr} {H H' : Hp} {p : Addr} {o : HO} (e : SameT T H H') (h : H' p = none) : SameT T H (upd H' p o) := e.trans (Same.t (same_new h))

/-! ### rows, pairs -/
abbrev row (R : List Int) : HO := .tup (R.map V.int)
abbrev pr2 (p : Int × Int) : HO := .tup [.int p.1, .int p.2]
/-- the addresses as hold the pairs ps -/
def PrsAt (H : Hp) (as : List Addr) (ps : List (Int × Int)) : Prop := Paired (fun a p => H a = some (pr2 p)) as ps
theorem PrsAt.len {H : Hp} {as : List Addr} {ps : List (Int × Int)} (h : PrsAt H as ps) : as.length = ps.length := Paired.length h
theorem PrsAt.mono {H H' : Hp} {as : List Addr} {ps : List (Int × Int)} (h : PrsAt H as ps) (e : ∀ b xs, H b = some (.tup xs) → H' b = some (.tup xs)) : PrsAt H' as ps := Paired.mapP h fun _ _ z => e _ _ z
theorem PrsAt.get : ∀ {H : Hp} {as : List Addr} {ps : List (Int × Int)} {i : Nat} {a : Addr}, PrsAt H as ps → as[i]? = some a → ∃ p, ps[i]? = some p ∧ H a = some (pr2 p)
  | _, _, _, _, _, .nil, h => by simp at h
  | _, _, _, 0, _, .cons r _, h => by simp at h; subst h; exact ⟨_, rfl, r⟩
  | _, _, _, i + 1, a, .cons _ t, h => by
    obtain ⟨p, h1, h2⟩ := PrsAt.get (i := i) (a := a) t (by simpa using h)
    exact ⟨p, by simpa using h1, h2⟩
theorem PrsAt.get2 : ∀ {H : Hp} {as : List Addr} {ps : List (Int × Int)} {i : Nat} {p : Int × Int}, PrsAt H as ps → ps[i]? = some p → ∃ a, as[i]? = some a ∧ H a = some (pr2 p)
  | _, _, _, _, _, .nil, h => by simp at h
  | _, _, _, 0, _, .cons r _, h => by simp at h; subst h; exact ⟨_, rfl, r⟩
  | _, _, _, i + 1, p, .cons _ t, h => by
    obtain ⟨a, h1, h2⟩ := PrsAt.get2 (i := i) (p := p) t (by simpa using h)
    exact ⟨a, by simpa using h1, h2⟩
theorem PrsAt.snoc : ∀ {H : Hp} {as : List Addr} {ps : List (Int × Int)} {a : Addr} {p : Int × Int}, PrsAt H as ps → H a = some (pr2 p) → PrsAt H (as ++ [a]) (ps ++ [p])
  | _, _, _, _, _, .nil, h => .cons h .nil
  | _, _, _, _, _, .cons r t, h => .cons r (PrsAt.snoc t h)
theorem PrsAt.take : ∀ {H : Hp} {as : List Addr} {ps : List (Int × Int)} (n : Nat), PrsAt H as ps → PrsAt H (as.take n) (ps.take n)
  | _, _, _, 0, _ => .nil
  | _, _, _, _ + 1, .nil => .nil
  | _, _, _, n + 1, .cons r t => .cons r (PrsAt.take n t)

/-! ### ranks -/
def kp (p : Int × Int) : List Key := [.inl p.1, .inl p.2]
theorem kp_v (p : Int × Int) : (kp p).map kV = [V.int p.1, V.int p.2] := rfl
theorem kp_inj {p q : Int × Int} (h : kp p = kp q) : p = q := by
  obtain ⟨a, b⟩ := p
  obtain ⟨c, d⟩ := q
  unfold kp at h
  simp at h
  rw [h.1, h.2]
/-- the dict of ranks -/
def rkF : Nat → List (Int × Int) → List (List Key × V)
  | _, [] => []
  | r, p :: ps => (kp p, V.int (r : Int)) :: rkF (r + 1) ps
def rkE (ps : List (Int × Int)) : List (List Key × V) := rkF 0 ps
theorem rkF_len : ∀ (ps : List (Int × Int)) (r : Nat), (rkF r ps).length = ps.length
  | [], _ => rfl
  | _ :: ps, r => by rw [rkF, List.length_cons, rkF_len ps]; rfl
theorem rkF_snoc : ∀ (ps : List (Int × Int)) (r : Nat) (p : Int × Int), rkF r (ps ++ [p]) = rkF r ps ++ [(kp p, V.int ((r + ps.length : Nat) : Int))]
  | [], r, p => rfl
  | q :: ps, r, p => by
    rw [List.cons_append, rkF, rkF_snoc ps (r + 1) p, rkF, List.cons_append]
    congr 4
    simp
    omega
theorem rkF_none : ∀ (ps : List (Int × Int)) (r : Nat) (p : Int × Int), p ∉ ps → valV (rkF r ps) (kp p) = none
  | [], _, _, _ => rfl
  | q :: ps, r, p, h => by
    rw [rkF, valV_neg (fun e => h (by rw [kp_inj e]; exact List.mem_cons_self))]
    exact rkF_none ps (r + 1) p fun m => h (List.mem_cons_of_mem _ m)
theorem rkF_some : ∀ (ps : List (Int × Int)) (r : Nat), ps.Nodup → ∀ (m : Nat) (p : Int × Int), ps[m]? = some p → valV (rkF r ps) (kp p) = some (V.int ((r + m : Nat) : Int))
  | [], _, _, _, _, h => by simp at h
  | q :: ps, r, nd, m, p, h => by
    obtain ⟨n1, n2⟩ := List.nodup_cons.mp nd
    rw [rkF]
    cases m with
    | zero =>
      simp at h
      subst h
      exact valV_pos rfl
    | succ m =>
      have h' : ps[m]? = some p := by simpa using h
      rw [valV_neg (fun e => n1 (by rw [kp_inj e]; exact List.mem_of_getElem? h')), rkF_some ps (r + 1) n2 m p h']
      congr 3
      omega
theorem rkF_keys : ∀ (ps : List (Int × Int)) (r : Nat), (rkF r ps).map (·.1) = ps.map kp
  | [], _ => rfl
  | _ :: ps, r => by rw [rkF, List.map_cons, List.map_cons, rkF_keys ps]

/-! ### a list of joins -/
/-- 1 to 30 ascending signs between the blank and ~ -/
structure Alph (A : Txt) : Prop where
  l0 : 1 ≤ A.length
  l1 : A.length ≤ 30
  lo : ∀ c ∈ A, 32 ≤ c ∧ c ≤ 126
  asc : A.Pairwise (· < ·)
def flds (A : Txt) (pa ta ra na : Addr) (L : Int) : List (Str × V) :=
  [("alphabet", .str (tx A)), ("pairs", .ref pa), ("texts", .ref ta), ("ranks", .ref ra), ("numbers", .ref na), ("longest", .int L)]
/-- what its objects hold -/
structure JIn (H : Hp) (A : Txt) (ps : List (Int × Int)) (pa ta ra na : Addr) : Prop where
  prs : ∃ as : List Addr, H pa = some (.tup (as.map V.ref)) ∧ PrsAt H as ps
  txt : H ta = some (.lst ((txs A ps).map vt))
  rks : H ra = some (.dT (rkE ps))
  nms : ∃ kvs : List (Key × V), H na = some (.dK kvs) ∧ kvs.length ≤ A.length + ps.length ∧ ∀ (i c : Nat), A[i]? = some c → valV kvs (.inr (tx [c])) = some (V.int (i : Int))
/-- a Joins of the alphabet A and the pairs ps stands at p -/
structure JAt (C : Addr) (H : Hp) (p : Addr) (A : Txt) (ps : List (Int × Int)) : Prop where
  al : Alph A
  pr : Proper A ps
  ob : ∃ dx pa ta ra na L, H p = some (.ins C dx (flds A pa ta ra na L)) ∧ JIn H A ps pa ta ra na
theorem JIn.mono {H H' : Hp} {A : Txt} {ps : List (Int × Int)} {pa ta ra na : Addr} (h : JIn H A ps pa ta ra na) (e : ∀ b o, (∀ q, o ≠ HO.tbl q) → H b = some o → H' b = some o) : JIn H' A ps pa ta ra na := by
  obtain ⟨⟨as, h1, h2⟩, h3, h4, kvs, h5, h6⟩ := h
  exact ⟨⟨as, e _ _ (fun q z => by cases z) h1, h2.mono fun b xs z => e _ _ (fun q z => by cases z) z⟩, e _ _ (fun q z => by cases z) h3, e _ _ (fun q z => by cases z) h4, kvs, e _ _ (fun q z => by cases z) h5, h6⟩
theorem JAt.mono {C : Addr} {H H' : Hp} {p : Addr} {A : Txt} {ps : List (Int × Int)} (h : JAt C H p A ps) (e : ∀ b o, (∀ q, o ≠ HO.tbl q) → H b = some o → H' b = some o) : JAt C H' p A ps := by
  obtain ⟨dx, pa, ta, ra, na, L, h1, h2⟩ := h.ob
  exact ⟨h.al, h.pr, dx, pa, ta, ra, na, L, e _ _ (fun q z => by cases z) h1, h2.mono e⟩
theorem JAt.same {C : Addr} {H H' : Hp} {p : Addr} {A : Txt} {ps : List (Int × Int)} (h : JAt C H p A ps) (e : Same H H') : JAt C H' p A ps := h.mono fun b o _ z => e b o z
theorem SameT.not {T : Addr} {H H' : Hp} {q : Array Value} (hT : H T = some (.tbl q)) (e : SameT T H H') : ∀ b o, (∀ q, o ≠ HO.tbl q) → H b = some o → H' b = some o := fun b o n h => e b o (fun z => by
  rw [z, hT] at h
  cases h
  exact n _ rfl) h
/-! the attributes -/
theorem ne_alphabet_pairs : (("alphabet" : Str) == ("pairs" : Str)) = false := by decide +kernel
theorem ne_alphabet_texts : (("alphabet" : Str) == ("texts" : Str)) = false := by decide +kernel
theorem ne_alphabet_ranks : (("alphabet" : Str) == ("ranks" : Str)) = false := by decide +kernel
theorem ne_alphabet_numbers : (("alphabet" : Str) == ("numbers" : Str)) = false := by decide +kernel
theorem ne_alphabet_longest : (("alphabet" : Str) == ("longest" : Str)) = false := by decide +kernel
theorem ne_pairs_alphabet : (("pairs" : Str) == ("alphabet" : Str)) = false := by decide +kernel
theorem ne_pairs_texts : (("pairs" : Str) == ("texts" : Str)) = false := by decide +kernel
theorem ne_pairs_ranks : (("pairs" : Str) == ("ranks" : Str)) = false := by decide +kernel
theorem ne_pairs_numbers : (("pairs" : Str) == ("numbers" : Str)) = false := by decide +kernel
theorem ne_pairs_longest : (("pairs" : Str) == ("longest" : Str)) = false := by decide +kernel
theorem ne_texts_alphabet : (("texts" : Str) == ("alphabet" : Str)) = false := by decide +kernel
theorem ne_texts_pairs : (("texts" : Str) == ("pairs" : Str)) = false := by decide +kernel
theorem ne_texts_ranks : (("texts" : Str) == ("ranks" : Str)) = false := by decide +kernel
theorem ne_texts_numbers : (("texts" : Str) == ("numbers" : Str)) = false := by decide +kernel
theorem ne_texts_longest : (("texts" : Str) == ("longest" : Str)) = false := by decide +kernel
theorem ne_ranks_alphabet : (("ranks" : Str) == ("alphabet" : Str)) = false := by decide +kernel
theorem ne_ranks_pairs : (("ranks" : Str) == ("pairs" : Str)) = false := by decide +kernel
theorem ne_ranks_texts : (("ranks" : Str) == ("texts" : Str)) = false := by decide +kernel
theorem ne_ranks_numbers : (("ranks" : Str) == ("numbers" : Str)) = false := by decide +kernel
theorem ne_ranks_longest : (("ranks" : Str) == ("longest" : Str)) = false := by decide +kernel
theorem ne_numbers_alphabet : (("numbers" : Str) == ("alphabet" : Str)) = false := by decide +kernel
theorem ne_numbers_pairs : (("numbers" : Str) == ("pairs" : Str)) = false := by decide +kernel
theorem ne_numbers_texts : (("numbers" : Str) == ("texts" : Str)) = false := by decide +kernel
theorem ne_numbers_ranks : (("numbers" : Str) == ("ranks" : Str)) = false := by decide +kernel
theorem ne_numbers_longest : (("numbers" : Str) == ("longest" : Str)) = false := by decide +kernel
theorem ne_longest_alphabet : (("longest" : Str) == ("alphabet" : Str)) = false := by decide +kernel
theorem ne_longest_pairs : (("longest" : Str) == ("pairs" : Str)) = false := by decide +kernel
theorem ne_longest_texts : (("longest" : Str) == ("texts" : Str)) = false := by decide +kernel
theorem ne_longest_ranks : (("longest" : Str) == ("ranks" : Str)) = false := by decide +kernel
theorem ne_longest_numbers : (("longest" : Str) == ("numbers" : Str)) = false := by decide +kernel
theorem ne_take_alphabet : (("take" : Str) == ("alphabet" : Str)) = false := by decide +kernel
theorem ne_take_pairs : (("take" : Str) == ("pairs" : Str)) = false := by decide +kernel
theorem ne_take_texts : (("take" : Str) == ("texts" : Str)) = false := by decide +kernel
theorem ne_take_ranks : (("take" : Str) == ("ranks" : Str)) = false := by decide +kernel
theorem ne_take_numbers : (("take" : Str) == ("numbers" : Str)) = false := by decide +kernel
theorem ne_take_longest : (("take" : Str) == ("longest" : Str)) = false := by decide +kernel
theorem ne_is_proper_alphabet : (("is_proper" : Str) == ("alphabet" : Str)) = false := by decide +kernel
theorem ne_is_proper_pairs : (("is_proper" : Str) == ("pairs" : Str)) = false := by decide +kernel
theorem ne_is_proper_texts : (("is_proper" : Str) == ("texts" : Str)) = false := by decide +kernel
theorem ne_is_proper_ranks : (("is_proper" : Str) == ("ranks" : Str)) = false := by decide +kernel
theorem ne_is_proper_numbers : (("is_proper" : Str) == ("numbers" : Str)) = false := by decide +kernel
theorem ne_is_proper_longest : (("is_proper" : Str) == ("longest" : Str)) = false := by decide +kernel
theorem ne_is_piece_alphabet : (("is_piece" : Str) == ("alphabet" : Str)) = false := by decide +kernel
theorem ne_is_piece_pairs : (("is_piece" : Str) == ("pairs" : Str)) = false := by decide +kernel
theorem ne_is_piece_texts : (("is_piece" : Str) == ("texts" : Str)) = false := by decide +kernel
theorem ne_is_piece_ranks : (("is_piece" : Str) == ("ranks" : Str)) = false := by decide +kernel
theorem ne_is_piece_numbers : (("is_piece" : Str) == ("numbers" : Str)) = false := by decide +kernel
theorem ne_is_piece_longest : (("is_piece" : Str) == ("longest" : Str)) = false := by decide +kernel
theorem ne_check_piece_alphabet : (("check_piece" : Str) == ("alphabet" : Str)) = false := by decide +kernel
theorem ne_check_piece_pairs : (("check_piece" : Str) == ("pairs" : Str)) = false := by decide +kernel
theorem ne_check_piece_texts : (("check_piece" : Str) == ("texts" : Str)) = false := by decide +kernel
theorem ne_check_piece_ranks : (("check_piece" : Str) == ("ranks" : Str)) = false := by decide +kernel
theorem ne_check_piece_numbers : (("check_piece" : Str) == ("numbers" : Str)) = false := by decide +kernel
theorem ne_check_piece_longest : (("check_piece" : Str) == ("longest" : Str)) = false := by decide +kernel
theorem ne_text_of_alphabet : (("text_of" : Str) == ("alphabet" : Str)) = false := by decide +kernel
theorem ne_text_of_pairs : (("text_of" : Str) == ("pairs" : Str)) = false := by decide +kernel
theorem ne_text_of_texts : (("text_of" : Str) == ("texts" : Str)) = false := by decide +kernel
theorem ne_text_of_ranks : (("text_of" : Str) == ("ranks" : Str)) = false := by decide +kernel
theorem ne_text_of_numbers : (("text_of" : Str) == ("numbers" : Str)) = false := by decide +kernel
theorem ne_text_of_longest : (("text_of" : Str) == ("longest" : Str)) = false := by decide +kernel
theorem ne_piece_of_alphabet : (("piece_of" : Str) == ("alphabet" : Str)) = false := by decide +kernel
theorem ne_piece_of_pairs : (("piece_of" : Str) == ("pairs" : Str)) = false := by decide +kernel
theorem ne_piece_of_texts : (("piece_of" : Str) == ("texts" : Str)) = false := by decide +kernel
theorem ne_piece_of_ranks : (("piece_of" : Str) == ("ranks" : Str)) = false := by decide +kernel
theorem ne_piece_of_numbers : (("piece_of" : Str) == ("numbers" : Str)) = false := by decide +kernel
theorem ne_piece_of_longest : (("piece_of" : Str) == ("longest" : Str)) = false := by decide +kernel
section
variable {A : Txt} {pa ta ra na : Addr} {L : Int}
theorem fl_alphabet : (flds A pa ta ra na L).lookup ("alphabet" : Str) = some (V.str (tx A)) := by
  simp [flds, List.lookup_cons, ne_alphabet_pairs, ne_alphabet_texts, ne_alphabet_ranks, ne_alphabet_numbers, ne_alphabet_longest]
theorem fl_pairs : (flds A pa ta ra na L).lookup ("pairs" : Str) = some (V.ref pa) := by
  simp [flds, List.lookup_cons, ne_pairs_alphabet, ne_pairs_texts, ne_pairs_ranks, ne_pairs_numbers, ne_pairs_longest]
theorem fl_texts : (flds A pa ta ra na L).lookup ("texts" : Str) = some (V.ref ta) := by
  simp [flds, List.lookup_cons, ne_texts_alphabet, ne_texts_pairs, ne_texts_ranks, ne_texts_numbers, ne_texts_longest]
theorem fl_ranks : (flds A pa ta ra na L).lookup ("ranks" : Str) = some (V.ref ra) := by
  simp [flds, List.lookup_cons, ne_ranks_alphabet, ne_ranks_pairs, ne_ranks_texts, ne_ranks_numbers, ne_ranks_longest]
theorem fl_numbers : (flds A pa ta ra na L).lookup ("numbers" : Str) = some (V.ref na) := by
  simp [flds, List.lookup_cons, ne_numbers_alphabet, ne_numbers_pairs, ne_numbers_texts, ne_numbers_ranks, ne_numbers_longest]
theorem fl_longest : (flds A pa ta ra na L).lookup ("longest" : Str) = some (V.int L) := by
  simp [flds, List.lookup_cons, ne_longest_alphabet, ne_longest_pairs, ne_longest_texts, ne_longest_ranks, ne_longest_numbers]
theorem fl_take : (flds A pa ta ra na L).lookup ("take" : Str) = none := by
  simp [flds, List.lookup_cons, ne_take_alphabet, ne_take_pairs, ne_take_texts, ne_take_ranks, ne_take_numbers, ne_take_longest]
theorem fl_is_proper : (flds A pa ta ra na L).lookup ("is_proper" : Str) = none := by
  simp [flds, List.lookup_cons, ne_is_proper_alphabet, ne_is_proper_pairs, ne_is_proper_texts, ne_is_proper_ranks, ne_is_proper_numbers, ne_is_proper_longest]
theorem fl_is_piece : (flds A pa ta ra na L).lookup ("is_piece" : Str) = none := by
  simp [flds, List.lookup_cons, ne_is_piece_alphabet, ne_is_piece_pairs, ne_is_piece_texts, ne_is_piece_ranks, ne_is_piece_numbers, ne_is_piece_longest]
theorem fl_check_piece : (flds A pa ta ra na L).lookup ("check_piece" : Str) = none := by
  simp [flds, List.lookup_cons, ne_check_piece_alphabet, ne_check_piece_pairs, ne_check_piece_texts, ne_check_piece_ranks, ne_check_piece_numbers, ne_check_piece_longest]
theorem fl_text_of : (flds A pa ta ra na L).lookup ("text_of" : Str) = none := by
  simp [flds, List.lookup_cons, ne_text_of_alphabet, ne_text_of_pairs, ne_text_of_texts, ne_text_of_ranks, ne_text_of_numbers, ne_text_of_longest]
theorem fl_piece_of : (flds A pa ta ra na L).lookup ("piece_of" : Str) = none := by
  simp [flds, List.lookup_cons, ne_piece_of_alphabet, ne_piece_of_pairs, ne_piece_of_texts, ne_piece_of_ranks, ne_piece_of_numbers, ne_piece_of_longest]
end
theorem nq_alphabet_pairs : ¬ (("alphabet" : Str) = ("pairs" : Str)) := by decide +kernel
theorem nq_alphabet_texts : ¬ (("alphabet" : Str) = ("texts" : Str)) := by decide +kernel
theorem nq_alphabet_ranks : ¬ (("alphabet" : Str) = ("ranks" : Str)) := by decide +kernel
theorem nq_alphabet_numbers : ¬ (("alphabet" : Str) = ("numbers" : Str)) := by decide +kernel
theorem nq_alphabet_longest : ¬ (("alphabet" : Str) = ("longest" : Str)) := by decide +kernel
theorem nq_pairs_alphabet : ¬ (("pairs" : Str) = ("alphabet" : Str)) := by decide +kernel
theorem nq_pairs_texts : ¬ (("pairs" : Str) = ("texts" : Str)) := by decide +kernel
theorem nq_pairs_ranks : ¬ (("pairs" : Str) = ("ranks" : Str)) := by decide +kernel
theorem nq_pairs_numbers : ¬ (("pairs" : Str) = ("numbers" : Str)) := by decide +kernel
theorem nq_pairs_longest : ¬ (("pairs" : Str) = ("longest" : Str)) := by decide +kernel
theorem nq_texts_alphabet : ¬ (("texts" : Str) = ("alphabet" : Str)) := by decide +kernel
theorem nq_texts_pairs : ¬ (("texts" : Str) = ("pairs" : Str)) := by decide +kernel
theorem nq_texts_ranks : ¬ (("texts" : Str) = ("ranks" : Str)) := by decide +kernel
theorem nq_texts_numbers : ¬ (("texts" : Str) = ("numbers" : Str)) := by decide +kernel
theorem nq_texts_longest : ¬ (("texts" : Str) = ("longest" : Str)) := by decide +kernel
theorem nq_ranks_alphabet : ¬ (("ranks" : Str) = ("alphabet" : Str)) := by decide +kernel
theorem nq_ranks_pairs : ¬ (("ranks" : Str) = ("pairs" : Str)) := by decide +kernel
theorem nq_ranks_texts : ¬ (("ranks" : Str) = ("texts" : Str)) := by decide +kernel
theorem nq_ranks_numbers : ¬ (("ranks" : Str) = ("numbers" : Str)) := by decide +kernel
theorem nq_ranks_longest : ¬ (("ranks" : Str) = ("longest" : Str)) := by decide +kernel
theorem nq_numbers_alphabet : ¬ (("numbers" : Str) = ("alphabet" : Str)) := by decide +kernel
theorem nq_numbers_pairs : ¬ (("numbers" : Str) = ("pairs" : Str)) := by decide +kernel
theorem nq_numbers_texts : ¬ (("numbers" : Str) = ("texts" : Str)) := by decide +kernel
theorem nq_numbers_ranks : ¬ (("numbers" : Str) = ("ranks" : Str)) := by decide +kernel
theorem nq_numbers_longest : ¬ (("numbers" : Str) = ("longest" : Str)) := by decide +kernel
theorem nq_longest_alphabet : ¬ (("longest" : Str) = ("alphabet" : Str)) := by decide +kernel
theorem nq_longest_pairs : ¬ (("longest" : Str) = ("pairs" : Str)) := by decide +kernel
theorem nq_longest_texts : ¬ (("longest" : Str) = ("texts" : Str)) := by decide +kernel
theorem nq_longest_ranks : ¬ (("longest" : Str) = ("ranks" : Str)) := by decide +kernel
theorem nq_longest_numbers : ¬ (("longest" : Str) = ("numbers" : Str)) := by decide +kernel
section
variable {A : Txt} {pa ta ra na pa2 : Addr} {L L2 : Int} {v1 v2 v3 v4 v5 v6 : V}
theorem put1 : putF ("alphabet" : Str) v1 [] = [(("alphabet" : Str), v1)] := by
  simp [putF]
theorem put2 : putF ("pairs" : Str) v2 [(("alphabet" : Str), v1)] = [(("alphabet" : Str), v1), (("pairs" : Str), v2)] := by
  simp [putF, nq_alphabet_pairs]
theorem put3 : putF ("texts" : Str) v3 [(("alphabet" : Str), v1), (("pairs" : Str), v2)] = [(("alphabet" : Str), v1), (("pairs" : Str), v2), (("texts" : Str), v3)] := by
  simp [putF, nq_alphabet_texts, nq_pairs_texts]
theorem put4 : putF ("ranks" : Str) v4 [(("alphabet" : Str), v1), (("pairs" : Str), v2), (("texts" : Str), v3)] = [(("alphabet" : Str), v1), (("pairs" : Str), v2), (("texts" : Str), v3), (("ranks" : Str), v4)] := by
  simp [putF, nq_alphabet_ranks, nq_pairs_ranks, nq_texts_ranks]
theorem put5 : putF ("numbers" : Str) v5 [(("alphabet" : Str), v1), (("pairs" : Str), v2), (("texts" : Str), v3), (("ranks" : Str), v4)] = [(("alphabet" : Str), v1), (("pairs" : Str), v2), (("texts" : Str), v3), (("ranks" : Str), v4), (("numbers" : Str), v5)] := by
  simp [putF, nq_alphabet_numbers, nq_pairs_numbers, nq_texts_numbers, nq_ranks_numbers]
theorem put6 : putF ("longest" : Str) v6 [(("alphabet" : Str), v1), (("pairs" : Str), v2), (("texts" : Str), v3), (("ranks" : Str), v4), (("numbers" : Str), v5)] = [(("alphabet" : Str), v1), (("pairs" : Str), v2), (("texts" : Str), v3), (("ranks" : Str), v4), (("numbers" : Str), v5), (("longest" : Str), v6)] := by
  simp [putF, nq_alphabet_longest, nq_pairs_longest, nq_texts_longest, nq_ranks_longest, nq_numbers_longest]
theorem pf_pairs : putF ("pairs" : Str) (V.ref pa2) (flds A pa ta ra na L) = flds A pa2 ta ra na L := by
  simp [putF, flds, nq_alphabet_pairs]
theorem pf_texts : putF ("texts" : Str) (V.ref pa2) (flds A pa ta ra na L) = flds A pa pa2 ra na L := by
  simp [putF, flds, nq_alphabet_texts, nq_pairs_texts]
theorem pf_ranks : putF ("ranks" : Str) (V.ref pa2) (flds A pa ta ra na L) = flds A pa ta pa2 na L := by
  simp [putF, flds, nq_alphabet_ranks, nq_pairs_ranks, nq_texts_ranks]
theorem pf_numbers : putF ("numbers" : Str) (V.ref pa2) (flds A pa ta ra na L) = flds A pa ta ra pa2 L := by
  simp [putF, flds, nq_alphabet_numbers, nq_pairs_numbers, nq_texts_numbers, nq_ranks_numbers]
theorem pf_longest : putF ("longest" : Str) (V.int L2) (flds A pa ta ra na L) = flds A pa ta ra na L2 := by
  simp [putF, flds, nq_alphabet_longest, nq_pairs_longest, nq_texts_longest, nq_ranks_longest, nq_numbers_longest]
end
end Rj
end
section
set_option Elab.async false
set_option linter.all false
set_option maxRecDepth 100000
set_option maxHeartbeats 2000000
/-! the hashes of the pairs of small pieces are different. -/
namespace Rj
open PySem PySem.Spec PyProof.Rows L2
def hN (i : Nat) : Nat := ((reduceHash (Builtin.Tuple.tupleHashOf [hashInt ((i / 26 : Nat) : Int), hashInt ((i % 26 : Nat) : Int)])) + 9223372036854775808).toNat
def apart : List Nat → Bool
  | [] => true
  | a :: l => l.all (fun b => !(Nat.beq a b)) && apart l
theorem apart_nd : ∀ l : List Nat, apart l = true → l.Nodup
  | [], _ => List.nodup_nil
  | a :: l, h => by
    unfold apart at h
    obtain ⟨h1, h2⟩ := Bool.and_eq_true_iff.mp h
    refine List.nodup_cons.mpr ⟨fun m => ?_, apart_nd l h2⟩
    have := List.all_eq_true.mp h1 a m
    simp at this
theorem hN_apart : apart ((List.range 676).map hN) = true := by decide +kernel
theorem hN_inj {i j : Nat} (hi : i < 676) (hj : j < 676) (e : hN i = hN j) : i = j := by
  have nd := apart_nd _ hN_apart
  have a : ((List.range 676).map hN)[i]? = some (hN i) := by simp [hi]
  have b : ((List.range 676).map hN)[j]? = some (hN i) := by simp [hj, e]
  exact nd_ix nd a b
theorem hash_inj {P : Program} {w : World} {p q : Int × Int} (hp : (0 ≤ p.1 ∧ p.1 < 26) ∧ 0 ≤ p.2 ∧ p.2 < 26) (hq : (0 ≤ q.1 ∧ q.1 < 26) ∧ 0 ≤ q.2 ∧ q.2 < 26) (e : (tupleKind (mixKind P w)).hash (kp p) = (tupleKind (mixKind P w)).hash (kp q)) : p = q := by
  obtain ⟨a, b⟩ := p
  obtain ⟨c, d⟩ := q
  simp only at hp hq
  have e' : reduceHash (Builtin.Tuple.tupleHashOf [hashInt a, hashInt b]) = reduceHash (Builtin.Tuple.tupleHashOf [hashInt c, hashInt d]) := e
  have go : ∀ x y : Int, 0 ≤ x → x < 26 → 0 ≤ y → y < 26 → hN (x.toNat * 26 + y.toNat) = ((reduceHash (Builtin.Tuple.tupleHashOf [hashInt x, hashInt y])) + 9223372036854775808).toNat := fun x y h1 h2 h3 h4 => by
    unfold hN
    have e1 : ((((x.toNat * 26 + y.toNat) / 26 : Nat)) : Int) = x := by omega
    have e2 : ((((x.toNat * 26 + y.toNat) % 26 : Nat)) : Int) = y := by omega
    rw [e1, e2]
  have h := hN_inj (i := a.toNat * 26 + b.toNat) (j := c.toNat * 26 + d.toNat) (by omega) (by omega) (by rw [go a b (by omega) (by omega) (by omega) (by omega), go c d (by omega) (by omega) (by omega) (by omega), e'])
  have e1 : a = c := by omega
  have e2 : b = d := by omega
  rw [e1, e2]
theorem hash_nd {P : Program} {w : World} {A : Txt} {ps : List (Int × Int)} (pr : Proper A ps) (h : A.length + ps.length ≤ 26) : ((rkE ps).map fun kv => (tupleKind (mixKind P w)).hash kv.1).Nodup := by
  have e : ((rkE ps).map fun kv => (tupleKind (mixKind P w)).hash kv.1) = ps.map fun p => (tupleKind (mixKind P w)).hash (kp p) := by
    have := congrArg (List.map (tupleKind (mixKind P w)).hash) (rkF_keys ps 0)
    rw [List.map_map, List.map_map] at this
    exact this
  rw [e]
  have bd : ∀ p ∈ ps, (0 ≤ p.1 ∧ p.1 < 26) ∧ 0 ≤ p.2 ∧ p.2 < 26 := fun p hp => by
    obtain ⟨k, hk⟩ := List.mem_iff_getElem?.mp hp
    have hl := (List.getElem?_eq_some_iff.mp hk).1
    obtain ⟨⟨b1, b2⟩, b3, b4⟩ := pr.bound k p hk
    omega
  have nd := pr.nodup
  clear pr h e
  induction ps with
  | nil => exact List.nodup_nil
  | cons p ps ih =>
    obtain ⟨n1, n2⟩ := List.nodup_cons.mp nd
    rw [List.map_cons]
    refine List.nodup_cons.mpr ⟨fun m => ?_, ih (fun q hq => bd q (List.mem_cons_of_mem _ hq)) n2⟩
    obtain ⟨q, hq, eq⟩ := List.mem_map.mp m
    have := hash_inj (bd q (List.mem_cons_of_mem _ hq)) (bd p List.mem_cons_self) eq
    rw [this] at hq
    exact n1 hq
end Rj
end
section
set_option Elab.async false
set_option linter.all false
set_option maxRecDepth 100000
set_option maxHeartbeats 2000000
/-! is_between, is_alphabet, checked_alphabet. -/
namespace Rj
open PySem PySem.Spec PyProof.Rows L2
section
variable {P : Program} {w : World} {K : PySem.W.Frag} {mg : Str → Option Value} {base : Heap}
theorem okD {x qual : Str} {st : Stmt} {f : Addr} {fd : FuncData} {N ps : List Str} {k : Nat} {sp : Sp} (F : FnP K x qual st f fd) (S : FnScope N ps (defScope st)) (len : ∀ vs H Q E, sp vs H Q E → vs.length = ps.length)
    (hbody : ∀ (cdv : Value) (A : Around) (outer : List Env) (s : Shared) (H : Hp) (vs : List V) (Q : VK) (E : XK),
      Room k (A.deeper (envOfC qual (defScope st) s.heap.objs.size f cdv)) → sp vs H Q E →
      ∃ t, PSs (cxOf CX0 P w K mg base N qual (defScope st) f cdv A outer s H E).nox (defBody st) t ∧ t { nx := fun _ H' => Q .non H', rt := Q } (start N vs) H) : FnOk P w K mg base CX0 (k + 1) f fd ps sp :=
  F.ok S len fun cdv A outer s H vs Q E hr h => let ⟨t, h1, h2⟩ := hbody cdv A outer s H vs Q E hr h; ⟨t, h1.nox, h2⟩

/-! ### is_between -/
def spBetween : Sp := fun vs H Q _ => ∃ i l m : Int, vs = [.int i, .int l, .int m] ∧ Q (.bl (decide (l ≤ i ∧ i ≤ m))) H
theorem ok_between (T : Wd K mg) : FnOk P w K mg base CX0 1 T.fIsBetween T.dIsBetween ["value", "least", "most"] spBetween := by
  refine okD T.FIsBetween scIsBetween (fun vs H Q E h => ?_) (fun cdv A outer s H vs Q E hr h => ?_)
  · obtain ⟨i, l, m, rfl, _⟩ := h
    rfl
  · obtain ⟨i, l, m, rfl, k⟩ := h
    refine ⟨_, pss_one (ps_ret (pe_and (pe_callB call_isi (by rfl) T.no_isinstance (by decide +kernel) (pa_cons (pv 0) (pa_cons (pe_bltn (v := .ty "int") (by rfl) T.no_int (by decide +kernel) rfl) pa_nil)))
      (pe_and (pe_not (pe_callB call_isi (by rfl) T.no_isinstance (by decide +kernel) (pa_cons (pv 0) (pa_cons (pe_bltn (v := .ty "bool") (by rfl) T.no_bool (by decide +kernel) rfl) pa_nil))))
      (pe_one (pe_chain op_le op_le (pv 1) (pv 0) (pv 2)))))), ?_⟩
    refine ⟨_, rfl, _, _, .type "int", .type "int", true, rfl, .ty _, .base (.int _), kit_ty (by decide +kernel), true, rfl, iteT ?_⟩
    refine ⟨_, rfl, _, _, .type "int", .type "bool", false, rfl, .ty _, .base (.int _), kit_ty (by decide +kernel), false, rfl, true, rfl, iteT ?_⟩
    refine ⟨_, rfl, _, rfl, _, _, rfl, rfl, _, rfl, ?_⟩
    by_cases c : l ≤ i
    · rw [decide_eq_true c]
      refine iteT ⟨_, rfl, _, _, rfl, rfl, ?_⟩
      have e : decide (l ≤ i ∧ i ≤ m) = decide (i ≤ m) := by simp [c]
      show Q (.bl (decide (i ≤ m))) H
      rw [← e]
      exact k
    · rw [decide_eq_false c]
      refine iteF ?_
      have e : decide (l ≤ i ∧ i ≤ m) = false := by simp [c]
      show Q (.bl false) H
      rw [← e]
      exact k

/-! ### is_alphabet, checked_alphabet -/
def spIsAlph : Sp := fun vs H Q _ => ∃ A, vs = [vt A] ∧ Alph A ∧ Q (.bl true) H
theorem lt_one (a b : Nat) : decide (([a] : List Nat) < [b]) = decide (a < b) := by
  by_cases h : a < b
  · rw [decide_eq_true h, decide_eq_true]
    exact List.Lex.rel h
  · rw [decide_eq_false h, decide_eq_false]
    intro q
    cases q with
    | rel q => exact h q
    | cons q => cases q
theorem asc_at {A : Txt} (h : A.Pairwise (· < ·)) {i : Nat} (hi : i + 1 < A.length) : A[i] < A[i + 1] := List.pairwise_iff_getElem.mp h i (i + 1) (by omega) hi (by omega)
theorem ok_isAlph (T : Wd K mg) : FnOk P w K mg base CX0 1 T.fIsAlphabet T.dIsAlphabet ["alphabet"] spIsAlph := by
  refine okD T.FIsAlphabet scIsAlphabet (fun vs H Q E h => ?_) (fun cdv A outer s H vs Q E hr h => ?_)
  · obtain ⟨A, rfl, _⟩ := h
    rfl
  · obtain ⟨L, rfl, a, k⟩ := h
    obtain ⟨tML, iML⟩ := T.iML
    have hz : (tx L).length ≤ sizeLine := by rw [tx_len]; have := a.l1; exact small_line (by omega)
    refine ⟨_, pss_cons (ps_if (pt_not (pt_chain op_le op_le pe_int (pe_callB call_len_str (by rfl) T.no_len boot_len (pa_cons (pv 0) pa_nil)) (pe_glob (v := .int 30) (by rfl) iML ⟨_, rfl⟩))) (pss_one (ps_ret pe_bl)) pss_nil)
      (pss_cons (ps_for PassesOwn.never rfl (pi_str (pv 0)) (pg_name (i := 1) scIsAlphabet.nd rfl (Or.inl rfl))
        (pss_one (ps_if (pt_not (pt_chain op_le_str op_le_str pe_str (pv 1) pe_str)) (pss_one (ps_ret pe_bl)) pss_nil)))
      (pss_cons (ps_for PassesOwn.never rfl (pi_range2 (by rfl) T.no_range (pa_cons pe_int (pa_cons (pe_callB call_len_str (by rfl) T.no_len boot_len (pa_cons (pv 0) pa_nil)) pa_nil))) (pg_name (i := 2) scIsAlphabet.nd rfl (Or.inl rfl))
        (pss_one (ps_if (pt_cmpR op_ge_str (pe_ix ix_str (pv 0) (pe_op op_sub (pv 2) pe_int) (fun _ _ => rfl)) (pe_ix ix_str (pv 0) (pv 2) (fun _ _ => rfl)) (nomark _)) (pss_one (ps_ret pe_bl)) pss_nil)))
      (pss_one (ps_ret pe_bl)))), ?_⟩
    -- not 1 <= len(alphabet) <= 30
    have l0 := a.l0
    have l1 := a.l1
    refine ⟨_, rfl, tx L, rfl, hz, _, _, rfl, rfl, true, ?_, iteT ⟨_, _, rfl, rfl, true, ?_, iteF ?_⟩⟩
    · exact blT (by rw [tx_len]; omega)
    · exact blT (by rw [tx_len]; omega)
    -- for sign in alphabet
    refine ⟨_, rfl, tx L, rfl, for_it walk_str (fun _ σ H' => ∃ v1 v2, σ = [some (vt L), v1, v2] ∧ H' = H) ⟨_, _, rfl, rfl⟩ (fun _ _ _ _ _ => trivial) ?_ ?_⟩
    · rintro i y σ H1 H2 hi ⟨v1, v2, rfl, rfl⟩ ⟨rfl, c, hc, rfl⟩
      have hm : c ∈ L := by
        have : L[i]? = some c := by simpa [tx] using hc
        exact List.mem_of_getElem? this
      obtain ⟨c1, c2⟩ := a.lo c hm
      refine ⟨_, rfl, _, _, rfl, rfl, true, ?_, iteT ⟨_, _, rfl, rfl, true, ?_, iteF ⟨_, _, rfl, rfl⟩⟩⟩
      · show V.bl (!decide (([c] : List Nat) < [32])) = _
        rw [lt_one, decide_eq_false (by omega)]
        rfl
      · show V.bl (!decide (([126] : List Nat) < [c])) = _
        rw [lt_one, decide_eq_false (by omega)]
        rfl
    · rintro σ H1 ⟨v1, v2, rfl, rfl⟩
      -- for at in range(1, len(alphabet))
      refine ⟨_, rfl, tx L, rfl, hz, 1, ((tx L).length : Int), rfl, ⟨by decide, by decide, by omega, by rw [tx_len]; omega⟩, for_range (lo := 1) (n := (((tx L).length : Int) - 1).toNat) (fun _ σ H' => ∃ v1 v2, σ = [some (vt L), v1, v2] ∧ H' = H1) ⟨_, _, rfl, rfl⟩ ?_ ?_⟩
      · rintro i σ H2 hi ⟨v1, v2, rfl, rfl⟩
        rw [tx_len] at hi
        have hi1 : i + 1 < L.length := by omega
        have hlt := asc_at a.asc hi1
        refine ⟨_, rfl, _, rfl, _, _, rfl, rfl, tx L, ((i : Nat) : Int), L[i], rfl, ?_, hz, ?_, ?_⟩
        · show V.int (1 + (i : Int) - 1) = _
          congr 1
          omega
        · exact atI_nat (by simp [tx])
        refine ⟨_, rfl, _, rfl, tx L, ((i + 1 : Nat) : Int), L[i + 1], rfl, ?_, hz, ?_, ?_⟩
        · show V.int (1 + (i : Int)) = _
          congr 1
          omega
        · exact atI_nat (by simp [tx, hi1])
        refine ⟨_, _, rfl, rfl, false, ?_, iteF ⟨_, _, rfl, rfl⟩⟩
        show V.bl (!decide (([L[i]] : List Nat) < [L[i + 1]])) = _
        rw [lt_one, decide_eq_true hlt]
        rfl
      · rintro σ H2 ⟨v1, v2, rfl, rfl⟩
        exact k
def spChecked : Sp := fun vs H Q _ => ∃ A, vs = [vt A] ∧ Alph A ∧ Q (vt A) H
theorem ok_checked (T : Wd K mg) : FnOk P w K mg base CX0 2 T.fCheckedAlphabet T.dCheckedAlphabet ["alphabet"] spChecked := by
  have G : FnOk P w K mg base CX0 1 T.fIsAlphabet T.dIsAlphabet ["alphabet"] spIsAlph := ok_isAlph T
  refine okD T.FCheckedAlphabet scCheckedAlphabet (fun vs H Q E h => ?_) (fun cdv A outer s H vs Q E hr h => ?_)
  · obtain ⟨A, rfl, _⟩ := h
    rfl
  · obtain ⟨L, rfl, a, k⟩ := h
    refine ⟨_, pss_cons (ps_if (pt_not (pt_val (pe_call G hr (by rfl) T.gIsAlphabet T.FIsAlphabet.kp T.bIsAlphabet .nil pass0 (pa_cons (pv 0) pa_nil)))) (pss_one ps_never) pss_nil) (pss_one (ps_ret (pv 0))), ?_⟩
    exact ⟨_, rfl, L, rfl, a, true, rfl, iteF ⟨_, rfl, k⟩⟩
end
end Rj
end
section
set_option Elab.async false
set_option linter.all false
set_option maxRecDepth 100000
set_option maxHeartbeats 2000000
/-! put_together, lowest_pair, cut_row. -/
namespace Rj
open PySem PySem.Spec PyProof.Rows L2
/-! ### rows as data -/
theorem dp_all {K : PySem.W.Frag} {H : Hp} : ∀ R : List Int, DpAll K H (R.map V.int) (R.map PyData.int)
  | [] => .nil
  | a :: R => .cons (.int a) (dp_all R)
theorem dp_row {K : PySem.W.Frag} {H : Hp} {a : Addr} {R : List Int} (h : H a = some (row R)) : Dp K H (.ref a) (.tuple (R.map PyData.int)) := .tup (SqT.of h) (dp_all R)
theorem dp_pr {K : PySem.W.Frag} {H : Hp} {a : Addr} {p : Int × Int} (h : H a = some (pr2 p)) : Dp K H (.ref a) (.tuple [.int p.1, .int p.2]) := dp_row (R := [p.1, p.2]) h
theorem eqv_ints : ∀ R S : List Int, PyData.eqvAll (R.map .int) (S.map .int) = decide (R = S)
  | [], [] => rfl
  | [], _ :: _ => rfl
  | _ :: _, [] => rfl
  | a :: R, b :: S => by
    simp only [List.map_cons, PyData.eqvAll, PyData.eqv, eqv_ints R S, List.cons.injEq]
    by_cases h : a = b <;> simp [h]
theorem eqv_row (R S : List Int) : PyData.eqv (.tuple (R.map .int)) (.tuple (S.map .int)) = decide (R = S) := by
  simp only [PyData.eqv, eqv_ints]
theorem lay_ints : ∀ R : List Int, PyData.canLayAll0 (R.map .int) = true
  | [] => rfl
  | a :: R => by simp [PyData.canLayAll0, PyData.canLay0, lay_ints R]
theorem dep_ints : ∀ R : List Int, PyData.depthAll (R.map .int) = 0
  | [] => rfl
  | a :: R => by simp [PyData.depthAll, PyData.depth, dep_ints R]
theorem sh_row (R : List Int) : SeqAt.shaped (.tuple (R.map .int)) = true := by
  unfold SeqAt.shaped
  simp [PyData.canLay0, PyData.depth, lay_ints, dep_ints]
theorem sh_pr (p : Int × Int) : SeqAt.shaped (.tuple [.int p.1, .int p.2]) = true := sh_row [p.1, p.2]
theorem eqv_pr (p q : Int × Int) : PyData.eqv (.tuple [.int p.1, .int p.2]) (.tuple [.int q.1, .int q.2]) = decide (p = q) := by
  have h := eqv_row [p.1, p.2] [q.1, q.2]
  refine Eq.trans h ?_
  obtain ⟨a, b⟩ := p
  obtain ⟨c, d⟩ := q
  simp
theorem at_row {R : List Int} {j : Nat} {z : Int} (h : R[j]? = some z) : atI (R.map V.int) ((j : Nat) : Int) = some (.int z) := atI_nat (by simp [h])

section
variable {P : Program} {w : World} {K : PySem.W.Frag} {mg : Str → Option Value} {base : Heap}
/-! ### put_together -/
def spPut : Sp := fun vs H Q _ => ∃ (a b : Addr) (R : List Int) (p : Int × Int) (z : Int), vs = [.ref a, .ref b, .int z] ∧ H a = some (row R) ∧ H b = some (pr2 p) ∧ R.length ≤ 1000 ∧
  ∀ (H' : Hp) (q : Addr), Same H H' → H q = none → H' q = some (row (pt p.1 p.2 z R)) → Q (.ref q) H'
theorem ok_put (T : Wd K mg) : FnOk P w K mg base CX0 1 T.fPutTogether T.dPutTogether ["row", "pair", "piece"] spPut := by
  refine okD T.FPutTogether scPutTogether (fun vs H Q E h => ?_) (fun cdv A outer s H vs Q E hr h => ?_)
  · obtain ⟨a, b, R, p, z, rfl, _⟩ := h
    rfl
  · obtain ⟨a, b, R, p, z, rfl, ha, hb, hR, k⟩ := h
    have nd := scPutTogether.nd
    refine ⟨_, pss_cons (ps_set (i := 3) nd rfl (.inl rfl) (pe_lst pa_nil)) (pss_cons (ps_set (i := 4) nd rfl (.inl rfl) pe_int)
      (pss_cons (ps_while PassesOwn.never (pt_cmpR op_lt (pv 4) (pe_callB call_len_seq (by rfl) T.no_len boot_len (pa_cons (pv 0) pa_nil)) (nomark _))
        (pss_one (ps_if (PW.pt (pw_and (pt_cmpR op_lt (pe_op op_add (pv 4) pe_int) (pe_callB call_len_seq (by rfl) T.no_len boot_len (pa_cons (pv 0) pa_nil)) (nomark _))
            (pw_and1 (pt_cmpR (op_eqD hr.units) (pe_tup (pa_cons (pe_ix ix_tup (pv 0) (pv 4) (fun _ _ => rfl)) (pa_cons (pe_ix ix_tup (pv 0) (pe_op op_add (pv 4) pe_int) (fun _ _ => rfl)) pa_nil))) (pv 1) (nomark _)))))
          (pss_cons (ps_expr (pe_bm PySem.F.plainAttrs_list PySem.F.slot_list_append PySem.F.type_list_append mt_append (pv 3) (pa_cons (pv 2) pa_nil))) (pss_one (ps_aug (i := 4) nd rfl (.inl rfl) pe_int ip_add)))
          (pss_cons (ps_expr (pe_bm PySem.F.plainAttrs_list PySem.F.slot_list_append PySem.F.type_list_append mt_append (pv 3) (pa_cons (pe_ix ix_tup (pv 0) (pv 4) (fun _ _ => rfl)) pa_nil))) (pss_one (ps_aug (i := 4) nd rfl (.inl rfl) pe_int ip_add))))))
      (pss_one (ps_ret (pe_callTy call_tuple_of (by rfl) T.no_tuple (by decide +kernel) (pa_cons (pv 3) pa_nil)))))), ?_⟩
    -- found = []
    refine ⟨Nat.zero_le _, fun l hl => ?_⟩
    have nal : a ≠ l := ne_of_none ha hl
    have nbl : b ≠ l := ne_of_none hb hl
    let I : Nat → List Int → L2.St → Hp → Prop := fun j dn σ H' => σ = [some (.ref a), some (.ref b), some (.int z), some (.ref l), some (.int (j : Int))] ∧ j ≤ R.length ∧ Same H H' ∧ H' l = some (.lst (dn.map V.int)) ∧ dn.length ≤ j ∧ dn ++ pt p.1 p.2 z (R.drop j) = pt p.1 p.2 z R
    refine ⟨fun m σ H' => ∃ j dn, m = R.length - j ∧ I j dn σ H', ⟨R.length - 0, 0, [], rfl, rfl, Nat.zero_le _, same_new hl, upd_same, Nat.le_refl _, by simp⟩, ?_⟩
    rintro m σ H1 ⟨j, dn, rfl, rfl, hj, s1, hd, hdl, e⟩
    have ha1 : H1 a = some (row R) := s1 _ _ ha
    have hb1 : H1 b = some (pr2 p) := s1 _ _ hb
    have hlenR : (R.map V.int).length = R.length := List.length_map _
    refine ⟨_, rfl, _, rfl, a, R.map V.int, rfl, .inr (SqT.of ha1), _, _, rfl, rfl, decide (j < R.length), ?_, ?_⟩
    · show V.bl (decide ((j : Int) < ((R.map V.int).length : Int))) = _
      rw [hlenR]
      congr 1
      simp
    by_cases c : j < R.length
    · rw [decide_eq_true c]
      refine iteT ⟨fun σ' H' => ∃ j' dn', j < j' ∧ I j' dn' σ' H', fun σ' H' ⟨j', dn', h1, h2⟩ => ⟨R.length - j', by have := h2.2.1; omega, j', dn', rfl, h2⟩, ?_⟩
      have gj : R[j]? = some R[j] := List.getElem?_eq_getElem c
      have dj : R.drop j = R[j] :: R.drop (j + 1) := List.drop_eq_getElem_cons c
      -- the branch that keeps the piece
      have keep : ¬ (j + 1 < R.length ∧ R[j]? = some p.1 ∧ R[j + 1]? = some p.2) → ∀ H2, Same H1 H2 → (∃ j' dn', j < j' ∧ I j' dn' [some (.ref a), some (.ref b), some (.int z), some (.ref l), some (.int ((j : Int) + 1))] (upd H2 l (.lst (dn.map V.int ++ [.int R[j]])))) := fun hn H2 s2 => by
        refine ⟨j + 1, dn ++ [R[j]], Nat.lt_succ_self _, ?_, c, ?_, ?_, by simp; omega, ?_⟩
        · congr 1
        · exact Same.mut (s1.trans s2) hl
        · rw [upd_same]; simp
        · rw [← e, dj]
          by_cases c1 : j + 1 < R.length
          · have dj1 : R.drop (j + 1) = R[j + 1] :: R.drop (j + 1 + 1) := List.drop_eq_getElem_cons c1
            have hn' : ¬ (R[j] = p.1 ∧ R[j + 1] = p.2) := fun q => hn ⟨c1, by rw [gj, q.1], by rw [List.getElem?_eq_getElem c1, q.2]⟩
            rw [dj1, pt_no hn', ← dj1]
            simp
          · have dj1 : R.drop (j + 1) = [] := List.drop_eq_nil_iff.mpr (by omega)
            rw [dj1]
            simp [pt]
      refine ⟨_, rfl, _, _, rfl, rfl, _, rfl, a, R.map V.int, rfl, .inr (SqT.of ha1), _, _, rfl, rfl, decide (j + 1 < R.length), ?_, ?_⟩
      · show V.bl (decide ((j : Int) + 1 < ((R.map V.int).length : Int))) = _
        rw [hlenR]
        congr 1
        simp
        omega
      by_cases c1 : j + 1 < R.length
      · rw [decide_eq_true c1]
        have gj1 : R[j + 1]? = some R[j + 1] := List.getElem?_eq_getElem c1
        refine iteT ⟨_, rfl, _, rfl, a, R.map V.int, _, _, rfl, rfl, SqT.of ha1, at_row gj, _, rfl, _, rfl, _, _, rfl, rfl, a, R.map V.int, ((j + 1 : Nat) : Int), _, rfl, ?_, SqT.of ha1, at_row gj1, (by show 2 ≤ sizeLine; decide), fun t ht => ?_⟩
        · show V.int ((j : Int) + 1) = _
          congr 1
        have hb2 : upd H1 t (.tup [.int R[j], .int R[j + 1]]) b = some (pr2 p) := same_new ht _ _ hb1
        have nlt : l ≠ t := ne_of_none hd ht
        refine ⟨_, rfl, _, _, dp_pr (p := (R[j], R[j + 1])) upd_same, dp_pr hb2, sh_pr _, sh_pr _, _, rfl, ?_⟩
        rw [eqv_pr]
        by_cases c2 : (R[j], R[j + 1]) = p
        · rw [decide_eq_true c2]
          have q1 : R[j] = p.1 := by rw [← c2]
          have q2 : R[j + 1] = p.2 := by rw [← c2]
          refine iteT ⟨_, rfl, .inl ⟨rfl, _, SqL.of (by rw [upd_ne nlt]; exact hd)⟩, _, rfl, l, _, _, rfl, rfl, (by rw [upd_ne nlt]; exact hd), small_lt (by rw [List.length_map]; omega), ?_⟩
          refine ⟨_, rfl, _, _, rfl, rfl, j + 2, dn ++ [z], by omega, ?_, by omega, ?_, ?_, by simp; omega, ?_⟩
          · congr 1
          · exact Same.mut (s1.trans (same_new ht)) hl
          · rw [upd_same]; simp
          · have dj1 : R.drop (j + 1) = R[j + 1] :: R.drop (j + 1 + 1) := List.drop_eq_getElem_cons c1
            rw [← e, dj, dj1, pt_yes ⟨q1, q2⟩]
            simp
        · rw [decide_eq_false c2]
          refine iteF ⟨_, rfl, .inl ⟨rfl, _, SqL.of (by rw [upd_ne nlt]; exact hd)⟩, _, rfl, _, rfl, a, R.map V.int, _, _, rfl, rfl, SqT.of (same_new ht _ _ ha1), at_row gj, l, _, _, rfl, rfl, (by rw [upd_ne nlt]; exact hd), small_lt (by rw [List.length_map]; omega), ?_⟩
          exact ⟨_, rfl, _, _, rfl, rfl, keep (fun q => c2 (by rw [gj] at q; rw [gj1] at q; exact Prod.ext (Option.some.inj q.2.1) (Option.some.inj q.2.2))) _ (same_new ht)⟩
      · rw [decide_eq_false c1]
        refine iteF (iteF ⟨_, rfl, .inl ⟨rfl, _, SqL.of hd⟩, _, rfl, _, rfl, a, R.map V.int, _, _, rfl, rfl, SqT.of ha1, at_row gj, l, _, _, rfl, rfl, hd, small_lt (by rw [List.length_map]; omega), ?_⟩)
        exact ⟨_, rfl, _, _, rfl, rfl, keep (fun q => c1 q.1) _ (Same.refl _)⟩
    · rw [decide_eq_false c]
      have hjn : R.drop j = [] := List.drop_eq_nil_iff.mpr (by omega)
      rw [hjn, pt_nil, List.append_nil] at e
      refine iteF ⟨_, rfl, l, _, rfl, .inl ⟨SqL.of hd, fun t ht => ?_⟩⟩
      refine k _ t (s1.add ht) (s1.free ht) ?_
      rw [upd_same, e]
end
end Rj
end
section
set_option Elab.async false
set_option linter.all false
set_option maxRecDepth 100000
set_option maxHeartbeats 2000000
/-! lowest_pair, cut_row. -/
namespace Rj
open PySem PySem.Spec PyProof.Rows L2
/-- b is the pair of the lowest rank among l -/
def Best (ps l : List (Int × Int)) (H : Hp) (b : V) : Prop := (b = .non ∧ ∀ p ∈ ps, p ∉ l) ∨
  ∃ (q : Addr) (m : Nat) (p : Int × Int), b = .ref q ∧ H q = some (pr2 p) ∧ ps[m]? = some p ∧ p ∈ l ∧ ∀ k : Nat, k < m → ∀ p', ps[k]? = some p' → p' ∉ l
theorem Best.same {ps l : List (Int × Int)} {H H' : Hp} {b : V} (h : Best ps l H b) (e : Same H H') : Best ps l H' b := by
  rcases h with h | ⟨q, m, p, h1, h2, h3⟩
  · exact .inl h
  · exact .inr ⟨q, m, p, h1, e _ _ h2, h3⟩
theorem not_snoc {l : List (Int × Int)} {p q : Int × Int} (h : q ∉ l) (n : q ≠ p) : q ∉ l ++ [p] := fun m => by
  rcases List.mem_append.mp m with z | z
  · exact h z
  · exact n (List.mem_singleton.mp z)
section
variable {P : Program} {w : World} {K : PySem.W.Frag} {mg : Str → Option Value} {base : Heap}
def spLow : Sp := fun vs H Q _ => ∃ (d a : Addr) (R : List Int) (ps : List (Int × Int)), vs = [.ref d, .ref a] ∧ H d = some (.dT (rkE ps)) ∧ H a = some (row R) ∧ ps.Nodup ∧ R.length ≤ 1000 ∧
  ∀ (H' : Hp) (b : V), Same H H' → Best ps (adj R) H' b → Q b H'
theorem ok_low (T : Wd K mg) : FnOk P w K mg base CX0 1 T.fLowestPair T.dLowestPair ["ranks", "row"] spLow := by
  refine okD T.FLowestPair scLowestPair (fun vs H Q E h => ?_) (fun cdv A outer s H vs Q E hr h => ?_)
  · obtain ⟨d, a, R, ps, rfl, _⟩ := h
    rfl
  · obtain ⟨d, a, R, ps, rfl, hd, ha, nds, hR, k⟩ := h
    have nd := scLowestPair.nd
    have hu := hu_of hr
    refine ⟨_, pss_cons (ps_set (i := 2) nd rfl (.inl rfl) pe_non)
      (pss_cons (ps_for PassesOwn.never rfl (pi_range1 rfl T.no_range (pa_cons (pe_op op_sub (pe_callB call_len_seq (by rfl) T.no_len boot_len (pa_cons (pv 1) pa_nil)) pe_int) pa_nil)) (pg_name (i := 3) nd rfl (Or.inl rfl))
        (pss_cons (ps_set (i := 4) nd rfl (.inl rfl) (pe_tup (pa_cons (pe_ix ix_tup (pv 1) (pv 3) (fun _ _ => rfl)) (pa_cons (pe_ix ix_tup (pv 1) (pe_op op_add (pv 3) pe_int) (fun _ _ => rfl)) pa_nil))))
        (pss_one (ps_if (PW.pt (pw_and (pt_cmp (pc_din hu (pv 4) (pv 0))) (pw_and1 (PW.pt (pw_or (pt_cmpR op_isN (pv 2) pe_non (nomark _))
            (pw_or1 (pt_cmpR op_lt (pe_dget hu (pv 0) (pv 4) (fun _ _ => rfl)) (pe_dget hu (pv 0) (pv 2) (fun _ _ => rfl)) (nomark _))))))))
          (pss_one (ps_set (i := 2) nd rfl (.inl rfl) (pv 4))) pss_nil))))
      (pss_one (ps_ret (pv 2)))), ?_⟩
    have hlenR : (R.map V.int).length = R.length := List.length_map _
    have al : (adj R).length = R.length - 1 := adj_len R
    refine ⟨_, rfl, a, R.map V.int, rfl, .inr (SqT.of ha), _, _, rfl, rfl, ((R.map V.int).length : Int) - 1, rfl, (by rw [hlenR]; omega), (by rw [hlenR]; omega),
      for_range (lo := 0) (n := (((R.map V.int).length : Int) - 1).toNat) (fun i σ H' => ∃ b v3 v4, σ = [some (.ref d), some (.ref a), some b, v3, v4] ∧ Same H H' ∧ Best ps ((adj R).take i) H' b)
        ⟨.non, _, _, rfl, Same.refl _, .inl ⟨rfl, fun _ _ => by simp⟩⟩ ?_ ?_⟩
    · rintro i σ H1 hi ⟨b, v3, v4, rfl, s1, hb⟩
      rw [hlenR] at hi
      have i1 : i + 1 < R.length := by omega
      have i0 : i < R.length := by omega
      have ha1 := s1 _ _ ha
      have hd1 := s1 _ _ hd
      have ga : (adj R)[i]? = some (R[i], R[i + 1]) := adj_at R i _ _ (List.getElem?_eq_getElem i0) (List.getElem?_eq_getElem i1)
      have et : (adj R).take (i + 1) = (adj R).take i ++ [(R[i], R[i + 1])] := by rw [List.take_add_one, ga]; rfl
      -- pair
      refine ⟨_, rfl, _, rfl, a, R.map V.int, ((i : Nat) : Int), _, rfl, ?_, SqT.of ha1, at_row (List.getElem?_eq_getElem i0), _, rfl, _, rfl, _, _, rfl, rfl, a, R.map V.int, ((i + 1 : Nat) : Int), _, rfl, ?_, SqT.of ha1, at_row (List.getElem?_eq_getElem i1), (by show 2 ≤ sizeLine; decide), fun t ht => ?_⟩
      · show V.int (0 + (i : Int)) = _
        congr 1
        omega
      · show V.int (0 + (i : Int) + 1) = _
        congr 1
        omega
      have s2 : Same H1 (upd H1 t (.tup [.int R[i], .int R[i + 1]])) := same_new ht
      have hd2 := s2 _ _ hd1
      have gt : upd H1 t (.tup [.int R[i], .int R[i + 1]]) t = some (.tup ((kp (R[i], R[i + 1])).map kV)) := upd_same
      have hb2 := hb.same s2
      generalize upd H1 t (.tup [.int R[i], .int R[i + 1]]) = H2 at s2 hd2 gt hb2
      have sH := s1.trans s2
      generalize R[i] = x at et gt
      generalize R[i + 1] = y at et gt
      -- pair in ranks
      refine ⟨_, rfl, _, rfl, d, _, rfl, DGet.t hd2 gt, _, rfl, ?_⟩
      by_cases c : (x, y) ∈ ps
      · obtain ⟨m, hm⟩ := List.mem_iff_getElem?.mp c
        have ev : valV (rkE ps) (kp (x, y)) = some (V.int ((0 + m : Nat) : Int)) := rkF_some ps 0 nds m _ hm
        rw [ev]
        refine iteT ?_
        rcases hb2 with ⟨rfl, hn⟩ | ⟨q, m2, p2, rfl, hq, hm2, hl2, hlow⟩
        · -- best is None
          refine ⟨_, rfl, rfl, true, rfl, iteT (iteT ⟨_, rfl, .ref t, _, _, rfl, sH, .inr ⟨t, m, _, rfl, gt, hm, by rw [et]; simp, fun k hk p' hp' => ?_⟩⟩)⟩
          rw [et]
          refine not_snoc (hn p' (List.mem_of_getElem? hp')) fun e => ?_
          subst e
          have := nd_ix nds hp' hm
          omega
        · have ev2 : valV (rkE ps) (kp p2) = some (V.int ((0 + m2 : Nat) : Int)) := rkF_some ps 0 nds m2 _ hm2
          refine ⟨_, rfl, rfl, false, rfl, iteF ⟨_, rfl, _, rfl, d, V.int ((0 + m : Nat) : Int), rfl, by rw [← ev]; exact DGet.t hd2 gt, _, rfl, _, rfl, d, V.int ((0 + m2 : Nat) : Int), rfl, by rw [← ev2]; exact DGet.t hd2 (show H2 q = some (.tup ((kp p2).map kV)) from hq), _, _, rfl, rfl, _, rfl, ?_⟩⟩
          by_cases c2 : m < m2
          · rw [decide_eq_true (by omega)]
            refine iteT ⟨_, rfl, .ref t, _, _, rfl, sH, .inr ⟨t, m, _, rfl, gt, hm, by rw [et]; simp, fun k hk p' hp' => ?_⟩⟩
            rw [et]
            refine not_snoc (hlow k (by omega) p' hp') fun e => ?_
            subst e
            have := nd_ix nds hp' hm
            omega
          · rw [decide_eq_false (by omega)]
            refine iteF ⟨_, _, _, rfl, sH, .inr ⟨q, m2, p2, rfl, hq, hm2, by rw [et]; exact List.mem_append_left _ hl2, fun k hk p' hp' => ?_⟩⟩
            rw [et]
            refine not_snoc (hlow k hk p' hp') fun e => ?_
            subst e
            have := nd_ix nds hp' hm
            omega
      · have ev : valV (rkE ps) (kp (x, y)) = none := rkF_none ps 0 _ c
        rw [ev]
        refine iteF (iteF ⟨b, _, _, rfl, sH, ?_⟩)
        rw [et]
        rcases hb2 with ⟨rfl, hn⟩ | ⟨q, m2, p2, rfl, hq, hm2, hl2, hlow⟩
        · exact .inl ⟨rfl, fun p hp => not_snoc (hn p hp) fun e => c (e ▸ hp)⟩
        · exact .inr ⟨q, m2, p2, rfl, hq, hm2, List.mem_append_left _ hl2, fun k hk p' hp' => not_snoc (hlow k hk p' hp') fun e => c (e ▸ List.mem_of_getElem? hp')⟩
    · rintro σ H1 ⟨b, v3, v4, rfl, s1, hb⟩
      have e : (adj R).take (((R.map V.int).length : Int) - 1).toNat = adj R := List.take_of_length_le (by rw [al, hlenR]; omega)
      rw [e] at hb
      exact ⟨_, rfl, k H1 b s1 hb⟩
/-! ### cut_row -/
def spCutRow : Sp := fun vs H Q _ => ∃ (d a : Addr) (R : List Int) (ps : List (Int × Int)) (b : Int), vs = [.ref d, .int b, .ref a] ∧ H d = some (.dT (rkE ps)) ∧ H a = some (row R) ∧ ps.Nodup ∧ R.length ≤ 1000 ∧ Bound b ps ∧
  ∀ (H' : Hp) (q : Addr), Same H H' → H' q = some (row (stg b ps R)) → Q (.ref q) H'
theorem ok_cutRow (T : Wd K mg) : FnOk P w K mg base CX0 2 T.fCutRow T.dCutRow ["ranks", "letters", "row"] spCutRow := by
  have GL : FnOk P w K mg base CX0 1 T.fLowestPair T.dLowestPair ["ranks", "row"] spLow := ok_low T
  have GP : FnOk P w K mg base CX0 1 T.fPutTogether T.dPutTogether ["row", "pair", "piece"] spPut := ok_put T
  refine okD T.FCutRow scCutRow (fun vs H Q E h => ?_) (fun cdv A outer s H vs Q E hr h => ?_)
  · obtain ⟨d, a, R, ps, b, rfl, _⟩ := h
    rfl
  · obtain ⟨d, a, R, ps, b, rfl, hd, ha, nds, hR, B, k⟩ := h
    have nd := scCutRow.nd
    have hu := hu_of hr
    refine ⟨_, pss_cons (ps_set (i := 3) nd rfl (.inl rfl) (pe_call GL hr (by rfl) T.gLowestPair T.FLowestPair.kp T.bLowestPair .nil pass0 (pa_cons (pv 0) (pa_cons (pv 2) pa_nil))))
      (pss_cons (ps_while PassesOwn.never (pt_cmpR op_notN (pv 3) pe_non (nomark _))
        (pss_cons (ps_set (i := 2) nd rfl (.inl rfl) (pe_call GP hr (by rfl) T.gPutTogether T.FPutTogether.kp T.bPutTogether .nil pass0 (pa_cons (pv 2) (pa_cons (pv 3) (pa_cons (pe_op op_add (pv 1) (pe_dget hu (pv 0) (pv 3) (fun _ _ => rfl))) pa_nil)))))
        (pss_one (ps_set (i := 3) nd rfl (.inl rfl) (pe_call GL hr (by rfl) T.gLowestPair T.FLowestPair.kp T.bLowestPair .nil pass0 (pa_cons (pv 0) (pa_cons (pv 2) pa_nil)))))))
      (pss_one (ps_ret (pv 2)))), ?_⟩
    refine ⟨_, rfl, _, rfl, d, a, R, ps, rfl, hd, ha, nds, hR, fun H1 b1 s1 hb1 => ?_⟩
    refine ⟨fun m σ H' => ∃ (c : Addr) (S : List Int) (v : V), m = S.length ∧ σ = [some (.ref d), some (.int b), some (.ref c), some v] ∧ Same H H' ∧ H' c = some (row S) ∧ S.length ≤ R.length ∧ Best ps (adj S) H' v ∧ stg b ps S = stg b ps R,
      ⟨_, a, R, b1, rfl, rfl, s1, s1 _ _ ha, Nat.le_refl _, hb1, rfl⟩, ?_⟩
    rintro m σ H2 ⟨c, S, v, rfl, rfl, s2, hc, hS, hb, e⟩
    refine ⟨_, rfl, rfl, _, rfl, ?_⟩
    rcases hb with ⟨rfl, hn⟩ | ⟨q, m2, p2, rfl, hq, hm2, hl2, hlow⟩
    · refine iteF ⟨_, rfl, k H2 c s2 ?_⟩
      rw [hc, ← e, low_end hn]
    · refine iteT ⟨fun σ' H' => ∃ (c : Addr) (S' : List Int) (v : V), S'.length < S.length ∧ σ' = [some (.ref d), some (.int b), some (.ref c), some v] ∧ Same H H' ∧ H' c = some (row S') ∧ S'.length ≤ R.length ∧ Best ps (adj S') H' v ∧ stg b ps S' = stg b ps R, fun σ' H' ⟨c', S', v', h1, h2⟩ => ⟨S'.length, h1, c', S', v', rfl, h2⟩, ?_⟩
      have hd2 := s2 _ _ hd
      have ev2 : valV (rkE ps) (kp p2) = some (V.int ((0 + m2 : Nat) : Int)) := rkF_some ps 0 nds m2 _ hm2
      refine ⟨_, rfl, _, rfl, _, rfl, _, rfl, _, rfl, d, V.int ((0 + m2 : Nat) : Int), rfl, by rw [← ev2]; exact DGet.t hd2 (show H2 q = some (.tup ((kp p2).map kV)) from hq), _, _, rfl, rfl, c, q, S, p2, _, rfl, hc, hq, by omega, fun H3 c3 s3 hf3 hc3 => ?_⟩
      have hlt : (pt p2.1 p2.2 (b + ((0 + m2 : Nat) : Int)) S).length < S.length := pt_lt S hl2
      refine ⟨_, rfl, _, rfl, d, c3, _, ps, rfl, s3 _ _ hd2, hc3, nds, by omega, fun H4 b4 s4 hb4 => ?_⟩
      refine ⟨c3, _, b4, hlt, rfl, (s2.trans s3).trans s4, s4 _ _ hc3, by omega, hb4, ?_⟩
      rw [← e]
      have e0 : b + ((0 + m2 : Nat) : Int) = b + (m2 : Int) := by omega
      rw [e0]
      exact low_step B hm2 hlow
end
end Rj
end
section
set_option Elab.async false
set_option linter.all false
set_option maxRecDepth 100000
set_option maxHeartbeats 2000000
/-! is_piece, check_piece, text_of, piece_of, __len__, is_proper. -/
namespace Rj
open PySem PySem.Spec PyProof.Rows L2
theorem at_txt {T : List Txt} {i : Int} (h0 : 0 ≤ i) (h1 : i < T.length) : atI (T.map vt) i = some (vt (tat T i)) := by
  refine at_of (j := i.toNat) (by omega) ?_
  have : i.toNat < T.length := by omega
  simp [tat, this]
section
variable {P : Program} {w : World} {K : PySem.W.Frag} {mg : Str → Option Value} {base : Heap}
def spIsPiece (C : Addr) : Sp := fun vs H Q _ => ∃ (p : Addr) (i : Int) (A : Txt) (ps : List (Int × Int)), vs = [.ref p, .int i] ∧ JAt C H p A ps ∧ Q (.bl (decide (0 ≤ i ∧ i ≤ (A.length : Int) + ps.length - 1))) H
theorem ok_isPiece (T : Wd K mg) : FnOk P w K mg base CX0 2 T.fJIsPiece T.dJIsPiece ["self", "piece"] (spIsPiece T.C) := by
  have G : FnOk P w K mg base CX0 1 T.fIsBetween T.dIsBetween ["value", "least", "most"] spBetween := ok_between T
  refine okD T.FJIsPiece scJIsPiece (fun vs H Q E h => ?_) (fun cdv A outer s H vs Q E hr h => ?_)
  · obtain ⟨p, i, A, ps, rfl, _⟩ := h
    rfl
  · obtain ⟨p, i, L, ps, rfl, J, k⟩ := h
    obtain ⟨dx, pa, ta, ra, na, lg, hp, hj⟩ := J.ob
    refine ⟨_, pss_one (ps_ret (pe_call G hr (by rfl) T.gIsBetween T.FIsBetween.kp T.bIsBetween .nil pass0 (pa_cons (pv 1) (pa_cons pe_int (pa_cons (pe_op op_sub (pe_callB call_len_seq (by rfl) T.no_len boot_len (pa_cons (pe_fld (pv 0) rfl) pa_nil)) pe_int) pa_nil))))), ?_⟩
    refine ⟨_, rfl, _, rfl, p, T.C, dx, _, _, rfl, hp, T.cl, T.n_texts, fl_texts, ta, _, rfl, .inl (SqL.of hj.txt), _, _, rfl, rfl, i, 0, _, rfl, ?_⟩
    have e : (((txs L ps).map vt).length : Int) - 1 = (L.length : Int) + ps.length - 1 := by rw [List.length_map, txs_len]; omega
    rw [e]
    exact k
def spCheckPiece (C : Addr) : Sp := fun vs H Q _ => ∃ (p : Addr) (i : Int) (A : Txt) (ps : List (Int × Int)), vs = [.ref p, .int i] ∧ JAt C H p A ps ∧ 0 ≤ i ∧ i < (A.length : Int) + ps.length ∧ Q .non H
theorem ok_checkPiece (T : Wd K mg) : FnOk P w K mg base CX0 3 T.fJCheckPiece T.dJCheckPiece ["self", "piece"] (spCheckPiece T.C) := by
  have G : FnOk P w K mg base CX0 2 T.fJIsPiece T.dJIsPiece ["self", "piece"] (spIsPiece T.C) := ok_isPiece T
  refine okD T.FJCheckPiece scJCheckPiece (fun vs H Q E h => ?_) (fun cdv A outer s H vs Q E hr h => ?_)
  · obtain ⟨p, i, A, ps, rfl, _⟩ := h
    rfl
  · obtain ⟨p, i, L, ps, rfl, J, h0, h1, k⟩ := h
    obtain ⟨dx, pa, ta, ra, na, lg, hp, hj⟩ := J.ob
    refine ⟨_, pss_one (ps_if (pt_not (pt_val (pe_meth (pv 0) T.cl T.mJIsPiece G hr T.bJIsPiece .nil pass0 (pa_cons (pv 1) pa_nil)))) (pss_one ps_never) pss_nil), ?_⟩
    refine ⟨_, rfl, p, dx, _, rfl, hp, fl_is_piece, _, rfl, p, i, L, ps, rfl, J, true, ?_, iteF k⟩
    exact blT (by omega)
def spTextOf (C : Addr) : Sp := fun vs H Q _ => ∃ (p : Addr) (i : Int) (A : Txt) (ps : List (Int × Int)), vs = [.ref p, .int i] ∧ JAt C H p A ps ∧ 0 ≤ i ∧ i < (A.length : Int) + ps.length ∧ Q (vt (tat (txs A ps) i)) H
theorem ok_textOf (T : Wd K mg) : FnOk P w K mg base CX0 4 T.fJTextOf T.dJTextOf ["self", "piece"] (spTextOf T.C) := by
  have G : FnOk P w K mg base CX0 3 T.fJCheckPiece T.dJCheckPiece ["self", "piece"] (spCheckPiece T.C) := ok_checkPiece T
  refine okD T.FJTextOf scJTextOf (fun vs H Q E h => ?_) (fun cdv A outer s H vs Q E hr h => ?_)
  · obtain ⟨p, i, A, ps, rfl, _⟩ := h
    rfl
  · obtain ⟨p, i, L, ps, rfl, J, h0, h1, k⟩ := h
    obtain ⟨dx, pa, ta, ra, na, lg, hp, hj⟩ := J.ob
    refine ⟨_, pss_cons (ps_expr (pe_meth (pv 0) T.cl T.mJCheckPiece G hr T.bJCheckPiece .nil pass0 (pa_cons (pv 1) pa_nil))) (pss_one (ps_ret (pe_ix ix_list (pe_fld (pv 0) rfl) (pv 1) (fun _ _ => rfl)))), ?_⟩
    refine ⟨_, rfl, p, dx, _, rfl, hp, fl_check_piece, _, rfl, p, i, L, ps, rfl, J, h0, h1, ?_⟩
    exact ⟨_, rfl, p, T.C, dx, _, _, rfl, hp, T.cl, T.n_texts, fl_texts, _, rfl, ta, _, i, _, rfl, rfl, SqL.of hj.txt, at_txt h0 (by rw [txs_len]; omega), k⟩
def spPieceOf (C : Addr) : Sp := fun vs H Q _ => ∃ (p : Addr) (i c : Nat) (A : Txt) (ps : List (Int × Int)), vs = [.ref p, vt [c]] ∧ JAt C H p A ps ∧ A[i]? = some c ∧ Q (.int (i : Int)) H
theorem ok_pieceOf (T : Wd K mg) : FnOk P w K mg base CX0 1 T.fJPieceOf T.dJPieceOf ["self", "text"] (spPieceOf T.C) := by
  refine okD T.FJPieceOf scJPieceOf (fun vs H Q E h => ?_) (fun cdv A outer s H vs Q E hr h => ?_)
  · obtain ⟨p, i, c, A, ps, rfl, _⟩ := h
    rfl
  · obtain ⟨p, i, c, L, ps, rfl, J, hc, k⟩ := h
    obtain ⟨dx, pa, ta, ra, na, lg, hp, hj⟩ := J.ob
    obtain ⟨kvs, h1, h2, h3⟩ := hj.nms
    have hu := hu_of hr
    refine ⟨_, pss_one (ps_ret (pe_dget1 hu (pe_fld (pv 0) rfl) (pv 1) ⟨rfl, rfl, rfl, rfl⟩)), ?_⟩
    refine ⟨_, rfl, p, T.C, dx, _, _, rfl, hp, T.cl, T.n_numbers, fl_numbers, na, rfl, .inl ⟨kvs, .inl h1⟩, _, rfl, _, DGet.k (k := Sum.inr (tx [c])) h1, ?_⟩
    rw [h3 i c hc]
    exact k
def spLen (C : Addr) : Sp := fun vs H Q _ => ∃ (p : Addr) (A : Txt) (ps : List (Int × Int)), vs = [.ref p] ∧ JAt C H p A ps ∧ Q (.int (ps.length : Int)) H
theorem ok_len (T : Wd K mg) : FnOk P w K mg base CX0 1 T.fJLen T.dJLen ["self"] (spLen T.C) := by
  refine okD T.FJLen scJLen (fun vs H Q E h => ?_) (fun cdv A outer s H vs Q E hr h => ?_)
  · obtain ⟨p, A, ps, rfl, _⟩ := h
    rfl
  · obtain ⟨p, L, ps, rfl, J, k⟩ := h
    obtain ⟨dx, pa, ta, ra, na, lg, hp, hj⟩ := J.ob
    obtain ⟨as, h1, h2⟩ := hj.prs
    refine ⟨_, pss_one (ps_ret (pe_callB call_len_seq (by rfl) T.no_len boot_len (pa_cons (pe_fld (pv 0) rfl) pa_nil))), ?_⟩
    refine ⟨_, rfl, p, T.C, dx, _, _, rfl, hp, T.cl, T.n_pairs, fl_pairs, pa, _, rfl, .inr (SqT.of h1), ?_⟩
    rw [List.length_map, h2.len]
    exact k
/-! ### is_proper -/
def spIsProper (C : Addr) : Sp := fun vs H Q _ => ∃ (p b : Addr) (A : Txt) (ps : List (Int × Int)) (q : Int × Int), vs = [.ref p, .ref b] ∧ JAt C H p A ps ∧ H b = some (pr2 q) ∧ OkP A ps q ∧
  ∀ H', Same H H' → Q (.bl true) H'
theorem idx_at {A : Txt} {c : Nat} (h : c ∈ A) : A[A.idxOf c]? = some c := by
  rw [List.getElem?_eq_getElem (List.idxOf_lt_length_of_mem h)]
  exact congrArg some (List.getElem_idxOf _)
theorem lets_len (A s : Txt) : (lets A s).length = s.length := by unfold lets; simp
theorem lets_take {A s : Txt} {i c : Nat} (h : s[i]? = some c) : lets A (s.take (i + 1)) = lets A (s.take i) ++ [((A.idxOf c : Nat) : Int)] := by
  unfold lets
  rw [List.take_add_one, h]
  simp
theorem ok_isProper (T : Wd K mg) : FnOk P w K mg base CX0 3 T.fJIsProper T.dJIsProper ["self", "pair"] (spIsProper T.C) := by
  have G : FnOk P w K mg base CX0 1 T.fIsBetween T.dIsBetween ["value", "least", "most"] spBetween := ok_between T
  have GC : FnOk P w K mg base CX0 2 T.fCutRow T.dCutRow ["ranks", "letters", "row"] spCutRow := ok_cutRow T
  refine okD T.FJIsProper scJIsProper (fun vs H Q E h => ?_) (fun cdv A outer s H vs Q E hr h => ?_)
  · obtain ⟨p, b, A, ps, q, rfl, _⟩ := h
    rfl
  · obtain ⟨p, b, L, ps, q, rfl, J, hb, o, k⟩ := h
    have pr := J.pr
    have al1 := J.al.l1
    obtain ⟨dx, pa, ta, ra, na, lg, hp, hj⟩ := J.ob
    obtain ⟨kvs, h1, h2, h3⟩ := hj.nms
    have hu := hu_of hr
    have nd := scJIsProper.nd
    have hr1 : Room 1 _ := hr.mono (by decide)
    obtain ⟨tLP, iLP⟩ := T.iLP
    refine ⟨_, pss_cons (ps_asg (pv 1) (pg_tup rfl (pgs_cons (pg_name (i := 2) nd rfl (.inl rfl)) (pgs_cons (pg_name (i := 3) nd rfl (.inl rfl)) pgs_nil))))
      (pss_cons (ps_set (i := 4) nd rfl (.inl rfl) (pe_op op_sub (pe_callB call_len_seq (by rfl) T.no_len boot_len (pa_cons (pe_fld (pv 0) rfl) pa_nil)) pe_int))
      (pss_cons (ps_if (PW.pt (pw_or (pt_not (pt_val (pe_call G hr1 (by rfl) T.gIsBetween T.FIsBetween.kp T.bIsBetween .nil pass0 (pa_cons (pv 2) (pa_cons pe_int (pa_cons (pv 4) pa_nil))))))
          (pw_or1 (pt_not (pt_val (pe_call G hr1 (by rfl) T.gIsBetween T.FIsBetween.kp T.bIsBetween .nil pass0 (pa_cons (pv 3) (pa_cons pe_int (pa_cons (pv 4) pa_nil))))))))) (pss_one (ps_ret pe_bl)) pss_nil)
      (pss_cons (ps_set (i := 5) nd rfl (.inl rfl) (pe_op op_add_str (pe_ix ix_list (pe_fld (pv 0) rfl) (pv 2) (fun _ _ => rfl)) (pe_ix ix_list (pe_fld (pv 0) rfl) (pv 3) (fun _ _ => rfl))))
      (pss_cons (ps_if (pt_cmpR op_gt (pe_callB call_len_str (by rfl) T.no_len boot_len (pa_cons (pv 5) pa_nil)) (pe_glob (v := .int 40) (by rfl) iLP ⟨_, rfl⟩) (nomark _)) (pss_one (ps_ret pe_bl)) pss_nil)
      (pss_cons (ps_set (i := 6) nd rfl (.inl rfl) (pe_callTy call_tuple_of (by rfl) T.no_tuple (by decide +kernel) (pa_cons
          (pe_lc (own := [("letter", 7)]) (g := gName 7) (te := tDGet (tFld K (tVar 0) "numbers") (tVar 7)) rfl nd (pi_str (pv 5)) (blkOk_by (N := NJIsProper) (sc := defScope sJIsProper) (by decide +kernel)) (fun _ _ _ _ _ => pg_name (i := 7) nd rfl (Or.inl rfl)) (fun _ _ _ _ _ => pts_nil)
            (fun _ _ _ _ _ => pe_dget (by exact hu) (pe_fld (pv 0) (by rfl)) (pv 7) (fun _ _ => rfl))) pa_nil)))
      (pss_one (ps_ret (pe_cmpR (op_eqD hr.units) (pe_call GC hr (by rfl) T.gCutRow T.FCutRow.kp T.bCutRow .nil pass0 (pa_cons (pe_fld (pv 0) rfl) (pa_cons (pe_callB call_len_str (by rfl) T.no_len boot_len (pa_cons (pe_fld (pv 0) rfl) pa_nil)) (pa_cons (pv 6) pa_nil)))) (pv 1) (nomark _))))))))), ?_⟩
    -- left, right = pair
    refine ⟨_, rfl, b, _, rfl, SqT.of hb, rfl, _, _, rfl, _, _, rfl, rfl, ?_⟩
    -- most
    refine ⟨_, rfl, p, T.C, dx, _, _, rfl, hp, T.cl, T.n_texts, fl_texts, ta, _, rfl, .inl (SqL.of hj.txt), _, _, rfl, rfl, ?_⟩
    have ol0 := o.l0
    have ol1 := o.l1
    have or0 := o.r0
    have or1 := o.r1
    have e : (((txs L ps).map vt).length : Int) = (L.length : Int) + ps.length := by rw [List.length_map, txs_len]; omega
    refine ⟨_, rfl, _, rfl, q.1, 0, _, rfl, true, blT (by rw [e]; omega), iteF ⟨_, rfl, _, rfl, q.2, 0, _, rfl, true, blT (by rw [e]; omega), iteF ?_⟩⟩
    -- text
    refine ⟨_, rfl, p, T.C, dx, _, _, rfl, hp, T.cl, T.n_texts, fl_texts, _, rfl, ta, _, q.1, _, rfl, rfl, SqL.of hj.txt, at_txt ol0 (by rw [txs_len]; omega), ?_⟩
    refine ⟨_, rfl, p, T.C, dx, _, _, rfl, hp, T.cl, T.n_texts, fl_texts, _, rfl, ta, _, q.2, _, rfl, rfl, SqL.of hj.txt, at_txt or0 (by rw [txs_len]; omega), ?_⟩
    have ln := o.len
    refine ⟨_, _, rfl, rfl, by rw [tx_len, tx_len, ← List.length_append]; exact small_line (by omega), ?_⟩
    rw [tx_app]
    have tq1 := (pr.texts q.1 ol0 (by omega)).1
    have tq2 := (pr.texts q.2 or0 (by omega)).1
    have ocut := o.cut
    have tt : ∀ c ∈ tat (txs L ps) q.1 ++ tat (txs L ps) q.2, c ∈ L := fun c hc => (List.mem_append.mp hc).elim (tq1 c) (tq2 c)
    generalize tat (txs L ps) q.1 ++ tat (txs L ps) q.2 = t at ln ocut tt
    -- len(text) > 40
    refine ⟨_, rfl, _, rfl, by rw [tx_len]; exact small_line (by omega), _, _, rfl, rfl, false, blF (by rw [tx_len]; omega), iteF ?_⟩
    -- row
    have nm : ∀ c ∈ t, c ∈ L := tt
    refine ⟨_, rfl, _, rfl, fun D hD => lc_it walk_str (fun i H' => Same H H' ∧ H' D = some (.lst ((lets L (t.take i)).map V.int))) ⟨same_new hD, by rw [upd_same]; rfl⟩ (fun _ _ _ _ => trivial) ?_ ?_⟩
    · rintro i y H1 H2 hi ⟨s1, hd⟩ ⟨rfl, c, hc, rfl⟩
      have hc' : t[i]? = some c := by simpa [tx] using hc
      have hcL : c ∈ L := nm c (List.mem_of_getElem? hc')
      have h1' := s1 _ _ h1
      have ev : valV kvs (.inr (tx [c])) = some (V.int ((L.idxOf c : Nat) : Int)) := h3 _ c (idx_at hcL)
      refine ⟨rfl, lcY ?_⟩
      refine ⟨_, rfl, p, T.C, dx, _, _, rfl, s1 _ _ hp, T.cl, T.n_numbers, fl_numbers, _, rfl, na, _, rfl, by rw [← ev]; exact DGet.k (k := Sum.inr (tx [c])) h1', _, hd, small_lt (by rw [List.length_map, lets_len, List.length_take]; omega), Same.mut s1 hD, ?_⟩
      rw [upd_same, lets_take hc']
      simp
    · rintro H1 ⟨s1, hd⟩
      have et : t.take (tx t).cps.size = t := List.take_of_length_le (by simp [tx])
      rw [et] at hd
      refine ⟨D, _, rfl, .inl ⟨SqL.of hd, fun r hr' => ?_⟩⟩
      -- cut_row(..) == pair
      have s2 : Same H (upd H1 r (row (lets L t))) := s1.add hr'
      have nd2 := pr.nodup
      refine ⟨_, rfl, p, T.C, dx, _, _, rfl, s2 _ _ hp, T.cl, T.n_ranks, fl_ranks, _, rfl, p, T.C, dx, _, _, rfl, s2 _ _ hp, T.cl, T.n_alphabet, fl_alphabet, tx L, rfl, ?_, _, rfl, ra, r, lets L t, ps, _, rfl, s2 _ _ hj.rks, upd_same, nd2, by rw [lets_len]; omega, ?_, fun H2 c s3 hc => ?_⟩
      · rw [tx_len]
        exact small_line (by omega)
      · rw [tx_len]
        exact pr.bound
      · rw [tx_len, ocut] at hc
        have hb2 := s3 _ _ (s2 _ _ hb)
        refine ⟨_, rfl, _, _, dp_pr (p := q) hc, dp_pr hb2, sh_pr _, sh_pr _, ?_⟩
        rw [eqv_pr, decide_eq_true rfl]
        exact k H2 (s2.trans s3)
end
end Rj
end
section
set_option Elab.async false
set_option linter.all false
set_option maxRecDepth 100000
set_option maxHeartbeats 2000000
/-! take, __init__. -/
namespace Rj
open PySem PySem.Spec PyProof.Rows L2
section
variable {P : Program} {w : World} {K : PySem.W.Frag} {mg : Str → Option Value} {base : Heap}
def spTake (C : Addr) : Sp := fun vs H Q _ => ∃ (p b dx pa ta ra na : Addr) (lg : Int) (A : Txt) (ps : List (Int × Int)) (q : Int × Int), vs = [.ref p, .ref b] ∧ H p = some (.ins C dx (flds A pa ta ra na lg)) ∧ JIn H A ps pa ta ra na ∧ Alph A ∧ Proper A ps ∧
  H b = some (pr2 q) ∧ OkP A ps q ∧ ps.length ≤ 1000 ∧
  ∀ (H' : Hp) (pa' : Addr) (lg' : Int), H' p = some (.ins C dx (flds A pa' ta ra na lg')) → JIn H' A (ps ++ [q]) pa' ta ra na → (∀ c o, H c = some o → c ≠ p → c ≠ ta → c ≠ ra → c ≠ na → H' c = some o) → Q .non H'
theorem ok_take (T : Wd K mg) : FnOk P w K mg base CX0 4 T.fJTake T.dJTake ["self", "pair"] (spTake T.C) := by
  have G : FnOk P w K mg base CX0 3 T.fJIsProper T.dJIsProper ["self", "pair"] (spIsProper T.C) := ok_isProper T
  refine okD T.FJTake scJTake (fun vs H Q E h => ?_) (fun cdv A outer s H vs Q E hr h => ?_)
  · obtain ⟨p, b, dx, pa, ta, ra, na, lg, A, ps, q, rfl, _⟩ := h
    rfl
  · obtain ⟨p, b, dx, pa, ta, ra, na, lg, L, ps, q, rfl, hp, hj, al, pr, hb, o, hl, k⟩ := h
    have hu := hu_of hr
    have nd := scJTake.nd
    refine ⟨_, pss_cons (ps_set (i := 2) nd rfl (.inl rfl) (pe_callB call_len_seq (by rfl) T.no_len boot_len (pa_cons (pe_fld (pv 0) rfl) pa_nil)))
      (pss_cons (ps_if (pt_not (pt_val (pe_meth (pv 0) T.cl T.mJIsProper G hr T.bJIsProper .nil pass0 (pa_cons (pv 1) pa_nil)))) (pss_one ps_never) pss_nil)
      (pss_cons (ps_set (i := 3) nd rfl (.inl rfl) (pe_op op_add_str (pe_ix ix_list (pe_fld (pv 0) rfl) (pe_ix ix_tup (pv 1) pe_int (fun _ _ => rfl)) (fun _ _ => rfl)) (pe_ix ix_list (pe_fld (pv 0) rfl) (pe_ix ix_tup (pv 1) pe_int (fun _ _ => rfl)) (fun _ _ => rfl))))
      (pss_cons (ps_fld (pv 0) (pe_op op_catA (pe_fld (pv 0) rfl) (pe_tup (pa_cons (pv 1) pa_nil))) rfl)
      (pss_cons (ps_dput hu (pe_fld (pv 0) rfl) (pv 3) (pe_callB call_len_seq (by rfl) T.no_len boot_len (pa_cons (pe_fld (pv 0) rfl) pa_nil)) rfl)
      (pss_cons (ps_expr (pe_bm PySem.F.plainAttrs_list PySem.F.slot_list_append PySem.F.type_list_append mt_append (pe_fld (pv 0) rfl) (pa_cons (pv 3) pa_nil)))
      (pss_cons (ps_dput hu (pe_fld (pv 0) rfl) (pv 1) (pv 2) rfl)
      (pss_one (ps_fld (pv 0) (pe_callB (call_max2 rfl) (by rfl) T.no_max (by decide +kernel) (pa_cons (pe_fld (pv 0) rfl) (pa_cons (pe_callB call_len_str (by rfl) T.no_len boot_len (pa_cons (pv 3) pa_nil)) pa_nil))) rfl)))))))), ?_⟩
    obtain ⟨as, hpa, hps⟩ := hj.prs
    obtain ⟨kvs, hna, hkl, hkv⟩ := hj.nms
    have el : (as.map V.ref).length = ps.length := by rw [List.length_map, hps.len]
    -- rank
    refine ⟨_, rfl, p, T.C, dx, _, _, rfl, hp, T.cl, T.n_pairs, fl_pairs, pa, _, rfl, .inr (SqT.of hpa), ?_⟩
    rw [el]
    -- is_proper
    refine ⟨_, rfl, p, dx, _, rfl, hp, fl_is_proper, _, rfl, p, b, L, ps, q, rfl, ⟨al, pr, dx, pa, ta, ra, na, lg, hp, hj⟩, hb, o, fun H1 s1 => ⟨true, rfl, iteF ?_⟩⟩
    have ol0 := o.l0
    have ol1 := o.l1
    have or0 := o.r0
    have or1 := o.r1
    have ln := o.len
    have hb1 := s1 _ _ hb
    have hp1 := s1 _ _ hp
    have ht1 := s1 _ _ hj.txt
    have hr1 := s1 _ _ hj.rks
    have hn1 := s1 _ _ hna
    have hpa1 := s1 _ _ hpa
    have nm := pr.texts
    have nm1 := (nm q.1 ol0 (by omega)).2.1
    have nm2 := (nm q.2 or0 (by omega)).2.1
    -- text
    refine ⟨_, rfl, p, T.C, dx, _, _, rfl, hp1, T.cl, T.n_texts, fl_texts, _, rfl, b, _, 0, .int q.1, rfl, rfl, SqT.of hb1, rfl, ta, _, q.1, _, rfl, rfl, SqL.of ht1, at_txt ol0 (by rw [txs_len]; omega), ?_⟩
    refine ⟨_, rfl, p, T.C, dx, _, _, rfl, hp1, T.cl, T.n_texts, fl_texts, _, rfl, b, _, 1, .int q.2, rfl, rfl, SqT.of hb1, rfl, ta, _, q.2, _, rfl, rfl, SqL.of ht1, at_txt or0 (by rw [txs_len]; omega), ?_⟩
    refine ⟨_, _, rfl, rfl, by rw [tx_len, tx_len, ← List.length_append]; exact small_line (by omega), ?_⟩
    rw [tx_app]
    have tl : 2 ≤ (tat (txs L ps) q.1 ++ tat (txs L ps) q.2).length := by rw [List.length_append]; omega
    have etx : txs L (ps ++ [q]) = txs L ps ++ [tat (txs L ps) q.1 ++ tat (txs L ps) q.2] := txs_snoc L ps q
    generalize tat (txs L ps) q.1 ++ tat (txs L ps) q.2 = t at ln tl etx
    -- self.pairs + (pair,)
    refine ⟨_, rfl, p, T.C, dx, _, _, rfl, hp1, T.cl, T.n_pairs, fl_pairs, _, rfl, (by show 1 ≤ sizeLine; decide), fun t1 ht1' => ?_⟩
    have s2 : Same H1 (upd H1 t1 (.tup [.ref b])) := same_new ht1'
    -- what is left, from a heap that knows the new pairs at pa'
    have fin : ∀ (pa' : Addr) (H2 : Hp), Same H1 H2 → H2 pa' = some (.tup ((as ++ [b]).map V.ref)) → tSeq (sDPut (tFld K (tVar 0) "numbers") (tVar 3) (tCB (fun xs H Q => ∃ p ys, xs = [V.ref p] ∧ (SqL K H p ys ∨ SqT K H p ys) ∧ Q (V.int (ys.length : Int)) H) (tCons (tFld K (tVar 0) "texts") tNil)))
        (tSeq (tDrop (tBM K "list" rAppend (tFld K (tVar 0) "texts") (tCons (tVar 3) tNil)))
        (tSeq (sDPut (tFld K (tVar 0) "ranks") (tVar 1) (tVar 2)) (sFld K (tVar 0) (tCB (fun xs H Q => ∃ i j, xs = [V.int i, V.int j] ∧ Q (V.int (if j > i then j else i)) H) (tCons (tFld K (tVar 0) "longest") (tCons (tCB (fun xs H Q => ∃ z, xs = [V.str z] ∧ z.length ≤ sizeLine ∧ Q (V.int (z.length : Int)) H) (tCons (tVar 3) tNil)) tNil))) "longest")))
        { nx := fun _ H' => Q .non H', rt := Q } [some (.ref p), some (.ref b), some (.int (ps.length : Int)), some (vt t)] (upd H2 p (.ins T.C dx (flds L pa' ta ra na lg))) := by
      intro pa' H2 s3 hpa'
      have hp2 := s3 _ _ hp1
      have hb2 := s3 _ _ hb1
      have hta2 := s3 _ _ ht1
      have hra2 := s3 _ _ hr1
      have hna2 := s3 _ _ hn1
      have ntp : ta ≠ p := ne_of hta2 hp2 (by intro z; cases z)
      have nrp : ra ≠ p := ne_of hra2 hp2 (by intro z; cases z)
      have nnp : na ≠ p := ne_of hna2 hp2 (by intro z; cases z)
      have nbp : b ≠ p := ne_of hb2 hp2 (by intro z; cases z)
      have ntn : ta ≠ na := ne_of hta2 hna2 (by intro z; cases z)
      have nrn : ra ≠ na := ne_of hra2 hna2 (by intro z; cases z)
      have nbn : b ≠ na := ne_of hb2 hna2 (by intro z; cases z)
      have nrt : ra ≠ ta := ne_of hra2 hta2 (by intro z; cases z)
      have nbt : b ≠ ta := ne_of hb2 hta2 (by intro z; cases z)
      -- self.numbers[text] = len(self.texts)
      refine ⟨_, rfl, p, T.C, dx, _, _, rfl, upd_same, T.cl, T.n_texts, fl_texts, ta, _, rfl, .inl (SqL.of (by rw [upd_ne ntp]; exact hta2)), _, rfl, p, T.C, dx, _, _, rfl, upd_same, T.cl, T.n_numbers, fl_numbers, _, rfl, na, _, rfl,
        DPut.k (k := Sum.inr (tx t)) (by rw [upd_ne nnp]; exact hna2) (small_lt (by have := al.l1; omega)), ?_⟩
      -- self.texts.append(text)
      refine ⟨_, rfl, p, T.C, dx, _, _, rfl, by rw [upd_ne (Ne.symm nnp)]; exact upd_same, T.cl, T.n_texts, fl_texts, .inl ⟨rfl, _, SqL.of (by rw [upd_ne ntn, upd_ne ntp]; exact hta2)⟩, _, rfl, ta, _, _, rfl, rfl, by rw [upd_ne ntn, upd_ne ntp]; exact hta2,
        small_lt (by rw [List.length_map, txs_len]; have := al.l1; omega), ?_⟩
      -- self.ranks[pair] = rank
      refine ⟨_, rfl, _, rfl, p, T.C, dx, _, _, rfl, by rw [upd_ne (Ne.symm ntp), upd_ne (Ne.symm nnp)]; exact upd_same, T.cl, T.n_ranks, fl_ranks, _, rfl, ra, _, rfl,
        DPut.t (k := kp q) (by rw [upd_ne nrt, upd_ne nrn, upd_ne nrp]; exact hra2) (by rw [upd_ne nbt, upd_ne nbn, upd_ne nbp]; exact hb2) (small_lt (by unfold rkE; rw [rkF_len]; omega)), ?_⟩
      -- self.longest = ..
      refine ⟨_, rfl, p, T.C, dx, _, _, rfl, by rw [upd_ne (Ne.symm nrp), upd_ne (Ne.symm ntp), upd_ne (Ne.symm nnp)]; exact upd_same, T.cl, T.n_longest, fl_longest, _, rfl, tx t, rfl, by rw [tx_len]; exact small_line (by omega), lg, _, rfl, _, rfl, p, T.C, dx, _, rfl,
        by rw [upd_ne (Ne.symm nrp), upd_ne (Ne.symm ntp), upd_ne (Ne.symm nnp)]; exact upd_same, T.cl, T.n_longest, (by show 6 < 1000; decide), ?_⟩
      rw [pf_longest]
      have old : ∀ c o, H2 c = some o → c ≠ p → c ≠ ta → c ≠ ra → c ≠ na → (upd (upd (upd (upd (upd H2 p (.ins T.C dx (flds L pa' ta ra na lg))) na (.dK (putK kvs (Sum.inr (tx t)) (V.int (((txs L ps).map vt).length : Int))))) ta (.lst ((txs L ps).map vt ++ [vt t]))) ra (.dT (putK (rkE ps) (kp q) (V.int (ps.length : Int))))) p (.ins T.C dx (flds L pa' ta ra na (if (((tx t).length : Nat) : Int) > lg then (((tx t).length : Nat) : Int) else lg)))) c = some o := fun c o e n1 n2 n3 n4 => by
        rw [upd_ne n1, upd_ne n3, upd_ne n2, upd_ne n4, upd_ne n1]
        exact e
      have oldT : ∀ c xs, H2 c = some (.tup xs) → _ := fun c xs e => old c _ e (ne_of e hp2 (by intro z; cases z)) (ne_of e hta2 (by intro z; cases z)) (ne_of e hra2 (by intro z; cases z)) (ne_of e hna2 (by intro z; cases z))
      refine k _ pa' _ upd_same ⟨⟨as ++ [b], oldT _ _ hpa', PrsAt.snoc (hps.mono fun c xs e => oldT _ _ (s3 _ _ (s1 _ _ e))) (oldT _ _ hb2)⟩, ?_, ?_, ?_⟩ (fun c o e n1 n2 n3 n4 => old c o (s3 _ _ (s1 _ _ e)) n1 n2 n3 n4)
      · rw [upd_ne ntp, upd_ne (Ne.symm nrt), upd_same, etx]
        simp
      · rw [upd_ne nrp, upd_same]
        unfold rkE
        rw [putK_new _ (rkF_none ps 0 q (o.new pr)), rkF_snoc, Nat.zero_add]
      · refine ⟨_, by rw [upd_ne nnp, upd_ne (Ne.symm nrn), upd_ne (Ne.symm ntn), upd_same], ?_, fun i c hc => ?_⟩
        · have h1 : (putK kvs (Sum.inr (tx t)) (V.int (((txs L ps).map vt).length : Int))).length ≤ kvs.length + 1 := by
            unfold putK
            split <;> simp
          rw [List.length_append]
          simp at h1 ⊢
          omega
        · rw [valV_put, if_neg, hkv i c hc]
          intro e
          have e' : tx [c] = tx t := Sum.inr.inj e
          have := tx_inj e'
          rw [← this] at tl
          simp at tl
    refine ⟨pa, t1, _, _, rfl, rfl, SqT.of (s2 _ _ hpa1), SqT.of upd_same, small_line (by rw [el]; simp; omega), fun e0 => ?_, fun _ e0 => (by cases e0), fun _ _ p2 hp2 => ?_⟩
    · refine ⟨_, rfl, p, T.C, dx, _, rfl, s2 _ _ hp1, T.cl, T.n_pairs, (by show 6 < 1000; decide), ?_⟩
      rw [pf_pairs]
      refine fin t1 _ s2 ?_
      have : as = [] := by simpa using e0
      rw [this]
      exact upd_same
    · refine ⟨_, rfl, p, T.C, dx, _, rfl, same_new hp2 _ _ (s2 _ _ hp1), T.cl, T.n_pairs, (by show 6 < 1000; decide), ?_⟩
      rw [pf_pairs]
      refine fin p2 _ (s2.add hp2) ?_
      rw [upd_same]
      simp
end
end Rj
end
section
set_option Elab.async false
set_option linter.all false
set_option maxRecDepth 100000
set_option maxHeartbeats 2000000
/-! __init__. -/
namespace Rj
open PySem PySem.Spec PyProof.Rows L2
theorem asc_nd {A : Txt} (h : A.Pairwise (· < ·)) {i j c : Nat} (hi : A[i]? = some c) (hj : A[j]? = some c) : i = j := by
  have nd : A.Nodup := h.imp fun h => Nat.ne_of_lt h
  exact nd_ix nd hi hj
theorem txs_nil_v (A : Txt) : (txs A []).map vt = A.map fun c => V.str ⟨#[c]⟩ := by
  rw [txs_nil, List.map_map]
  rfl
section
variable {P : Program} {w : World} {K : PySem.W.Frag} {mg : Str → Option Value} {base : Heap}
def spInit (C : Addr) : Sp := fun vs H Q _ => ∃ (x pp dx : Addr) (A : Txt) (as : List Addr) (ps : List (Int × Int)), vs = [.ref x, vt A, .ref pp] ∧ H x = some (.ins C dx []) ∧ Alph A ∧ H pp = some (.tup (as.map V.ref)) ∧ PrsAt H as ps ∧ Proper A ps ∧ ps.length ≤ 1000 ∧
  ∀ H', JAt C H' x A ps → (∀ b o, H b = some o → b ≠ x → H' b = some o) → Q .non H'
theorem ok_init (T : Wd K mg) : FnOk P w K mg base CX0 5 T.fJInit T.dJInit ["self", "alphabet", "pairs"] (spInit T.C) := by
  have GC : FnOk P w K mg base CX0 2 T.fCheckedAlphabet T.dCheckedAlphabet ["alphabet"] spChecked := ok_checked T
  have GT : FnOk P w K mg base CX0 4 T.fJTake T.dJTake ["self", "pair"] (spTake T.C) := ok_take T
  refine okD T.FJInit scJInit (fun vs H Q E h => ?_) (fun cdv A outer s H vs Q E hr h => ?_)
  · obtain ⟨x, pp, dx, A, as, ps, rfl, _⟩ := h
    rfl
  · obtain ⟨x, pp, dx, L, as, ps, rfl, hx, al, hpp, hps, pr, hl, k⟩ := h
    have hu := hu_of hr
    have nd := scJInit.nd
    have hr2 : Room 2 _ := hr.mono (by decide)
    refine ⟨_, pss_cons (ps_fld (pv 0) (pe_call GC hr2 (by rfl) T.gCheckedAlphabet T.FCheckedAlphabet.kp T.bCheckedAlphabet .nil pass0 (pa_cons (pv 1) pa_nil)) rfl)
      (pss_cons (ps_fld (pv 0) (pe_tup pa_nil) rfl)
      (pss_cons (ps_fld (pv 0) (pe_callTy (call_listS rfl) (by rfl) T.no_list (by decide +kernel) (pa_cons (pv 1) pa_nil)) rfl)
      (pss_cons (ps_fld (pv 0) pe_dnewT rfl)
      (pss_cons (ps_fld (pv 0) (pe_dc (own := [("at", 5), ("letter", 4)]) (g := gTup K 2 (gCons (gName 5) (gCons (gName 4) gNil))) (tk := tVar 4) (tv := tVar 5) rfl nd (pi_enumS (by rfl) T.no_enumerate (pa_cons (pv 1) pa_nil)) (blkOk_by (N := NJInit) (sc := defScope sJInit) (by decide +kernel))
          (fun _ _ _ _ _ => pg_tup rfl (pgs_cons (pg_name (i := 5) nd rfl (Or.inl rfl)) (pgs_cons (pg_name (i := 4) nd rfl (Or.inl rfl)) pgs_nil))) (fun _ _ _ _ _ => pts_nil) (fun _ _ _ _ _ => pv 4) (fun _ _ _ _ _ => pv 5)) rfl)
      (pss_cons (ps_fld (pv 0) pe_int rfl)
      (pss_one (ps_for PassesOwn.never rfl (pi_tup (pv 2)) (pg_name (i := 3) nd rfl (Or.inl rfl))
        (pss_one (ps_expr (pe_meth (pv 0) T.cl T.mJTake GT hr T.bJTake .nil pass0 (pa_cons (pe_callTy call_tuple_of (by rfl) T.no_tuple (by decide +kernel) (pa_cons (pv 3) pa_nil)) pa_nil))))))))))), ?_⟩
    have hz : (tx L).length ≤ sizeLine := by rw [tx_len]; have := al.l1; exact small_line (by omega)
    have l1 := al.l1
    -- self.alphabet
    refine ⟨_, rfl, L, rfl, al, _, rfl, x, T.C, dx, [], rfl, hx, T.cl, T.n_alphabet, (by show 0 < 1000; decide), ?_⟩
    rw [put1]
    have f1 : ∀ b o, H b = some o → b ≠ x → (upd H x (.ins T.C dx [("alphabet", vt L)])) b = some o := fun b o e n => by rw [upd_ne n]; exact e
    have x1 : (upd H x (.ins T.C dx [("alphabet", vt L)])) x = some (.ins T.C dx [("alphabet", vt L)]) := upd_same
    generalize upd H x (.ins T.C dx [("alphabet", vt L)]) = H1 at f1 x1
    -- self.pairs
    refine ⟨Nat.zero_le _, fun t1 ht1 => ?_⟩
    have ntx : t1 ≠ x := Ne.symm (ne_of_none x1 ht1)
    refine ⟨_, rfl, x, T.C, dx, _, rfl, same_new ht1 _ _ x1, T.cl, T.n_pairs, (by show 1 < 1000; decide), ?_⟩
    rw [put2]
    have f2 : ∀ b o, H b = some o → b ≠ x → (upd (upd H1 t1 (.tup [])) x (.ins T.C dx [("alphabet", vt L), ("pairs", .ref t1)])) b = some o := fun b o e n => by rw [upd_ne n]; exact same_new ht1 _ _ (f1 b o e n)
    have x2 : (upd (upd H1 t1 (.tup [])) x (.ins T.C dx [("alphabet", vt L), ("pairs", .ref t1)])) x = some (.ins T.C dx [("alphabet", vt L), ("pairs", .ref t1)]) := upd_same
    have p2 : (upd (upd H1 t1 (.tup [])) x (.ins T.C dx [("alphabet", vt L), ("pairs", .ref t1)])) t1 = some (.tup []) := by rw [upd_ne ntx, upd_same]
    generalize upd (upd H1 t1 (.tup [])) x (.ins T.C dx [("alphabet", vt L), ("pairs", .ref t1)]) = H2 at f2 x2 p2
    -- self.texts
    refine ⟨_, rfl, tx L, rfl, hz, fun l hl2 => ?_⟩
    have nlx : l ≠ x := Ne.symm (ne_of_none x2 hl2)
    have s3 : Same H2 (upd H2 l (.lst ((tx L).cps.toList.map fun c => V.str ⟨#[c]⟩))) := same_new hl2
    have el : ((tx L).cps.toList.map fun c => V.str ⟨#[c]⟩) = (txs L []).map vt := by rw [txs_nil_v]; simp [tx]
    rw [el] at s3 ⊢
    refine ⟨_, rfl, x, T.C, dx, _, rfl, s3 _ _ x2, T.cl, T.n_texts, (by show 2 < 1000; decide), ?_⟩
    rw [put3]
    have f3 : ∀ b o, H2 b = some o → b ≠ x → (upd (upd H2 l (.lst ((txs L []).map vt))) x (.ins T.C dx [("alphabet", vt L), ("pairs", .ref t1), ("texts", .ref l)])) b = some o := fun b o e n => by rw [upd_ne n]; exact s3 _ _ e
    have x3 : (upd (upd H2 l (.lst ((txs L []).map vt))) x (.ins T.C dx [("alphabet", vt L), ("pairs", .ref t1), ("texts", .ref l)])) x = some (.ins T.C dx [("alphabet", vt L), ("pairs", .ref t1), ("texts", .ref l)]) := upd_same
    have l3 : (upd (upd H2 l (.lst ((txs L []).map vt))) x (.ins T.C dx [("alphabet", vt L), ("pairs", .ref t1), ("texts", .ref l)])) l = some (.lst ((txs L []).map vt)) := by rw [upd_ne nlx, upd_same]
    generalize upd (upd H2 l (.lst ((txs L []).map vt))) x (.ins T.C dx [("alphabet", vt L), ("pairs", .ref t1), ("texts", .ref l)]) = H3 at f3 x3 l3
    -- self.ranks
    refine fun d hd3 => ?_
    have ndx : d ≠ x := Ne.symm (ne_of_none x3 hd3)
    have s4 : Same H3 (upd H3 d (.dT [])) := same_new hd3
    refine ⟨_, rfl, x, T.C, dx, _, rfl, s4 _ _ x3, T.cl, T.n_ranks, (by show 3 < 1000; decide), ?_⟩
    rw [put4]
    have f4 : ∀ b o, H3 b = some o → b ≠ x → (upd (upd H3 d (.dT [])) x (.ins T.C dx [("alphabet", vt L), ("pairs", .ref t1), ("texts", .ref l), ("ranks", .ref d)])) b = some o := fun b o e n => by rw [upd_ne n]; exact s4 _ _ e
    have x4 : (upd (upd H3 d (.dT [])) x (.ins T.C dx [("alphabet", vt L), ("pairs", .ref t1), ("texts", .ref l), ("ranks", .ref d)])) x = some (.ins T.C dx [("alphabet", vt L), ("pairs", .ref t1), ("texts", .ref l), ("ranks", .ref d)]) := upd_same
    have d4 : (upd (upd H3 d (.dT [])) x (.ins T.C dx [("alphabet", vt L), ("pairs", .ref t1), ("texts", .ref l), ("ranks", .ref d)])) d = some (.dT []) := by rw [upd_ne ndx, upd_same]
    generalize upd (upd H3 d (.dT [])) x (.ins T.C dx [("alphabet", vt L), ("pairs", .ref t1), ("texts", .ref l), ("ranks", .ref d)]) = H4 at f4 x4 d4
    -- self.numbers
    refine ⟨_, rfl, tx L, rfl, fun D hD => dc_it walk_enumS (fun i H' => Same H4 H' ∧ ∃ kvs : List (Key × V), H' D = some (.dK kvs) ∧ kvs.length ≤ i ∧ ∀ (j c : Nat), j < i → L[j]? = some c → valV kvs (.inr (tx [c])) = some (V.int (j : Int)))
      ⟨same_new hD, [], upd_same, Nat.le_refl _, fun j c hj => absurd hj (Nat.not_lt_zero _)⟩ (fun _ _ _ _ => trivial) ?_ ?_⟩
    · rintro i y H5 H6 hi ⟨s5, kvs, hk1, hk2, hk3⟩ ⟨t, c, rfl, ht, rfl, hc⟩
      have hc' : L[i]? = some c := by simpa [tx] using hc
      have hi' : i < L.length := by simpa [tx] using hi
      have ntD : D ≠ t := ne_of_none hk1 ht
      refine ⟨t, _, rfl, SqT.of upd_same, rfl, _, _, rfl, _, _, rfl, rfl, rfl, lcY ?_⟩
      refine ⟨_, rfl, _, rfl, kvs, Sum.inr (tx [c]), rfl, by rw [upd_ne ntD]; exact hk1, small_lt (by omega), Same.mut (s5.trans (same_new ht)) hD, _, upd_same, ?_, fun j c2 hj hc2 => ?_⟩
      · unfold putK
        split <;> simp <;> omega
      · rw [valV_put]
        by_cases e : j = i
        · subst e
          rw [hc'] at hc2
          cases hc2
          rw [if_pos rfl]
        · rw [if_neg, hk3 j c2 (by omega) hc2]
          intro z
          have z2 := tx_inj (Sum.inr.inj z)
          have z3 : c2 = c := by simpa using z2
          rw [z3] at hc2
          exact e (asc_nd al.asc hc2 hc')
    · rintro H5 ⟨s5, kvs, hk1, hk2, hk3⟩
      have esz : (tx L).cps.size = L.length := by simp [tx]
      rw [esz] at hk2 hk3
      have nDx : D ≠ x := Ne.symm (ne_of_none x4 hD)
      refine ⟨_, rfl, x, T.C, dx, _, rfl, s5 _ _ x4, T.cl, T.n_numbers, (by show 4 < 1000; decide), ?_⟩
      rw [put5]
      refine ⟨_, rfl, x, T.C, dx, _, rfl, upd_same, T.cl, T.n_longest, (by show 5 < 1000; decide), ?_⟩
      rw [put6, upd_upd]
      have old : ∀ b o, H4 b = some o → b ≠ x → (upd H5 x (.ins T.C dx (flds L t1 l d D 1))) b = some o := fun b o e n => by rw [upd_ne n]; exact s5 _ _ e
      have x6 : (upd H5 x (.ins T.C dx (flds L t1 l d D 1))) x = some (.ins T.C dx (flds L t1 l d D 1)) := upd_same
      have D6 : (upd H5 x (.ins T.C dx (flds L t1 l d D 1))) D = some (.dK kvs) := by rw [upd_ne nDx]; exact hk1
      rw [show ([("alphabet", vt L), ("pairs", V.ref t1), ("texts", V.ref l), ("ranks", V.ref d), ("numbers", V.ref D), ("longest", V.int 1)] : List (Str × V)) = flds L t1 l d D 1 from rfl]
      generalize upd H5 x (.ins T.C dx (flds L t1 l d D 1)) = H6 at old x6 D6
      have t6 : H6 t1 = some (.tup []) := old _ _ (f4 _ _ (f3 _ _ p2 ntx) ntx) ntx
      have l6 : H6 l = some (.lst ((txs L []).map vt)) := old _ _ (f4 _ _ l3 nlx) nlx
      have d6 : H6 d = some (.dT []) := old _ _ d4 ndx
      have F6 : ∀ b o, H b = some o → b ≠ x → H6 b = some o := fun b o e n => old _ _ (f4 _ _ (f3 _ _ (f2 _ _ e n) n) n) n
      have nl : ∀ b o, H b = some o → b ≠ x → b ≠ l := fun b o e n => ne_of_none (f2 _ _ e n) hl2
      have ndd : ∀ b o, H b = some o → b ≠ x → b ≠ d := fun b o e n => ne_of_none (f3 _ _ (f2 _ _ e n) n) hd3
      have nD : ∀ b o, H b = some o → b ≠ x → b ≠ D := fun b o e n => ne_of_none (f4 _ _ (f3 _ _ (f2 _ _ e n) n) n) hD
      have npx : pp ≠ x := ne_of hpp hx (by intro z; cases z)
      -- for pair in pairs
      refine ⟨_, rfl, pp, rfl, ⟨_, SqT.of (F6 _ _ hpp npx)⟩, for_tup (K := K) (a := pp) (xs := as.map V.ref) (fun i σ H' => ∃ (v3 : Option V) (pa' : Addr) (lg' : Int), σ = [some (.ref x), some (vt L), some (.ref pp), v3, none, none] ∧ H' x = some (.ins T.C dx (flds L pa' l d D lg')) ∧ JIn H' L (ps.take i) pa' l d D ∧ (∀ b o, H b = some o → b ≠ x → H' b = some o))
        ⟨_, t1, 1, rfl, x6, ⟨⟨[], t6, .nil⟩, l6, d6, kvs, D6, by simpa using hk2, fun i c hc => hk3 i c (List.getElem?_eq_some_iff.mp hc).1 hc⟩, F6⟩ (fun i σ H' _ ⟨_, _, _, _, _, _, F⟩ => SqT.of (F _ _ hpp npx)) ?_ ?_⟩
      · rintro i y σ H7 hi ⟨v3, pa', lg', rfl, x7, j7, F7⟩
        obtain ⟨a, ha, rfl⟩ : ∃ a, as[i]? = some a ∧ y = V.ref a := by
          rw [List.getElem?_map] at hi
          obtain ⟨a, h1, h2⟩ := Option.map_eq_some_iff.mp hi
          exact ⟨a, h1, h2.symm⟩
        obtain ⟨q, hq, hqa⟩ := hps.get ha
        have nax : a ≠ x := ne_of hqa hx (by intro z; cases z)
        have hqa7 := F7 _ _ hqa nax
        have o := pr i q hq
        have hlt := (List.getElem?_eq_some_iff.mp hq).1
        refine ⟨_, rfl, x, dx, _, rfl, x7, fl_take, _, rfl, a, _, rfl, .inr ⟨SqT.of hqa7, ?_⟩⟩
        refine ⟨x, a, dx, pa', l, d, D, lg', L, ps.take i, q, rfl, x7, j7, al, pr.take i, hqa7, o, by rw [List.length_take]; omega, fun H8 pa8 lg8 x8 j8 F8 => ?_⟩
        have et : ps.take (i + 1) = ps.take i ++ [q] := by rw [List.take_add_one, hq]; rfl
        refine ⟨_, pa8, lg8, rfl, x8, by rw [et]; exact j8, fun b o e n => F8 b o (F7 b o e n) n (nl b o e n) (ndd b o e n) (nD b o e n)⟩
      · rintro σ H7 ⟨v3, pa', lg', rfl, x7, j7, F7⟩
        have et : ps.take (as.map V.ref).length = ps := List.take_of_length_le (by rw [List.length_map, hps.len]; exact Nat.le_refl _)
        rw [et] at j7
        exact k H7 ⟨al, pr, dx, pa', l, d, D, lg', x7, j7⟩ F7
end
end Rj
end
section
set_option Elab.async false
set_option linter.all false
set_option maxRecDepth 100000
set_option maxHeartbeats 2000000
/-! grown. -/
namespace Rj
open PySem PySem.Spec PyProof.Rows L2
section
variable {P : Program} {w : World} {K : PySem.W.Frag} {mg : Str → Option Value} {base : Heap}
def spGrown (C : Addr) : Sp := fun vs H Q _ => ∃ (j b : Addr) (A : Txt) (ps : List (Int × Int)) (q : Int × Int), vs = [.ref j, .ref b] ∧ JAt C H j A ps ∧ H b = some (pr2 q) ∧ OkP A ps q ∧ A.length + ps.length ≤ 26 ∧
  ∀ (H' : Hp) (x : Addr), Same H H' → JAt C H' x A (ps ++ [q]) → Q (.ref x) H'
theorem ok_grown (T : Wd K mg) : FnOk P w K mg base CX0 7 T.fGrown T.dGrown ["joins", "pair"] (spGrown T.C) := by
  have GI : FnOk P w K mg base CX0 5 T.fJInit T.dJInit ["self", "alphabet", "pairs"] (spInit T.C) := ok_init T
  have GT : FnOk P w K mg base CX0 4 T.fJTake T.dJTake ["self", "pair"] (spTake T.C) := ok_take T
  refine okD T.FGrown scGrown (fun vs H Q E h => ?_) (fun cdv A outer s H vs Q E hr h => ?_)
  · obtain ⟨j, b, A, ps, q, rfl, _⟩ := h
    rfl
  · obtain ⟨j, b, L, ps, q, rfl, hj, hb, o, hl, k⟩ := h
    have hu := hu_of hr
    have nd := scGrown.nd
    have hr4 : Room 4 _ := hr.mono (by decide)
    refine ⟨_, pss_cons (ps_set (i := 2) nd rfl (.inl rfl) (pe_make T.mkC GI hr (by rfl) T.gC T.bJInit .nil pass0 (pa_cons (pe_fld (pv 0) rfl) (pa_cons (pe_tup pa_nil) pa_nil))))
      (pss_cons (ps_fld (pv 2) (pe_fld (pv 0) rfl) rfl)
      (pss_cons (ps_fld (pv 2) (pe_callTy call_list_of (by rfl) T.no_list (by decide +kernel) (pa_cons (pe_fld (pv 0) rfl) pa_nil)) rfl)
      (pss_cons (ps_fld (pv 2) (pe_callTy (call_dictT hr.units) (by rfl) T.no_dict (by decide +kernel) (pa_cons (pe_fld (pv 0) rfl) pa_nil)) rfl)
      (pss_cons (ps_fld (pv 2) (pe_callTy call_dictD (by rfl) T.no_dict (by decide +kernel) (pa_cons (pe_fld (pv 0) rfl) pa_nil)) rfl)
      (pss_cons (ps_fld (pv 2) (pe_fld (pv 0) rfl) rfl)
      (pss_cons (ps_expr (pe_meth (pv 2) T.cl T.mJTake GT hr4 T.bJTake .nil pass0 (pa_cons (pv 1) pa_nil)))
      (pss_one (ps_ret (pv 2))))))))), ?_⟩
    obtain ⟨al, pr, dj, pa, ta, ra, na, lg, hj, ji⟩ := hj
    have ji0 := ji
    obtain ⟨⟨as, hpa, hps⟩, hta, hra, kvs, hna, hkl, hkv⟩ := ji
    -- Joins(joins.alphabet, ())
    refine ⟨_, rfl, j, T.C, dj, _, _, rfl, hj, T.cl, T.n_alphabet, fl_alphabet, Nat.zero_le _, fun t ht => fun x dx hx hdx ndx => ?_⟩
    refine ⟨x, t, dx, L, [], [], rfl, upd_same, al, ?_, .nil, Proper.nil, Nat.zero_le _, fun H1 j1 F1 => ⟨rfl, ?_⟩⟩
    · have ntx : t ≠ x := ne_of_none (o := .tup []) upd_same hx
      have ntd : t ≠ dx := ne_of_none (o := .tup []) upd_same hdx
      rw [upd_ne ntx, upd_ne ntd]
      exact upd_same
    obtain ⟨_, _, dx1, pa1, ta1, ra1, na1, lg1, x1, _⟩ := j1
    have f1 : Same H H1 := fun b o e => by
      have n1 := ne_of_none e ht
      have e2 : (upd H t (.tup [])) b = some o := by rw [upd_ne n1]; exact e
      have n2 := ne_of_none e2 hdx
      have n3 := ne_of_none e2 hx
      exact F1 b o (by rw [upd_ne n3, upd_ne n2]; exact e2) n3
    have nx : ∀ b o, H b = some o → b ≠ x := fun b o e => by
      have n1 := ne_of_none e ht
      have e2 : (upd H t (.tup [])) b = some o := by rw [upd_ne n1]; exact e
      exact ne_of_none e2 hx
    clear F1 hdx hx ht
    -- other.pairs
    refine ⟨_, rfl, j, T.C, dj, _, _, rfl, f1 _ _ hj, T.cl, T.n_pairs, fl_pairs, _, rfl, x, T.C, dx1, _, rfl, x1, T.cl, T.n_pairs, (by show 6 < 1000; decide), ?_⟩
    rw [pf_pairs]
    have f2 : Same H (upd H1 x (.ins T.C dx1 (flds L pa ta1 ra1 na1 lg1))) := fun b o e => by rw [upd_ne (nx b o e)]; exact f1 _ _ e
    have x2 : (upd H1 x (.ins T.C dx1 (flds L pa ta1 ra1 na1 lg1))) x = some (.ins T.C dx1 (flds L pa ta1 ra1 na1 lg1)) := upd_same
    generalize upd H1 x (.ins T.C dx1 (flds L pa ta1 ra1 na1 lg1)) = H2 at f2 x2
    -- other.texts
    refine ⟨_, rfl, j, T.C, dj, _, _, rfl, f2 _ _ hj, T.cl, T.n_texts, fl_texts, ta, _, rfl, .inl (SqL.of (f2 _ _ hta)), fun l hl2 => ?_⟩
    have nlx : l ≠ x := Ne.symm (ne_of_none x2 hl2)
    refine ⟨_, rfl, x, T.C, dx1, _, rfl, same_new hl2 _ _ x2, T.cl, T.n_texts, (by show 6 < 1000; decide), ?_⟩
    rw [pf_texts]
    have f3 : Same H (upd (upd H2 l (.lst ((txs L ps).map vt))) x (.ins T.C dx1 (flds L pa l ra1 na1 lg1))) := fun b o e => by rw [upd_ne (nx b o e)]; exact same_new hl2 _ _ (f2 _ _ e)
    have x3 : (upd (upd H2 l (.lst ((txs L ps).map vt))) x (.ins T.C dx1 (flds L pa l ra1 na1 lg1))) x = some (.ins T.C dx1 (flds L pa l ra1 na1 lg1)) := upd_same
    have l3 : (upd (upd H2 l (.lst ((txs L ps).map vt))) x (.ins T.C dx1 (flds L pa l ra1 na1 lg1))) l = some (.lst ((txs L ps).map vt)) := by rw [upd_ne nlx, upd_same]
    have nl : ∀ b o, H b = some o → b ≠ l := fun b o e => ne_of_none (f2 _ _ e) hl2
    generalize upd (upd H2 l (.lst ((txs L ps).map vt))) x (.ins T.C dx1 (flds L pa l ra1 na1 lg1)) = H3 at f3 x3 l3
    -- other.ranks
    refine ⟨_, rfl, j, T.C, dj, _, _, rfl, f3 _ _ hj, T.cl, T.n_ranks, fl_ranks, ra, _, rfl, f3 _ _ hra, hash_nd pr hl, fun d hd => ?_⟩
    have ndx : d ≠ x := Ne.symm (ne_of_none x3 hd)
    refine ⟨_, rfl, x, T.C, dx1, _, rfl, same_new hd _ _ x3, T.cl, T.n_ranks, (by show 6 < 1000; decide), ?_⟩
    rw [pf_ranks]
    have f4 : Same H (upd (upd H3 d (.dT (rkE ps))) x (.ins T.C dx1 (flds L pa l d na1 lg1))) := fun b o e => by rw [upd_ne (nx b o e)]; exact same_new hd _ _ (f3 _ _ e)
    have x4 : (upd (upd H3 d (.dT (rkE ps))) x (.ins T.C dx1 (flds L pa l d na1 lg1))) x = some (.ins T.C dx1 (flds L pa l d na1 lg1)) := upd_same
    have d4 : (upd (upd H3 d (.dT (rkE ps))) x (.ins T.C dx1 (flds L pa l d na1 lg1))) d = some (.dT (rkE ps)) := by rw [upd_ne ndx, upd_same]
    have l4 : (upd (upd H3 d (.dT (rkE ps))) x (.ins T.C dx1 (flds L pa l d na1 lg1))) l = some (.lst ((txs L ps).map vt)) := by rw [upd_ne nlx]; exact same_new hd _ _ l3
    have ndd : ∀ b o, H b = some o → b ≠ d := fun b o e => ne_of_none (f3 _ _ e) hd
    generalize upd (upd H3 d (.dT (rkE ps))) x (.ins T.C dx1 (flds L pa l d na1 lg1)) = H4 at f4 x4 d4 l4
    -- other.numbers
    refine ⟨_, rfl, j, T.C, dj, _, _, rfl, f4 _ _ hj, T.cl, T.n_numbers, fl_numbers, na, _, rfl, .inl (f4 _ _ hna), fun D hD => ?_⟩
    have nDx : D ≠ x := Ne.symm (ne_of_none x4 hD)
    refine ⟨_, rfl, x, T.C, dx1, _, rfl, same_new hD _ _ x4, T.cl, T.n_numbers, (by show 6 < 1000; decide), ?_⟩
    rw [pf_numbers]
    have f5 : Same H (upd (upd H4 D (.dK kvs)) x (.ins T.C dx1 (flds L pa l d D lg1))) := fun b o e => by rw [upd_ne (nx b o e)]; exact same_new hD _ _ (f4 _ _ e)
    have x5 : (upd (upd H4 D (.dK kvs)) x (.ins T.C dx1 (flds L pa l d D lg1))) x = some (.ins T.C dx1 (flds L pa l d D lg1)) := upd_same
    have D5 : (upd (upd H4 D (.dK kvs)) x (.ins T.C dx1 (flds L pa l d D lg1))) D = some (.dK kvs) := by rw [upd_ne nDx, upd_same]
    have d5 : (upd (upd H4 D (.dK kvs)) x (.ins T.C dx1 (flds L pa l d D lg1))) d = some (.dT (rkE ps)) := by rw [upd_ne ndx]; exact same_new hD _ _ d4
    have l5 : (upd (upd H4 D (.dK kvs)) x (.ins T.C dx1 (flds L pa l d D lg1))) l = some (.lst ((txs L ps).map vt)) := by rw [upd_ne nlx]; exact same_new hD _ _ l4
    have nD : ∀ b o, H b = some o → b ≠ D := fun b o e => ne_of_none (f4 _ _ e) hD
    generalize upd (upd H4 D (.dK kvs)) x (.ins T.C dx1 (flds L pa l d D lg1)) = H5 at f5 x5 D5 d5 l5
    -- other.longest
    refine ⟨_, rfl, j, T.C, dj, _, _, rfl, f5 _ _ hj, T.cl, T.n_longest, fl_longest, _, rfl, x, T.C, dx1, _, rfl, x5, T.cl, T.n_longest, (by show 6 < 1000; decide), ?_⟩
    rw [pf_longest]
    have f6 : Same H (upd H5 x (.ins T.C dx1 (flds L pa l d D lg))) := fun b o e => by rw [upd_ne (nx b o e)]; exact f5 _ _ e
    -- other.take(pair)
    refine ⟨_, rfl, x, dx1, _, rfl, upd_same, fl_take, _, rfl, x, b, dx1, pa, l, d, D, lg, L, ps, q, rfl, upd_same, ⟨⟨as, f6 _ _ hpa, hps.mono fun b xs e => f6 _ _ e⟩, by rw [upd_ne nlx]; exact l5, by rw [upd_ne ndx]; exact d5, kvs, by rw [upd_ne nDx]; exact D5, hkl, hkv⟩, al, pr, f6 _ _ hb, o, by omega, fun H7 pa7 lg7 x7 j7 F7 => ?_⟩
    refine ⟨_, rfl, ?_⟩
    have al' := al.l1
    exact k H7 x (fun b o e => F7 b o (f6 _ _ e) (nx b o e) (nl b o e) (ndd b o e) (nD b o e)) ⟨al, pr.snoc o, dx1, pa7, l, d, D, lg7, x7, j7⟩
end
end Rj
end
section
set_option Elab.async false
set_option linter.all false
set_option maxRecDepth 100000
set_option maxHeartbeats 2000000
/-! letters_of, cut. -/
namespace Rj
open PySem PySem.Spec PyProof.Rows L2
theorem found_tx {A : Txt} {c : Nat} (h : c ∈ A) : (!(Builtin.Str.occurrences (tx A) ⟨#[c]⟩ 0 (tx A).length 1).isEmpty) = true := by
  rw [StrLaws.found_one]
  exact decide_eq_true (by simpa [tx] using h)
section
variable {P : Program} {w : World} {K : PySem.W.Frag} {mg : Str → Option Value} {base : Heap}
def spLettersOf (C : Addr) : Sp := fun vs H Q _ => ∃ (j : Addr) (A s : Txt) (ps : List (Int × Int)), vs = [.ref j, vt s] ∧ JAt C H j A ps ∧ (∀ c ∈ s, c ∈ A) ∧ s.length ≤ 1000 ∧
  ∀ (H' : Hp) (q : Addr), Same H H' → H' q = some (row (lets A s)) → Q (.ref q) H'
theorem ok_lettersOf (T : Wd K mg) : FnOk P w K mg base CX0 2 T.fLettersOf T.dLettersOf ["joins", "text"] (spLettersOf T.C) := by
  have GP : FnOk P w K mg base CX0 1 T.fJPieceOf T.dJPieceOf ["self", "text"] (spPieceOf T.C) := ok_pieceOf T
  refine okD T.FLettersOf scLettersOf (fun vs H Q E h => ?_) (fun cdv A outer s H vs Q E hr h => ?_)
  · obtain ⟨j, A, s, ps, rfl, _⟩ := h
    rfl
  · obtain ⟨j, L, t, ps, rfl, J, tt, ln, k⟩ := h
    have nd := scLettersOf.nd
    obtain ⟨dx, pa, ta, ra, na, lg, hp, hj⟩ := J.ob
    refine ⟨_, pss_cons (ps_set (i := 2) nd rfl (.inl rfl) (pe_lst pa_nil))
      (pss_cons (ps_for PassesOwn.never rfl (pi_enumS (by rfl) T.no_enumerate (pa_cons (pv 1) pa_nil)) (pg_tup rfl (pgs_cons (pg_name (i := 3) nd rfl (Or.inl rfl)) (pgs_cons (pg_name (i := 4) nd rfl (Or.inl rfl)) pgs_nil)))
        (pss_cons (ps_if (pt_cmpR op_notIn_str (pv 4) (pe_fld (pv 0) rfl) (by with_unfolding_all rfl)) (pss_one ps_never) pss_nil)
        (pss_one (ps_expr (pe_bm PySem.F.plainAttrs_list PySem.F.slot_list_append PySem.F.type_list_append mt_append (pv 2) (pa_cons (pe_meth (pv 0) T.cl T.mJPieceOf GP hr T.bJPieceOf .nil pass0 (pa_cons (pv 4) pa_nil)) pa_nil))))))
      (pss_one (ps_ret (pe_callTy call_tuple_of (by rfl) T.no_tuple (by decide +kernel) (pa_cons (pv 2) pa_nil))))), ?_⟩
    refine ⟨Nat.zero_le _, fun l hl => ?_⟩
    refine ⟨_, rfl, tx t, rfl, for_it walk_enumS (fun i σ H' => ∃ v3 v4, σ = [some (.ref j), some (vt t), some (.ref l), v3, v4] ∧ Same H H' ∧ H' l = some (.lst ((lets L (t.take i)).map V.int))) ⟨_, _, rfl, same_new hl, upd_same⟩ (fun _ _ _ _ _ => trivial) ?_ ?_⟩
    · rintro i y σ H1 H2 hi ⟨v3, v4, rfl, s1, hd⟩ ⟨u, c, rfl, hu, rfl, hc⟩
      have hc' : t[i]? = some c := by simpa [tx] using hc
      have hcL : c ∈ L := tt c (List.mem_of_getElem? hc')
      have nlu : l ≠ u := ne_of_none hd hu
      have s2 := s1.add (o := .tup [.int (i : Nat), .str ⟨#[c]⟩]) hu
      refine ⟨u, _, rfl, SqT.of upd_same, rfl, _, _, rfl, _, _, rfl, rfl, _, rfl, _, rfl, j, T.C, dx, _, _, rfl, s2 _ _ hp, T.cl, T.n_alphabet, fl_alphabet, ⟨#[c]⟩, tx L, rfl, rfl, false, ?_, iteF ?_⟩
      · rw [found_tx hcL]
        rfl
      · refine ⟨_, rfl, .inl ⟨rfl, _, SqL.of (by rw [upd_ne nlu]; exact hd)⟩, _, rfl, j, dx, _, rfl, s2 _ _ hp, fl_piece_of, _, rfl, j, L.idxOf c, c, L, ps, rfl, J.same s2, idx_at hcL, l, _, _, rfl, rfl, by rw [upd_ne nlu]; exact hd, small_lt (by rw [List.length_map, lets_len, List.length_take]; omega), ?_⟩
        refine ⟨_, _, rfl, Same.mut s2 hl, ?_⟩
        rw [upd_same, lets_take hc']
        simp
    · rintro σ H1 ⟨v3, v4, rfl, s1, hd⟩
      have et : t.take (tx t).cps.size = t := List.take_of_length_le (by simp [tx])
      rw [et] at hd
      exact ⟨_, rfl, l, _, rfl, .inl ⟨SqL.of hd, fun r hr' => k _ r (s1.add hr') upd_same⟩⟩
/-! ### cut -/
def spCut (C : Addr) : Sp := fun vs H Q _ => ∃ (j : Addr) (A s : Txt) (ps : List (Int × Int)), vs = [.ref j, vt s] ∧ JAt C H j A ps ∧ (∀ c ∈ s, c ∈ A) ∧ s.length ≤ 1000 ∧
  ∀ (H' : Hp) (q : Addr), Same H H' → H' q = some (row (cutM A ps s)) → Q (.ref q) H'
theorem ok_cut (T : Wd K mg) : FnOk P w K mg base CX0 3 T.fCut T.dCut ["joins", "text"] (spCut T.C) := by
  have GL : FnOk P w K mg base CX0 2 T.fLettersOf T.dLettersOf ["joins", "text"] (spLettersOf T.C) := ok_lettersOf T
  have GC : FnOk P w K mg base CX0 2 T.fCutRow T.dCutRow ["ranks", "letters", "row"] spCutRow := ok_cutRow T
  refine okD T.FCut scCut (fun vs H Q E h => ?_) (fun cdv A outer s H vs Q E hr h => ?_)
  · obtain ⟨j, A, s, ps, rfl, _⟩ := h
    rfl
  · obtain ⟨j, L, t, ps, rfl, J, tt, ln, k⟩ := h
    obtain ⟨dx, pa, ta, ra, na, lg, hp, hj⟩ := J.ob
    refine ⟨_, pss_one (ps_ret (pe_call GC hr (by rfl) T.gCutRow T.FCutRow.kp T.bCutRow .nil pass0 (pa_cons (pe_fld (pv 0) rfl) (pa_cons (pe_callB call_len_str (by rfl) T.no_len boot_len (pa_cons (pe_fld (pv 0) rfl) pa_nil)) (pa_cons (pe_call GL hr (by rfl) T.gLettersOf T.FLettersOf.kp T.bLettersOf .nil pass0 (pa_cons (pv 0) (pa_cons (pv 1) pa_nil))) pa_nil))))), ?_⟩
    have l1 := J.al.l1
    refine ⟨_, rfl, j, T.C, dx, _, _, rfl, hp, T.cl, T.n_ranks, fl_ranks, _, rfl, j, T.C, dx, _, _, rfl, hp, T.cl, T.n_alphabet, fl_alphabet, tx L, rfl, by rw [tx_len]; exact small_line (by omega), _, rfl, _, rfl, j, L, t, ps, rfl, J, tt, ln, fun H1 q s1 hq => ?_⟩
    rw [tx_len]
    exact ⟨ra, q, lets L t, ps, _, rfl, s1 _ _ hj.rks, hq, J.pr.nodup, by rw [lets_len]; exact ln, J.pr.bound, fun H2 c s2 hc => k H2 c (s1.trans s2) hc⟩
end
end Rj
end
section
set_option Elab.async false
set_option linter.all false
set_option maxRecDepth 100000
set_option maxHeartbeats 2000000
/-! neighbors. -/
namespace Rj
open PySem PySem.Spec PyProof.Rows L2 LamX
/-! ### totals as a dict -/
def totE (E : Tot) : List (List Key × V) := E.map fun e => (kp e.1, V.int e.2)
theorem kp_dec (p q : Int × Int) : decide (kp p = kp q) = decide (p = q) := by
  by_cases h : p = q
  · subst h; simp
  · rw [decide_eq_false h, decide_eq_false (fun z => h (kp_inj z))]
theorem totE_val (p : Int × Int) : ∀ E : Tot, valV (totE E) (kp p) = (lk E p).map V.int
  | [] => rfl
  | e :: E => by
    have ih := totE_val p E
    show valV ((kp e.1, V.int e.2) :: totE E) (kp p) = _
    by_cases h : e.1 = p
    · rw [valV_pos (by rw [h])]
      simp [lk, h]
    · rw [valV_neg (fun z => h (kp_inj z)), ih]
      simp [lk, h]
theorem totE_put (E : Tot) (p : Int × Int) (v : Int) : putK (totE E) (kp p) (V.int v) = totE (putT E p v) := by
  unfold putK putT
  have e1 : ((totE E).any fun kv => decide (kv.1 = kp p)) = E.any fun e => decide (e.1 = p) := by
    unfold totE
    rw [List.any_map]
    congr 1
    funext e
    exact kp_dec e.1 p
  rw [e1]
  split
  · unfold totE
    rw [List.map_map, List.map_map]
    refine List.map_congr_left fun e _ => ?_
    show (if kp e.1 = kp p then (kp e.1, V.int v) else (kp e.1, V.int e.2)) = _
    by_cases h : e.1 = p
    · simp [h]
    · have h' : ¬ kp e.1 = kp p := fun z => h (kp_inj z)
      simp [h, h']
  · unfold totE
    simp
theorem totE_len (E : Tot) : (totE E).length = E.length := by unfold totE; simp
/-! ### a corpus -/
def CorAt (H : Hp) (as : List Addr) (Cp : Corpus) : Prop := Paired (fun a e => H a = some (.tup [vt e.1, .int e.2])) as Cp
theorem CorAt.len {H : Hp} {as : List Addr} {Cp : Corpus} (h : CorAt H as Cp) : as.length = Cp.length := Paired.length h
theorem CorAt.mono {H H' : Hp} {as : List Addr} {Cp : Corpus} (h : CorAt H as Cp) (e : ∀ b xs, H b = some (.tup xs) → H' b = some (.tup xs)) : CorAt H' as Cp := Paired.mapP h fun _ _ z => e _ _ z
theorem CorAt.get : ∀ {H : Hp} {as : List Addr} {Cp : Corpus} {i : Nat} {a : Addr}, CorAt H as Cp → as[i]? = some a → ∃ e, Cp[i]? = some e ∧ H a = some (.tup [vt e.1, .int e.2])
  | _, _, _, _, _, .nil, h => by simp at h
  | _, _, _, 0, _, .cons r _, h => by simp at h; subst h; exact ⟨_, rfl, r⟩
  | _, _, _, i + 1, a, .cons _ t, h => by
    obtain ⟨p, h1, h2⟩ := CorAt.get (i := i) (a := a) t (by simpa using h)
    exact ⟨p, by simpa using h1, h2⟩
theorem CorAt.snoc : ∀ {H : Hp} {as : List Addr} {Cp : Corpus} {a : Addr} {e : Txt × Int}, CorAt H as Cp → H a = some (.tup [vt e.1, .int e.2]) → CorAt H (as ++ [a]) (Cp ++ [e])
  | _, _, _, _, _, .nil, h => .cons h .nil
  | _, _, _, _, _, .cons r t, h => .cons r (CorAt.snoc t h)
/-- the corpus as a list or a tuple at co -/
def CorO (H : Hp) (co : Addr) (Cp : Corpus) : Prop := ∃ as : List Addr, (H co = some (.lst (as.map V.ref)) ∨ H co = some (.tup (as.map V.ref))) ∧ CorAt H as Cp
theorem CorO.mono {H H' : Hp} {co : Addr} {Cp : Corpus} (h : CorO H co Cp) (e : ∀ b o, H b = some o → (∀ q, o ≠ HO.tbl q) → H' b = some o) : CorO H' co Cp := by
  obtain ⟨as, h1, h2⟩ := h
  exact ⟨as, h1.imp (fun z => e _ _ z fun q z => by cases z) (fun z => e _ _ z fun q z => by cases z), h2.mono fun b xs z => e _ _ z fun q z => by cases z⟩
structure CorOk (A : Txt) (Cp : Corpus) : Prop where
  over : OverA A Cp
  len : ∀ e ∈ Cp, e.1.length ≤ 1000
  few : Cp.length ≤ 90
/-- the loop of a for over J, from σ, H -/
abbrev forLoop (J : It) (g : TG) (tb : TS) (D : Ends) (σ : L2.St) (H : Hp) : Prop :=
  ∃ W : Nat → Nat → L2.St → Hp → Prop, (∃ m, W 0 m σ H) ∧ ∀ i m σ1 H1, W i m σ1 H1 → (J.stop i H1 ∧ D.nx σ1 H1) ∨
    (J.go i H1 ∧ ∃ N : L2.St → Hp → Prop, (∀ σ2 H2, N σ2 H2 → ∃ m2, m2 < m ∧ W (i + 1) m2 σ2 H2) ∧
      ∀ x H2, J.yld i H1 x H2 → g x σ1 H2 fun σ3 H3 => tb { D with nx := N, ct := N, bk := D.nx } σ3 H3)
theorem for_seq {K : PySem.W.Frag} {a : Addr} {xs : List V} {g : TG} {tb : TS} {D : Ends} {σ : L2.St} {H : Hp} (Pv : Nat → L2.St → Hp → Prop) (first : Pv 0 σ H)
    (there : (∀ i σ H, i ≤ xs.length → Pv i σ H → SqL K H a xs) ∨ (∀ i σ H, i ≤ xs.length → Pv i σ H → SqT K H a xs))
    (turn : ∀ i x σ1 H1, xs[i]? = some x → Pv i σ1 H1 → g x σ1 H1 fun σ2 H2 => tb { D with nx := Pv (i + 1), ct := Pv (i + 1), bk := D.nx } σ2 H2)
    (last : ∀ σ1 H1, Pv xs.length σ1 H1 → D.nx σ1 H1) :
    ((∃ xs, SqL K H a xs) ∧ forLoop (Itl K a) g tb D σ H) ∨ ((∃ xs, SqT K H a xs) ∧ forLoop (Itt K a) g tb D σ H) :=
  there.imp (fun q => ⟨⟨xs, q 0 σ H (Nat.zero_le _) first⟩, for_list Pv first q turn last⟩) fun q => ⟨⟨xs, q 0 σ H (Nat.zero_le _) first⟩, for_tup Pv first q turn last⟩
/-! ### the best -/
theorem leE_le2 : leE = le2 := rfl
theorem best_sort (bs : List En) : best (bs.map (·.2.2)) = ((bs.mergeSort fun b c => leE b.2.2 c.2.2).map (·.2.2)).head? := by
  have pm := List.mergeSort_perm bs fun b c => leE b.2.2 c.2.2
  have sd := List.pairwise_mergeSort (le := fun b c : En => leE b.2.2 c.2.2) (fun a b c => leE_trans a.2.2 b.2.2 c.2.2) (fun a b => leE_total a.2.2 b.2.2) bs
  generalize bs.mergeSort (fun b c => leE b.2.2 c.2.2) = cs at pm sd
  cases cs with
  | nil =>
    have : bs = [] := by simpa using pm.symm
    subst this
    rfl
  | cons c cs =>
    show best _ = some c.2.2
    obtain ⟨h1, _⟩ := List.pairwise_cons.mp sd
    refine best_eq (List.mem_map.mpr ⟨c, pm.mem_iff.mp List.mem_cons_self, rfl⟩) fun e he => ?_
    obtain ⟨d, hd, rfl⟩ := List.mem_map.mp he
    rcases List.mem_cons.mp (pm.mem_iff.mpr hd) with z | z
    · subst z
      rw [le2_iff]; omega
    · exact h1 d z
theorem cutM_len (A : Txt) (ps : List (Int × Int)) (s : Txt) : (cutM A ps s).length ≤ s.length := by
  have h := stg_len ps A.length (lets A s)
  rw [lets_len] at h
  exact h
section
variable {P : Program} {w : World} {K : PySem.W.Frag} {mg : Str → Option Value} {base : Heap}
abbrev qN : Str := ("neighbors" : Str) ++ ".<locals>." ++ "<lambda>"
theorem okN (T : Wd K mg) {sp : Sp} {k : Nat} (len : ∀ vs H Q E, sp vs H Q E → vs.length = 2)
    (hbody : ∀ (A : Around) (outer : List Env) (s : Shared) (H : Hp) (vs : List V) (Q : VK) (E : XK), Room k (A.deeper (envOfC "neighbors" (defScope sNeighbors) s.heap.objs.size T.fNeighbors (.ref T.cN))) → sp vs H Q E →
      ∃ t, PSs (cxOf CX0 P w K mg base NNeighbors "neighbors" (defScope sNeighbors) T.fNeighbors (.ref T.cN) A outer s H E).nox (defBody sNeighbors) t ∧ t { nx := fun _ H' => Q .non H', rt := Q } (L2.start NNeighbors vs) H) :
    FnOk P w K mg base CX0 (k + 1) T.fNeighbors T.dNeighbors ["joins", "corpus"] sp := by
  obtain ⟨oc, od, dV, kV, doc, pm, an, ct, osl, e, lk, hcd⟩ := T.exN
  rw [e] at lk ⊢
  exact fn_of lk hcd scNeighbors len (fun A outer s H vs Q E hr hsp => let ⟨t, h1, h2⟩ := hbody A outer s H vs Q E hr hsp; ⟨t, h1.nox, h2⟩)
def spNeighbors (C PN : Addr) : Sp := fun vs H Q _ => ∃ (j co : Addr) (A : Txt) (ps : List (Int × Int)) (Cp : Corpus), vs = [.ref j, .ref co] ∧ JAt C H j A ps ∧ CorO H co Cp ∧ CorOk A Cp ∧ TabS H PN qN ∧
  ∀ (H' : Hp) (r : Addr) (bs : List En), ExtN H H' → TabS H' PN qN → H' r = some (.tup (bs.map fun b => V.ref b.1)) → (∀ b ∈ bs, EnAt H' b) → best (totM A ps Cp) = (bs.map (·.2.2)).head? → Q (.ref r) H'
theorem ok_neighbors (T : Wd K mg) {PN : Addr} (TB : TabB base mg T.cN PN) : FnOk P w K mg base CX0 4 T.fNeighbors T.dNeighbors ["joins", "corpus"] (spNeighbors T.C PN) := by
  have GC : FnOk P w K mg base CX0 3 T.fCut T.dCut ["joins", "text"] (spCut T.C) := ok_cut T
  refine okN T (fun vs H Q E h => ?_) (fun A outer s H vs Q E hr h => ?_)
  · obtain ⟨j, co, A, ps, Cp, rfl, _⟩ := h
    rfl
  · obtain ⟨j, co, L, ps, Cp, rfl, J, hco, ok, hT, k⟩ := h
    have hu := hu_of hr
    have nd := scNeighbors.nd
    refine ⟨_, pss_cons (ps_set (i := 2) nd rfl (.inr rfl) pe_dnewT)
      (pss_cons (ps_for PassesOwn.never rfl (pi_seq (pv 1)) (pg_tup rfl (pgs_cons (pg_name (i := 3) nd rfl (Or.inl rfl)) (pgs_cons (pg_name (i := 4) nd rfl (Or.inl rfl)) pgs_nil)))
        (pss_cons (ps_set (i := 5) nd rfl (.inl rfl) (pe_call GC hr (by rfl) T.gCut T.FCut.kp T.bCut .nil pass0 (pa_cons (pv 0) (pa_cons (pv 3) pa_nil))))
        (pss_one (ps_for PassesOwn.never rfl (pi_range1 rfl T.no_range (pa_cons (pe_op op_sub (pe_callB call_len_seq (by rfl) T.no_len boot_len (pa_cons (pv 5) pa_nil)) pe_int) pa_nil)) (pg_name (i := 6) nd rfl (Or.inl rfl))
          (pss_cons (ps_set (i := 7) nd rfl (.inl rfl) (pe_tup (pa_cons (pe_ix ix_tup (pv 5) (pv 6) (fun _ _ => rfl)) (pa_cons (pe_ix ix_tup (pv 5) (pe_op op_add (pv 6) pe_int) (fun _ _ => rfl)) pa_nil))))
          (pss_one (ps_dput hu (pv 2) (pv 7) (pe_op op_add (pe_dget2 hu (pv 2) (pv 7) pe_int ⟨rfl, rfl, rfl, rfl⟩) (pv 4)) rfl)))))))
      (pss_one (ps_ret (pe_callTy call_tuple_of (by rfl) T.no_tuple (by decide +kernel) (pa_cons (pe_sortL (k := 0) (by rfl) T.no_sorted (pa_cons (pe_lock
        (pe_lc (own := [("pair", 7)]) (g := gName 7) (te := tTup (tCons (tVar 7) (tCons (tDGet (tVar 2) (tVar 7)) tNil))) rfl nd (pi_keys (pv 2)) (blkOk_by (N := NNeighbors) (sc := defScope sNeighbors) (by decide +kernel)) (fun _ _ _ _ _ => pg_name (i := 7) nd rfl (Or.inl rfl)) (fun _ _ _ _ _ => pts_nil)
          (fun _ _ _ _ _ => pe_tup (pa_cons (pv 7) (pa_cons (pe_dget (by exact hu) (pv 2) (pv 7) (fun _ _ => rfl)) pa_nil))))) pa_nil) TB rfl hr) pa_nil))))), ?_⟩
    -- totals = {}
    refine fun d hd => ?_
    obtain ⟨as, hco, hca⟩ := hco
    have len0 : (as.map V.ref).length = Cp.length := by rw [List.length_map, hca.len]
    refine ⟨_, rfl, co, rfl, for_seq (xs := as.map V.ref) (fun i σ H' => ∃ v3 v4 v5 v6 v7, σ = [some (.ref j), some (.ref co), some (.ref d), v3, v4, v5, v6, v7] ∧ Same H H' ∧ H' d = some (.dT (totE (addC (cutM L ps) [] (Cp.take i)))) ∧ (addC (cutM L ps) [] (Cp.take i)).length ≤ 1000 * i)
      ⟨_, _, _, _, _, rfl, same_new hd, upd_same, Nat.zero_le _⟩ (hco.imp (fun z i σ H' _ ⟨_, _, _, _, _, _, s1, _⟩ => SqL.of (s1 _ _ z)) (fun z i σ H' _ ⟨_, _, _, _, _, _, s1, _⟩ => SqT.of (s1 _ _ z))) ?_ ?_⟩
    · rintro i y σ H1 hi ⟨v3, v4, v5, v6, v7, rfl, s1, hd1, hl1⟩
      have hi90 : i < 90 := by
        have h1 := (List.getElem?_eq_some_iff.mp hi).1
        have := ok.few
        omega
      obtain ⟨a, ha, rfl⟩ : ∃ a, as[i]? = some a ∧ y = V.ref a := by
        rw [List.getElem?_map] at hi
        obtain ⟨a, h1, h2⟩ := Option.map_eq_some_iff.mp hi
        exact ⟨a, h1, h2.symm⟩
      obtain ⟨⟨t, n⟩, hq, hqa⟩ := hca.get ha
      have hm := List.mem_of_getElem? hq
      have tl := ok.len _ hm
      have to := ok.over _ hm
      have et : Cp.take (i + 1) = Cp.take i ++ [(t, n)] := by rw [List.take_add_one, hq]; rfl
      have eA : addC (cutM L ps) [] (Cp.take (i + 1)) = addR (addC (cutM L ps) [] (Cp.take i)) (cutM L ps t) n := by
        rw [et]
        unfold addC
        rw [List.foldl_append]
        rfl
      rw [eA]
      generalize addC (cutM L ps) [] (Cp.take i) = E0 at hd1 hl1
      -- text, count = ..; row = cut(joins, text)
      refine ⟨a, _, rfl, SqT.of (s1 _ _ hqa), rfl, _, _, rfl, _, _, rfl, rfl, ?_⟩
      refine ⟨_, rfl, _, rfl, j, L, t, ps, rfl, J.same s1, to, tl, fun H2 r s2 hr2 => ?_⟩
      have hd2 := s2 _ _ hd1
      have nrd : r ≠ d := ne_of hr2 hd2 (by intro z; cases z)
      have Rl : (cutM L ps t).length ≤ 1000 := Nat.le_trans (cutM_len L ps t) tl
      generalize cutM L ps t = R at hr2 Rl
      have hlenR : (R.map V.int).length = R.length := List.length_map _
      have al : (adj R).length = R.length - 1 := adj_len R
      have s12 := s1.trans s2
      refine ⟨_, rfl, r, R.map V.int, rfl, .inr (SqT.of hr2), _, _, rfl, rfl, ((R.map V.int).length : Int) - 1, rfl, (by rw [hlenR]; omega), (by rw [hlenR]; omega),
        for_range (lo := 0) (n := (((R.map V.int).length : Int) - 1).toNat) (fun k σ H' => ∃ v6 v7, σ = [some (.ref j), some (.ref co), some (.ref d), some (vt t), some (.int n), some (.ref r), v6, v7] ∧ Same H H' ∧ H' r = some (row R) ∧ H' d = some (.dT (totE (((adj R).take k).foldl (addP n) E0))))
          ⟨_, _, rfl, s12, hr2, hd2⟩ ?_ ?_⟩
      · rintro k σ H3 hk ⟨v6, v7, rfl, s3, hr3, hd3⟩
        rw [hlenR] at hk
        have i1 : k + 1 < R.length := by omega
        have i0 : k < R.length := by omega
        have ga : (adj R)[k]? = some (R[k], R[k + 1]) := adj_at R k _ _ (List.getElem?_eq_getElem i0) (List.getElem?_eq_getElem i1)
        have eF : ((adj R).take (k + 1)).foldl (addP n) E0 = addP n (((adj R).take k).foldl (addP n) E0) (R[k], R[k + 1]) := by
          rw [List.take_add_one, ga]
          simp
        have lF : (((adj R).take k).foldl (addP n) E0).length ≤ 100000 := by
          have h1 := len_foldP n ((adj R).take k) E0
          have h2 : ((adj R).take k).length ≤ k := by rw [List.length_take]; omega
          omega
        rw [eF]
        generalize ((adj R).take k).foldl (addP n) E0 = F at hd3 lF
        -- pair
        refine ⟨_, rfl, _, rfl, r, R.map V.int, ((k : Nat) : Int), _, rfl, ?_, SqT.of hr3, at_row (List.getElem?_eq_getElem i0), _, rfl, _, rfl, _, _, rfl, rfl, r, R.map V.int, ((k + 1 : Nat) : Int), _, rfl, ?_, SqT.of hr3, at_row (List.getElem?_eq_getElem i1), (by show 2 ≤ sizeLine; decide), fun u hu2 => ?_⟩
        · show V.int (0 + (k : Int)) = _
          congr 1
          omega
        · show V.int (0 + (k : Int) + 1) = _
          congr 1
          omega
        have s4 : Same H3 (upd H3 u (.tup [.int R[k], .int R[k + 1]])) := same_new hu2
        have gt : upd H3 u (.tup [.int R[k], .int R[k + 1]]) u = some (.tup ((kp (R[k], R[k + 1])).map kV)) := upd_same
        have hd4 := s4 _ _ hd3
        have hr4 := s4 _ _ hr3
        generalize upd H3 u (.tup [.int R[k], .int R[k + 1]]) = H4 at s4 gt hd4 hr4
        generalize (R[k], R[k + 1]) = q at gt
        refine ⟨_, rfl, d, rfl, .inr ⟨_, .inl hd4⟩, _, rfl, _, DGet.t hd4 gt, ?_⟩
        have eg : (valV (totE F) (kp q)).getD (V.int 0) = V.int (lk0 F q) := by
          rw [totE_val]
          unfold lk0
          cases lk F q <;> rfl
        rw [eg]
        refine ⟨_, rfl, _, _, rfl, rfl, _, rfl, _, rfl, d, _, rfl, DPut.t hd4 gt (by rw [totE_len]; exact small_lt lF), ?_⟩
        rw [totE_put]
        exact ⟨_, _, rfl, Same.mut (s3.trans s4) hd, by rw [upd_ne nrd]; exact hr4, upd_same⟩
      · rintro σ H3 ⟨v6, v7, rfl, s3, hr3, hd3⟩
        have e : (adj R).take (((R.map V.int).length : Int) - 1).toNat = adj R := List.take_of_length_le (by rw [al, hlenR]; omega)
        rw [e] at hd3
        refine ⟨_, _, _, _, _, rfl, s3, hd3, ?_⟩
        have h1 := len_foldP n (adj R) E0
        show ((adj R).foldl (addP n) E0).length ≤ _
        omega
    · rintro σ H1 ⟨v3, v4, v5, v6, v7, rfl, s1, hd1, hl1⟩
      rw [len0] at hd1 hl1
      have e : Cp.take Cp.length = Cp := List.take_of_length_le (Nat.le_refl _)
      rw [e] at hd1 hl1
      have few := ok.few
      have ndE : ((addC (cutM L ps) [] Cp).map (·.1)).Nodup := nd_addC (cutM L ps) Cp [] List.nodup_nil
      have eT : totM L ps Cp = addC (cutM L ps) [] Cp := rfl
      rw [eT] at k
      generalize addC (cutM L ps) [] Cp = F at hd1 hl1 ndE k
      refine ⟨d, _, hd1, True.intro, fun od => ?_⟩
      refine ⟨_, rfl, d, od, rfl, .inr ⟨_, upd_same, fun D hD => lc_it walk_keysT (fun i H' => (∀ b o, b ≠ d → H1 b = some o → H' b = some o) ∧ H' d = some (.frz od (.dT (totE F))) ∧ ∃ bs : List En, bs.length = i ∧ H' D = some (.lst (bs.map fun b => V.ref b.1)) ∧ (∀ b ∈ bs, EnAt H' b) ∧ bs.map (·.2.2) = F.take i)
        ⟨fun b o n e => ?_, ?_, [], rfl, upd_same, fun b hb => absurd hb List.not_mem_nil, rfl⟩ (fun i H' _ p => p.2.1) ?_ ?_⟩⟩
      · have e2 : (upd H1 d (.frz od (.dT (totE F)))) b = some o := by rw [upd_ne n]; exact e
        rw [upd_ne (ne_of_none e2 hD)]
        exact e2
      · have ndD : d ≠ D := ne_of_none (H := upd H1 d (.frz od (.dT (totE F)))) upd_same hD
        rw [upd_ne ndD]
        exact upd_same
      · rintro i x H2 H2' hi ⟨f2, hf2, bs, hbl, hbD, hbE, hbF⟩ ⟨rfl, kk, v, q, hk, rfl, hq⟩
        obtain ⟨⟨p, n⟩, hp, hpe⟩ : ∃ e, F[i]? = some e ∧ (kp e.1, V.int e.2) = (kk, v) := by
          unfold totE at hk
          rw [List.getElem?_map] at hk
          obtain ⟨e, h1, h2⟩ := Option.map_eq_some_iff.mp hk
          exact ⟨e, h1, h2⟩
        cases hpe
        have ev : valV (totE F) (kp p) = some (V.int n) := by
          rw [totE_val, lk_mem ndE (List.mem_of_getElem? hp)]
          rfl
        have nDd : D ≠ d := ne_of hbD hf2 (by intro z; cases z)
        refine ⟨rfl, lcY ?_⟩
        refine ⟨_, rfl, _, rfl, _, rfl, d, _, rfl, .inr ⟨_, kp p, q, .inr ⟨od, hf2⟩, rfl, hq, ev.symm⟩, (by show 2 ≤ sizeLine; decide), fun u hu2 => ?_⟩
        have nDu : D ≠ u := ne_of_none hbD hu2
        have ndu : d ≠ u := ne_of_none hf2 hu2
        have old : ∀ b o, b ≠ D → H2' b = some o → (upd (upd H2' u (.tup [.ref q, .int n])) D (.lst (bs.map (fun b => V.ref b.1) ++ [.ref u]))) b = some o := fun b o nb e => by
          rw [upd_ne nb, upd_ne (ne_of_none e hu2)]
          exact e
        have tupD : ∀ b xs, H2' b = some (.tup xs) → b ≠ D := fun b xs e => ne_of e hbD (by intro z; cases z)
        refine ⟨_, by rw [upd_ne nDu]; exact hbD, small_lt ?_, fun b o n e => ?_, ?_, bs ++ [(u, q, (p, n))], by simp [hbl], ?_, fun b hb => ?_, ?_⟩
        · rw [List.length_map, hbl]
          have : i < (totE F).length := hi
          rw [totE_len] at this
          omega
        · have e2 := f2 b o n e
          refine old b o ?_ e2
          exact fun z => by
            have e3 : (upd H1 d (.frz od (.dT (totE F)))) b = some o := by rw [upd_ne n]; exact e
            exact ne_of_none e3 hD z
        · exact old _ _ (Ne.symm nDd) hf2
        · rw [upd_same]
          simp
        · rcases List.mem_append.mp hb with hb | hb
          · obtain ⟨g1, g2⟩ := hbE b hb
            exact ⟨old _ _ (tupD _ _ g1) g1, old _ _ (tupD _ _ g2) g2⟩
          · rw [List.mem_singleton] at hb
            subst hb
            refine ⟨?_, ?_⟩
            · show upd _ D _ u = _
              rw [upd_ne (Ne.symm nDu)]
              exact upd_same
            · exact old _ _ (tupD _ _ hq) hq
        · rw [List.map_append, hbF, List.take_add_one, hp]
          rfl
      · rintro H2 ⟨f2, hf2, bs, hbl, hbD, hbE, hbF⟩
        have eF : F.take (totE F).length = F := List.take_of_length_le (by rw [totE_len]; exact Nat.le_refl _)
        rw [eF] at hbF
        have nDd : D ≠ d := ne_of hbD hf2 (by intro z; cases z)
        have tupd : ∀ b xs, H2 b = some (.tup xs) → b ≠ d := fun b xs e => ne_of e hf2 (by intro z; cases z)
        have sH : Same H (upd H2 d (.dT (totE F))) := fun b o e => by
          by_cases c : b = d
          · subst c
            rw [hd] at e
            cases e
          · rw [upd_ne c]
            exact f2 b o c (s1 _ _ e)
        refine ⟨hf2, D, bs, rfl, by rw [upd_ne nDd]; exact hbD, fun b hb => ⟨by rw [upd_ne (tupd _ _ (hbE b hb).1)]; exact (hbE b hb).1, by rw [upd_ne (tupd _ _ (hbE b hb).2)]; exact (hbE b hb).2⟩, hT.ext sH, fun H3 p e3 T3 hp => ?_⟩
        have hE3 : ∀ b ∈ bs, EnAt H3 b := fun b hb => ⟨e3 _ _ (by rw [upd_ne (tupd _ _ (hbE b hb).1)]; exact (hbE b hb).1) (fun q z => by cases z), e3 _ _ (by rw [upd_ne (tupd _ _ (hbE b hb).2)]; exact (hbE b hb).2) (fun q z => by cases z)⟩
        refine ⟨p, _, rfl, .inl ⟨SqL.of upd_same, fun r hr' => ?_⟩⟩
        have s4 : Same H3 (upd (upd H3 p (.lst ((bs.mergeSort fun b c => leE b.2.2 c.2.2).map fun b => V.ref b.1))) r (.tup ((bs.mergeSort fun b c => leE b.2.2 c.2.2).map fun b => V.ref b.1))) := (same_new hp).trans (same_new hr')
        refine k _ r (bs.mergeSort fun b c => leE b.2.2 c.2.2) ((ExtN.of sH).trans (e3.trans (ExtN.of s4))) (T3.ext s4) upd_same (fun b hb => ?_) ?_
        · have hb' := (List.mergeSort_perm bs fun b c => leE b.2.2 c.2.2).mem_iff.mp hb
          exact ⟨s4 _ _ (hE3 b hb').1, s4 _ _ (hE3 b hb').2⟩
        · rw [← best_sort bs, hbF]
end
end Rj
end
section
set_option Elab.async false
set_option linter.all false
set_option maxRecDepth 100000
set_option maxHeartbeats 2000000
/-! next_pair. -/
namespace Rj
open PySem PySem.Spec PyProof.Rows L2 LamX
/-- the pieces of a pair that stands in a cut are pieces -/
theorem tot_rng {A : Txt} {ps : List (Int × Int)} {Cp : Corpus} (hC : OverA A Cp) {f : (Int × Int) × Int} (h : f ∈ totM A ps Cp) : (0 ≤ f.1.1 ∧ f.1.1 < A.length + ps.length) ∧ 0 ≤ f.1.2 ∧ f.1.2 < A.length + ps.length := by
  have hk : f.1 ∈ (totM A ps Cp).map (·.1) := List.mem_map_of_mem (f := (·.1)) h
  unfold totM at hk
  rw [keys_addC] at hk
  rcases hk with hk | ⟨e, he, hk⟩
  · cases hk
  · have rng : ∀ a ∈ stg (A.length : Int) ps (lets A e.1), 0 ≤ a ∧ a < A.length + ps.length :=
      stg_all (P := fun a => 0 ≤ a ∧ a < A.length + ps.length) ps _ _ (fun _ _ => by omega) fun a ha => by
        have := lets_all (hC e he) a ha
        omega
    obtain ⟨m1, m2⟩ := adj_mem _ f.1.1 f.1.2 hk
    exact ⟨rng _ m1, rng _ m2⟩
/-- None, or the address of a pair -/
def NxtV (H : Hp) (r : Option (Int × Int)) (v : V) : Prop := match r with
  | none => v = .non
  | some p => ∃ b, v = .ref b ∧ H b = some (pr2 p)
section
variable {P : Program} {w : World} {K : PySem.W.Frag} {mg : Str → Option Value} {base : Heap}
def spNextPair (C PN : Addr) : Sp := fun vs H Q _ => ∃ (j co : Addr) (A : Txt) (ps : List (Int × Int)) (Cp : Corpus), vs = [.ref j, .ref co] ∧ JAt C H j A ps ∧ CorO H co Cp ∧ CorOk A Cp ∧ TabS H PN qN ∧
  ∀ (H' : Hp) (v : V), ExtN H H' → TabS H' PN qN → NxtV H' (nxt A ps Cp) v → Q v H'
theorem ok_nextPair (T : Wd K mg) {PN : Addr} (TB : TabB base mg T.cN PN) : FnOk P w K mg base CX0 5 T.fNextPair T.dNextPair ["joins", "corpus"] (spNextPair T.C PN) := by
  have GN : FnOk P w K mg base CX0 4 T.fNeighbors T.dNeighbors ["joins", "corpus"] (spNeighbors T.C PN) := ok_neighbors T TB
  have GT : FnOk P w K mg base CX0 4 T.fJTextOf T.dJTextOf ["self", "piece"] (spTextOf T.C) := ok_textOf T
  refine okD T.FNextPair scNextPair (fun vs H Q E h => ?_) (fun cdv A outer s H vs Q E hr h => ?_)
  · obtain ⟨j, co, A, ps, Cp, rfl, _⟩ := h
    rfl
  · obtain ⟨j, co, L, ps, Cp, rfl, J, hco, ok, hT, k⟩ := h
    have nd := scNextPair.nd
    obtain ⟨tLP, iLP⟩ := T.iLP
    refine ⟨_, pss_cons (ps_set (i := 2) nd rfl (.inl rfl) (pe_call GN hr (by rfl) T.gNeighbors T.FNeighbors.kp T.bNeighbors .nil pass0 (pa_cons (pv 0) (pa_cons (pv 1) pa_nil))))
      (pss_cons (ps_if (PW.pt (pw_or (pt_cmpR op_eq (pe_callB call_len_seq (by rfl) T.no_len boot_len (pa_cons (pv 2) pa_nil)) pe_int (nomark _)) (pw_or1 (pt_cmpR op_lt (pe_ix ix_tup (pe_ix ix_tup (pv 2) pe_int (fun _ _ => rfl)) pe_int (fun _ _ => rfl)) pe_int (nomark _))))) (pss_one (ps_ret pe_non)) pss_nil)
      (pss_cons (ps_asg (pe_ix ix_tup (pe_ix ix_tup (pv 2) pe_int (fun _ _ => rfl)) pe_int (fun _ _ => rfl)) (pg_tup rfl (pgs_cons (pg_name (i := 3) nd rfl (Or.inl rfl)) (pgs_cons (pg_name (i := 4) nd rfl (Or.inl rfl)) pgs_nil))))
      (pss_cons (ps_if (pt_cmpR op_gt (pe_op op_add (pe_callB call_len_str (by rfl) T.no_len boot_len (pa_cons (pe_meth (pv 0) T.cl T.mJTextOf GT hr T.bJTextOf .nil pass0 (pa_cons (pv 3) pa_nil)) pa_nil)) (pe_callB call_len_str (by rfl) T.no_len boot_len (pa_cons (pe_meth (pv 0) T.cl T.mJTextOf GT hr T.bJTextOf .nil pass0 (pa_cons (pv 4) pa_nil)) pa_nil))) (pe_glob (v := .int 40) (by rfl) iLP ⟨_, rfl⟩) (nomark _)) (pss_one (ps_ret pe_non)) pss_nil)
      (pss_one (ps_ret (pe_tup (pa_cons (pv 3) (pa_cons (pv 4) pa_nil)))))))), ?_⟩
    refine ⟨_, rfl, _, rfl, j, co, L, ps, Cp, rfl, J, hco, ok, hT, fun H1 r bs e1 T1 hr1 hE hb => ?_⟩
    have len0 : (bs.map fun b => V.ref b.1).length = bs.length := List.length_map _
    cases bs with
    | nil =>
      refine ⟨_, rfl, r, _, rfl, .inr (SqT.of hr1), rfl, true, rfl, iteT (iteT (k H1 _ e1 T1 ?_))⟩
      have hb' : best (totM L ps Cp) = none := hb
      unfold nxt
      rw [hb']
      exact rfl
    | cons b bs =>
      obtain ⟨hb1, hb2⟩ := hE b List.mem_cons_self
      obtain ⟨b1, b2, ⟨p, n⟩⟩ := b
      have hb' : best (totM L ps Cp) = some (p, n) := hb
      obtain ⟨hmem, _⟩ := best_mem hb'
      obtain ⟨⟨r1, r2⟩, r3, r4⟩ := tot_rng ok.over hmem
      have J1 : JAt T.C H1 j L ps := J.mono fun b o n e => e1 b o e n
      refine ⟨_, rfl, r, _, rfl, .inr (SqT.of hr1), rfl, false, ?_, iteF ⟨_, rfl, r, _, 0, .ref b1, rfl, rfl, SqT.of hr1, atI_nat (j := 0) rfl, b1, _, 1, .int n, rfl, rfl, SqT.of hb1, rfl, _, _, rfl, rfl, decide (n < 2), rfl, ?_⟩⟩
      · refine blF (p := V.int _ = V.int 0) ?_
        intro z
        have := V.int.inj z
        simp at this
        omega
      by_cases c : n < 2
      · rw [decide_eq_true c]
        refine iteT (k H1 _ e1 T1 ?_)
        unfold nxt
        rw [hb']
        simp only [if_pos c]
        exact rfl
      · rw [decide_eq_false c]
        refine iteF ?_
        -- left, right = found[0][0]
        refine ⟨_, rfl, r, _, 0, .ref b1, rfl, rfl, SqT.of hr1, atI_nat (j := 0) rfl, b1, _, 0, .ref b2, rfl, rfl, SqT.of hb1, rfl, b2, _, rfl, SqT.of hb2, rfl, _, _, rfl, _, _, rfl, rfl, ?_⟩
        have q1 := (J.pr.texts p.1 r1 (by omega)).2.2
        have q2 := (J.pr.texts p.2 r3 (by omega)).2.2
        obtain ⟨dx, pa, ta, ra, na, lg, hp, hj⟩ := J1.ob
        refine ⟨_, rfl, j, dx, _, rfl, hp, fl_text_of, _, rfl, j, p.1, L, ps, rfl, J1, r1, r2, tx (tat (txs L ps) p.1), rfl, by rw [tx_len]; exact small_line (by omega), ?_⟩
        refine ⟨_, rfl, j, dx, _, rfl, hp, fl_text_of, _, rfl, j, p.2, L, ps, rfl, J1, r3, r4, tx (tat (txs L ps) p.2), rfl, by rw [tx_len]; exact small_line (by omega), ?_⟩
        rw [tx_len, tx_len]
        refine ⟨_, _, rfl, rfl, _, _, rfl, rfl, decide ((tat (txs L ps) p.1).length + (tat (txs L ps) p.2).length > 40), ?_, ?_⟩
        · exact congrArg V.bl (decide_eq_decide.mpr (by omega))
        by_cases c2 : (tat (txs L ps) p.1).length + (tat (txs L ps) p.2).length > 40
        · rw [decide_eq_true c2]
          refine iteT (k H1 _ e1 T1 ?_)
          unfold nxt
          rw [hb']
          simp only [if_neg c, if_pos c2]
          exact rfl
        · rw [decide_eq_false c2]
          refine iteF ⟨_, rfl, _, rfl, (by show 2 ≤ sizeLine; decide), fun u hu => ?_⟩
          have s2 : Same H1 (upd H1 u (.tup [.int p.1, .int p.2])) := same_new hu
          refine k _ _ (e1.trans (ExtN.of s2)) (T1.ext s2) ?_
          unfold nxt
          rw [hb']
          simp only [if_neg c, if_neg c2]
          exact ⟨u, rfl, upd_same⟩
end
end Rj
end
section
set_option Elab.async false
set_option linter.all false
set_option maxRecDepth 100000
set_option maxHeartbeats 2000000
/-! learn. -/
namespace Rj
open PySem PySem.Spec PyProof.Rows L2 LamX
theorem lrn_s (A : Txt) (C : Corpus) (k : Nat) (ps : List (Int × Int)) : lrn A C (k + 1) ps = match nxt A ps C with | none => ps | some p => lrn A C k (ps ++ [p]) := rfl
section
variable {P : Program} {w : World} {K : PySem.W.Frag} {mg : Str → Option Value} {base : Heap}
def spLearn (C PN : Addr) : Sp := fun vs H Q _ => ∃ (co : Addr) (A : Txt) (m : Int) (Cp : Corpus), vs = [vt A, .ref co, .int m] ∧ Alph A ∧ CorO H co Cp ∧ CorOk A Cp ∧ TabS H PN qN ∧ 0 ≤ m ∧ m ≤ 1000 ∧ A.length + (lrn A Cp m.toNat []).length ≤ 27 ∧
  ∀ (H' : Hp) (x : Addr), ExtN H H' → TabS H' PN qN → JAt C H' x A (lrn A Cp m.toNat []) → Q (.ref x) H'
theorem ok_learn (T : Wd K mg) {PN : Addr} (TB : TabB base mg T.cN PN) : FnOk P w K mg base CX0 8 T.fLearn T.dLearn ["alphabet", "corpus", "many"] (spLearn T.C PN) := by
  have GI : FnOk P w K mg base CX0 5 T.fJInit T.dJInit ["self", "alphabet", "pairs"] (spInit T.C) := ok_init T
  have GL : FnOk P w K mg base CX0 2 T.fLettersOf T.dLettersOf ["joins", "text"] (spLettersOf T.C) := ok_lettersOf T
  have GN : FnOk P w K mg base CX0 5 T.fNextPair T.dNextPair ["joins", "corpus"] (spNextPair T.C PN) := ok_nextPair T TB
  have GG : FnOk P w K mg base CX0 7 T.fGrown T.dGrown ["joins", "pair"] (spGrown T.C) := ok_grown T
  refine okD T.FLearn scLearn (fun vs H Q E h => ?_) (fun cdv A outer s H vs Q E hr h => ?_)
  · obtain ⟨co, A, m, Cp, rfl, _⟩ := h
    rfl
  · obtain ⟨co, L, m, Cp, rfl, al, hco, ok, hT, m0, m1, hb, k⟩ := h
    have nd := scLearn.nd
    generalize hZ : lrn L Cp m.toNat [] = Z at hb k
    have hr6 : Room 6 _ := hr.mono (by decide)
    have hr5 : Room 5 _ := hr.mono (by decide)
    have hr2 : Room 2 _ := hr.mono (by decide)
    refine ⟨_, pss_cons (ps_set (i := 3) nd rfl (.inl rfl) (pe_make T.mkC GI hr6 (by rfl) T.gC T.bJInit .nil pass0 (pa_cons (pv 0) (pa_cons (pe_tup pa_nil) pa_nil))))
      (pss_cons (ps_for PassesOwn.never rfl (pi_seq (pv 1)) (pg_tup rfl (pgs_cons (pg_name (i := 4) nd rfl (Or.inl rfl)) (pgs_cons (pg_name (i := 5) nd rfl (Or.inl rfl)) pgs_nil)))
        (pss_one (ps_expr (pe_call GL hr2 (by rfl) T.gLettersOf T.FLettersOf.kp T.bLettersOf .nil pass0 (pa_cons (pv 3) (pa_cons (pv 4) pa_nil))))))
      (pss_cons (ps_for PassesOwn.never rfl (pi_range1 rfl T.no_range (pa_cons (pv 2) pa_nil)) (pg_name (i := 6) nd rfl (Or.inl rfl))
        (pss_cons (ps_set (i := 7) nd rfl (.inl rfl) (pe_call GN hr5 (by rfl) T.gNextPair T.FNextPair.kp T.bNextPair .nil pass0 (pa_cons (pv 3) (pa_cons (pv 1) pa_nil))))
        (pss_cons (ps_if (pt_cmpR op_isN (pv 7) pe_non (nomark _)) (pss_one (ps_ret (pv 3))) pss_nil)
        (pss_one (ps_set (i := 3) nd rfl (.inl rfl) (pe_call GG hr (by rfl) T.gGrown T.FGrown.kp T.bGrown .nil pass0 (pa_cons (pv 3) (pa_cons (pv 7) pa_nil))))))))
      (pss_one (ps_ret (pv 3))))), ?_⟩
    -- Joins(alphabet, ())
    refine ⟨_, rfl, Nat.zero_le _, fun t ht => fun x dx hx hdx ndx => ?_⟩
    refine ⟨x, t, dx, L, [], [], rfl, upd_same, al, ?_, .nil, Proper.nil, Nat.zero_le _, fun H1 j1 F1 => ⟨rfl, ?_⟩⟩
    · have ntx : t ≠ x := ne_of_none (o := .tup []) upd_same hx
      have ntd : t ≠ dx := ne_of_none (o := .tup []) upd_same hdx
      rw [upd_ne ntx, upd_ne ntd]
      exact upd_same
    have f1 : Same H H1 := fun b o e => by
      have n1 := ne_of_none e ht
      have e2 : (upd H t (.tup [])) b = some o := by rw [upd_ne n1]; exact e
      have n2 := ne_of_none e2 hdx
      have n3 := ne_of_none e2 hx
      exact F1 b o (by rw [upd_ne n3, upd_ne n2]; exact e2) n3
    clear F1 hdx hx ht
    -- for text, count in corpus
    have hco0 := hco
    obtain ⟨as, hco, hca⟩ := hco
    refine ⟨_, rfl, co, rfl, for_seq (xs := as.map V.ref) (fun i σ H' => ∃ v4 v5, σ = [some (vt L), some (.ref co), some (.int m), some (.ref x), v4, v5, none, none] ∧ Same H1 H')
      ⟨_, _, rfl, Same.refl _⟩ (hco.imp (fun z i σ H' _ ⟨_, _, _, s1⟩ => SqL.of (s1 _ _ (f1 _ _ z))) (fun z i σ H' _ ⟨_, _, _, s1⟩ => SqT.of (s1 _ _ (f1 _ _ z)))) ?_ ?_⟩
    · rintro i y σ H2 hi ⟨v4, v5, rfl, s2⟩
      obtain ⟨a, ha, rfl⟩ : ∃ a, as[i]? = some a ∧ y = V.ref a := by
        rw [List.getElem?_map] at hi
        obtain ⟨a, h1, h2⟩ := Option.map_eq_some_iff.mp hi
        exact ⟨a, h1, h2.symm⟩
      obtain ⟨⟨t, n⟩, hq, hqa⟩ := hca.get ha
      have hm := List.mem_of_getElem? hq
      refine ⟨a, _, rfl, SqT.of (s2 _ _ (f1 _ _ hqa)), rfl, _, _, rfl, _, _, rfl, rfl, ?_⟩
      exact ⟨_, rfl, _, rfl, x, L, t, [], rfl, j1.same s2, ok.over _ hm, ok.len _ hm, fun H3 q s3 _ => ⟨_, _, rfl, s2.trans s3⟩⟩
    · rintro σ H2 ⟨v4, v5, rfl, s2⟩
      have s02 := f1.trans s2
      -- for _ in range(many)
      refine ⟨_, rfl, m, rfl, by omega, by omega, for_range (lo := 0) (n := m.toNat) (fun i σ H' => ∃ (v6 v7 : Option V) (z : Addr) (ps : List (Int × Int)), σ = [some (vt L), some (.ref co), some (.int m), some (.ref z), v4, v5, v6, v7] ∧ ExtN H H' ∧ TabS H' PN qN ∧ JAt T.C H' z L ps ∧ lrn L Cp (m.toNat - i) ps = Z)
        ⟨_, _, x, [], rfl, ExtN.of s02, hT.ext s02, j1.same s2, hZ⟩ ?_ ?_⟩
      · rintro i σ H3 hi ⟨v6, v7, z, ps, rfl, e3, T3, j3, hl⟩
        have hi' : m.toNat - i = (m.toNat - (i + 1)) + 1 := by omega
        refine ⟨_, rfl, _, rfl, z, co, L, ps, Cp, rfl, j3, hco0.mono e3, ok, T3, fun H4 v e4 T4 hv => ?_⟩
        have j4 : JAt T.C H4 z L ps := j3.mono fun b o n e => e4 b o e n
        have hl2 := hl
        rw [hi', lrn_s] at hl2
        cases hn : nxt L ps Cp with
        | none =>
          rw [hn] at hv hl2
          simp only at hl2
          have hv' : v = .non := hv
          subst hv'
          refine ⟨_, rfl, rfl, true, rfl, iteT ⟨_, rfl, k H4 z (e3.trans e4) T4 ?_⟩⟩
          rw [← hl2]
          exact j4
        | some p =>
          rw [hn] at hv hl2
          simp only at hl2
          obtain ⟨b, rfl, hbp⟩ := hv
          have op := nxt_ok j4.pr ok.over hn
          obtain ⟨qs, q1, q2⟩ := lrn_pre (A := L) (C := Cp) (m.toNat - (i + 1)) (ps ++ [p])
          have q3 : ps.length + 1 ≤ Z.length := by
            rw [← hl2, q1]
            simp
          refine ⟨_, rfl, rfl, false, rfl, iteF ⟨_, rfl, _, rfl, z, b, L, ps, p, rfl, j4, hbp, op, by omega, fun H5 x5 s5 j5 => ?_⟩⟩
          refine ⟨_, _, x5, ps ++ [p], rfl, (e3.trans e4).trans (ExtN.of s5), T4.ext s5, j5, ?_⟩
          exact hl2
      · rintro σ H3 ⟨v6, v7, z, ps, rfl, e3, T3, j3, hl⟩
        have e0 : m.toNat - m.toNat = 0 := by omega
        rw [e0] at hl
        refine ⟨_, rfl, k H3 z e3 T3 ?_⟩
        rw [← hl]
        exact j3
end
end Rj
end
section
set_option Elab.async false
set_option linter.all false
set_option maxRecDepth 100000
set_option maxHeartbeats 2000000
/-! corpus_of, __eq__. -/
namespace Rj
open PySem PySem.Spec PyProof.Rows L2 LamX
theorem CorAt.rev : ∀ {H : Hp} {as : List Addr} {Cp : Corpus}, CorAt H as Cp → CorAt H as.reverse Cp.reverse
  | _, _, _, .nil => .nil
  | _, _, _, .cons r t => by
    rw [List.reverse_cons, List.reverse_cons]
    exact CorAt.snoc (CorAt.rev t) r
def corR (A : Txt) (ps : List (Int × Int)) (i : Nat) : Corpus := (List.range i).map fun (t : Nat) => (tat (txs A ps) ((A.length : Int) + ((ps.length - 1 - t : Nat) : Int)), (2 : Int) * (40 : Int) ^ t)
theorem corR_rev (A : Txt) (ps : List (Int × Int)) : (corR A ps ps.length).reverse = corpusFrom A ps := by
  unfold corR corpusFrom
  apply List.ext_getElem
  · simp
  · intro i h1 h2
    have hi : i < ps.length := by simpa using h2
    rw [List.getElem_reverse]
    simp only [List.getElem_map, List.getElem_range, List.length_map, List.length_range]
    have e1 : ps.length - 1 - (ps.length - 1 - i) = i := by omega
    rw [e1]
section
variable {P : Program} {w : World} {K : PySem.W.Frag} {mg : Str → Option Value} {base : Heap}
def spCorpusOf (C : Addr) : Sp := fun vs H Q _ => ∃ (j : Addr) (A : Txt) (ps : List (Int × Int)), vs = [.ref j] ∧ JAt C H j A ps ∧ ps.length ≤ 1000 ∧
  ∀ (H' : Hp) (q : Addr) (as : List Addr), Same H H' → H' q = some (.tup (as.map V.ref)) → CorAt H' as (corpusFrom A ps) → Q (.ref q) H'
theorem ok_corpusOf (T : Wd K mg) : FnOk P w K mg base CX0 5 T.fCorpusOf T.dCorpusOf ["joins"] (spCorpusOf T.C) := by
  have GT : FnOk P w K mg base CX0 4 T.fJTextOf T.dJTextOf ["self", "piece"] (spTextOf T.C) := ok_textOf T
  have GN : FnOk P w K mg base CX0 1 T.fJLen T.dJLen ["self"] (spLen T.C) := ok_len T
  refine okD T.FCorpusOf scCorpusOf (fun vs H Q E h => ?_) (fun cdv A outer s H vs Q E hr h => ?_)
  · obtain ⟨j, A, ps, rfl, _⟩ := h
    rfl
  · obtain ⟨j, L, ps, rfl, J, hl, k⟩ := h
    have nd := scCorpusOf.nd
    have hr2 : Room 2 _ := hr.mono (by decide)
    obtain ⟨tLP, iLP⟩ := T.iLP
    refine ⟨_, pss_cons (ps_set (i := 1) nd rfl (.inl rfl) pe_int) (pss_cons (ps_set (i := 2) nd rfl (.inl rfl) (pe_lst pa_nil))
      (pss_cons (ps_for PassesOwn.never rfl (pi_revR (by rfl) T.no_reversed (prg_1 (by rfl) T.no_range (pe_callB (call_lenO GN hr2 T.mJLen T.bJLen) (by rfl) T.no_len boot_len (pa_cons (pv 0) pa_nil)))) (pg_name (i := 3) nd rfl (Or.inl rfl))
        (pss_cons (ps_expr (pe_bm PySem.F.plainAttrs_list PySem.F.slot_list_append PySem.F.type_list_append mt_append (pv 2) (pa_cons (pe_tup (pa_cons (pe_meth (pv 0) T.cl T.mJTextOf GT hr T.bJTextOf .nil pass0 (pa_cons (pe_op op_add (pe_callB call_len_str (by rfl) T.no_len boot_len (pa_cons (pe_fld (pv 0) rfl) pa_nil)) (pv 3)) pa_nil)) (pa_cons (pv 1) pa_nil))) pa_nil)))
        (pss_one (ps_set (i := 1) nd rfl (.inl rfl) (pe_op op_mul (pv 1) (pe_glob (v := .int 40) (by rfl) iLP ⟨_, rfl⟩))))))
      (pss_one (ps_ret (RT.pe_tupRev rfl (by rfl) T.no_tuple (by rfl) T.no_reversed (pv 2)))))), ?_⟩
    refine ⟨Nat.zero_le _, fun l hl0 => ?_⟩
    have s0 : Same H (upd H l (.lst [])) := same_new hl0
    have J0 := J.same s0
    obtain ⟨dx, pa, ta, ra, na, lg, hp, hj⟩ := J0.ob
    refine ⟨_, rfl, j, dx, _, rfl, hp, j, L, ps, rfl, J0, _, rfl, by omega, by omega, _, rfl, by decide, by decide, by omega, by omega, ?_⟩
    have l1 := J.al.l1
    obtain ⟨dx, pa, ta, ra, na, lg, hp, hj⟩ := J.ob
    have en : ((ps.length : Int) - 0).toNat = ps.length := by omega
    rw [en]
    refine for_it walk_rangeC (fun i σ H' => ∃ v3, σ = [some (.ref j), some (.int (2 * 40 ^ i)), some (.ref l), v3] ∧ Same H H' ∧ ∃ as, H' l = some (.lst (as.map V.ref)) ∧ CorAt H' as (corR L ps i))
      ⟨_, rfl, s0, [], upd_same, .nil⟩ (fun _ _ _ _ _ => trivial) ?_ ?_
    · rintro i y σ H1 H2 hi ⟨v3, rfl, s1, as, hl1, hca⟩ ⟨rfl, rfl⟩
      have J1 := J.same s1
      have hl2 : as.length = i := by rw [hca.len]; unfold corR; simp
      refine ⟨_, rfl, .inl ⟨rfl, _, SqL.of hl1⟩, _, rfl, j, dx, _, rfl, s1 _ _ hp, fl_text_of, _, rfl, j, T.C, dx, _, _, rfl, s1 _ _ hp, T.cl, T.n_alphabet, fl_alphabet, tx L, rfl, by rw [tx_len]; exact small_line (by omega), _, rfl, _, _, rfl, rfl, j, (L.length : Int) + ((ps.length - 1 - i : Nat) : Int), L, ps, ?_, J1, by omega, by omega, ?_⟩
      · rw [tx_len]
        have e : (L.length : Int) + (0 + (ps.length : Int) - 1 + ((i : Nat) : Int) * (-1)) = (L.length : Int) + ((ps.length - 1 - i : Nat) : Int) := by omega
        exact congrArg (fun z : Int => [V.ref j, V.int z]) e
      refine ⟨_, rfl, (by show 2 ≤ sizeLine; decide), fun u hu => ?_⟩
      have nlu : l ≠ u := ne_of_none hl1 hu
      refine ⟨l, _, _, rfl, rfl, by rw [upd_ne nlu]; exact hl1, small_lt (by rw [List.length_map, hl2]; omega), ?_⟩
      refine ⟨_, rfl, _, _, rfl, rfl, .inr ⟨by decide, by decide⟩, ?_⟩
      have tupl : ∀ b xs, H2 b = some (.tup xs) → b ≠ l := fun b xs e => ne_of e hl1 (by intro z; cases z)
      have ep : (2 : Int) * 40 ^ (i + 1) = 2 * 40 ^ i * 40 := by rw [Int.pow_succ, Int.mul_assoc]
      refine ⟨some (V.int (0 + (ps.length : Int) - 1 + ((i : Nat) : Int) * (-1))), by rw [ep]; rfl, Same.mut (s1.trans (same_new hu)) hl0, as ++ [u], by rw [upd_same]; simp, ?_⟩
      have ec : corR L ps (i + 1) = corR L ps i ++ [(tat (txs L ps) ((L.length : Int) + ((ps.length - 1 - i : Nat) : Int)), (2 : Int) * (40 : Int) ^ i)] := by
        unfold corR
        rw [List.range_succ, List.map_append]
        rfl
      rw [ec]
      refine CorAt.snoc (hca.mono fun b xs e => by rw [upd_ne (tupl b xs e)]; exact same_new hu _ _ e) ?_
      rw [upd_ne (Ne.symm nlu)]
      exact upd_same
    · rintro σ H1 ⟨v3, rfl, s1, as, hl1, hca⟩
      refine ⟨_, rfl, l, _, rfl, SqL.of hl1, fun q hq => ?_⟩
      have s2 := same_new (o := .tup (as.map V.ref).reverse) hq
      refine k _ q as.reverse (s1.trans s2) (by rw [upd_same, List.map_reverse]) ?_
      rw [← corR_rev]
      exact (hca.mono fun b xs e => s2 _ _ e).rev
/-! ### == -/
theorem JAt.pairs {C : Addr} {H : Hp} {p : Addr} {A : Txt} {ps : List (Int × Int)} (h : JAt C H p A ps) : ∃ dx pa ta ra na L as, H p = some (.ins C dx (flds A pa ta ra na L)) ∧ H pa = some (.tup (as.map V.ref)) ∧ PrsAt H as ps := by
  obtain ⟨dx, pa, ta, ra, na, lg, hp, hj⟩ := h.ob
  obtain ⟨as, h1, h2⟩ := hj.prs
  exact ⟨dx, pa, ta, ra, na, lg, as, hp, h1, h2⟩
def DP (ps : List (Int × Int)) : List PyData := ps.map fun p => .tuple [.int p.1, .int p.2]
theorem dp_prs {H : Hp} : ∀ {as : List Addr} {ps : List (Int × Int)}, PrsAt H as ps → DpAll K H (as.map V.ref) (DP ps)
  | _, _, .nil => .nil
  | _, _, .cons r t => .cons (dp_pr r) (dp_prs t)
theorem eqv_DP : ∀ ps qs : List (Int × Int), PyData.eqvAll (DP ps) (DP qs) = decide (ps = qs)
  | [], [] => rfl
  | [], _ :: _ => rfl
  | _ :: _, [] => rfl
  | p :: ps, q :: qs => by
    have h := eqv_pr p q
    have ih := eqv_DP ps qs
    unfold DP at ih ⊢
    simp only [List.map_cons, PyData.eqvAll, List.cons.injEq]
    rw [ih, h]
    by_cases c : p = q <;> simp [c]
theorem lay_DP : ∀ ps : List (Int × Int), PyData.canLayAll0 (DP ps) = true
  | [] => rfl
  | p :: ps => by
    have ih := lay_DP ps
    unfold DP at ih ⊢
    simp [PyData.canLayAll0, PyData.canLay0, ih]
theorem dep_DP : ∀ ps : List (Int × Int), PyData.depthAll (DP ps) ≤ 1
  | [] => Nat.zero_le _
  | p :: ps => by
    have ih := dep_DP ps
    unfold DP at ih ⊢
    simp only [List.map_cons, PyData.depthAll, PyData.depth]
    omega
theorem sh_DP (ps : List (Int × Int)) : SeqAt.shaped (.tuple (DP ps)) = true := by
  have h1 := lay_DP ps
  have h2 := dep_DP ps
  unfold SeqAt.shaped
  rw [Bool.and_eq_true]
  exact ⟨h1, decide_eq_true (by show PyData.depthAll (DP ps) + 1 ≤ 64; omega)⟩
theorem eqv_DPt (ps qs : List (Int × Int)) : PyData.eqv (.tuple (DP ps)) (.tuple (DP qs)) = decide (ps = qs) := by
  simp only [PyData.eqv, eqv_DP]
def REq (C : Addr) (a b : Addr) (H : Hp) : Prop := ∃ A ps, JAt C H a A ps ∧ JAt C H b A ps
theorem ok_eq (T : Wd K mg) : FnOk P w K mg base CX0 1 T.fJEq T.dJEq ["self", "other"] (spEq (REq T.C)) := by
  refine okD T.FJEq scJEq (fun vs H Q E h => ?_) (fun cdv A outer s H vs Q E hr h => ?_)
  · obtain ⟨a, b, rfl, _⟩ := h
    rfl
  · obtain ⟨a, b, rfl, ⟨L, ps, Ja, Jb⟩, k⟩ := h
    obtain ⟨dx, pa, ta, ra, na, lg, as, ha, hpa, hps⟩ := Ja.pairs
    obtain ⟨dx2, pa2, ta2, ra2, na2, lg2, as2, ha2, hpa2, hps2⟩ := Jb.pairs
    refine ⟨_, pss_one (ps_ret (pe_and (pe_callB (C8.call_isC T.ic) (by rfl) T.no_isinstance (by decide +kernel) (pa_cons (pv 1) (pa_cons (pe_glob (v := .ref T.C) (by rfl) T.gC rfl) pa_nil)))
      (pe_and (pe_cmpR op_eq (pe_fld (pv 0) rfl) (pe_fld (pv 1) rfl) (nomark _))
      (pe_one (pe_cmpR (op_eqD hr.units) (pe_fld (pv 0) rfl) (pe_fld (pv 1) rfl) (nomark _)))))), ?_⟩
    refine ⟨_, rfl, b, dx2, _, rfl, ha2, true, rfl, iteT ?_⟩
    refine ⟨_, rfl, a, T.C, dx, _, _, rfl, ha, T.cl, T.n_alphabet, fl_alphabet, _, rfl, b, T.C, dx2, _, _, rfl, ha2, T.cl, T.n_alphabet, fl_alphabet, rfl, true, blT rfl, iteT ?_⟩
    refine ⟨_, rfl, a, T.C, dx, _, _, rfl, ha, T.cl, T.n_pairs, fl_pairs, _, rfl, b, T.C, dx2, _, _, rfl, ha2, T.cl, T.n_pairs, fl_pairs, .tuple (DP ps), .tuple (DP ps), .tup (SqT.of hpa) (dp_prs hps), .tup (SqT.of hpa2) (dp_prs hps2), sh_DP ps, sh_DP ps, ?_⟩
    rw [eqv_DPt, decide_eq_true rfl]
    exact k H Ext.rfl'
theorem rc_eq (T : Wd K mg) {X : Cx} (hX : X.K = K) (hp : X.prog = P) (hw : X.w = w) (hm : X.mg = mg) (hb : X.base = base) : RcG X 1 (DIns T.C (REq T.C)) := by
  subst hX; subst hp; subst hw; subst hm; subst hb
  exact rcG_ins (E := E0) (ok_eq T) T.mJEq.at_ T.mJEq.fn T.bJEq pass0
end
end Rj
end
section
set_option Elab.async false
set_option linter.all false
set_option maxRecDepth 100000
set_option maxHeartbeats 2000000
/-! _law_numbers. -/
namespace Rj
open PySem PySem.Spec PyProof.Rows L2 LamX
section
variable {P : Program} {w : World} {K : PySem.W.Frag} {mg : Str → Option Value} {base : Heap}
/-- small numbers -/
def Smalls (ns : List Int) : Prop := ∀ n ∈ ns, 0 ≤ n ∧ n < 1000
def spNumbers : Sp := fun vs H Q _ => ∃ c a m : Int, vs = [.int c, .int a, .int m] ∧ 0 ≤ m ∧ m ≤ 1000 ∧
  ∀ (H' : Hp) (q : Addr) (ns : List Int), Same H H' → H' q = some (.lst (ns.map V.int)) → ns.length = m.toNat → Smalls ns → Q (.ref q) H'
theorem ok_numbers (T : Wd K mg) : FnOk P w K mg base CX0 1 T.fLNumbers T.dLNumbers ["_law_cell", "_law_at", "_law_many"] spNumbers := by
  refine okD T.FLNumbers scLNumbers (fun vs H Q E h => ?_) (fun cdv A outer s H vs Q E hr h => ?_)
  · obtain ⟨c, a, m, rfl, _⟩ := h
    rfl
  · obtain ⟨c, a, m, rfl, m0, m1, k⟩ := h
    have nd := scLNumbers.nd
    refine ⟨_, (pss_cons (ps_set (i := 3) nd rfl (.inl rfl) (pe_cmpR op_ge (pe_callB call_abs (by rfl) T.no_abs (by decide +kernel) (pa_cons (pe_callTy call_int1 (by rfl) T.no_int (by decide +kernel) (pa_cons (pv 0) pa_nil)) pa_nil)) (pe_op op_pow pe_int pe_int) (nomark _))) (pss_cons (ps_set (i := 4) nd rfl (.inl rfl) (pe_op op_add (pe_op op_mul pe_int (pe_callB call_abs (by rfl) T.no_abs (by decide +kernel) (pa_cons (pe_callTy call_int1 (by rfl) T.no_int (by decide +kernel) (pa_cons (pv 0) pa_nil)) pa_nil))) (pe_callTy call_int1 (by rfl) T.no_int (by decide +kernel) (pa_cons (pe_cmpR op_lt (pv 0) pe_int (nomark _)) pa_nil)))) (pss_cons (ps_set (i := 5) nd rfl (.inl rfl) (pe_lst pa_nil)) (pss_cons (ps_for PassesOwn.never rfl (pi_range1 rfl T.no_range (pa_cons (pv 2) pa_nil)) (pg_name (i := 6) nd rfl (Or.inl rfl)) (pss_one (ps_if (pt_val (pv 3)) (pss_cons (ps_expr (pe_bm PySem.F.plainAttrs_list PySem.F.slot_list_append PySem.F.type_list_append mt_append (pv 5) (pa_cons (pe_op op_mod (pe_callTy call_int1 (by rfl) T.no_int (by decide +kernel) (pa_cons (pv 4) pa_nil)) pe_int) pa_nil))) (pss_one (ps_set (i := 4) nd rfl (.inl rfl) (pe_op op_fdiv (pv 4) pe_int)))) (pss_cons (ps_set (i := 7) nd rfl (.inl rfl) (pe_op op_mod (pe_callTy call_int1 (by rfl) T.no_int (by decide +kernel) (pa_cons (pe_op op_add (pe_op op_add (pe_op op_add (pe_op op_mul (pv 4) pe_int) (pe_op op_mul (pv 1) pe_int)) (pe_op op_mul (pv 6) pe_int)) pe_int) pa_nil)) pe_int)) (pss_cons (ps_set (i := 7) nd rfl (.inl rfl) (pe_op op_mod (pe_callTy call_int1 (by rfl) T.no_int (by decide +kernel) (pa_cons (pe_op op_add (pe_op op_add (pe_op op_mul (pv 7) (pv 7)) (pe_op op_mul (pv 6) pe_int)) pe_int) pa_nil)) pe_int)) (pss_cons (ps_set (i := 7) nd rfl (.inl rfl) (pe_op op_mod (pe_callTy call_int1 (by rfl) T.no_int (by decide +kernel) (pa_cons (pe_op op_add (pe_op op_add (pe_op op_mul (pv 7) (pv 7)) (pe_op op_mul (pv 1) pe_int)) pe_int) pa_nil)) pe_int)) (pss_one (ps_expr (pe_bm PySem.F.plainAttrs_list PySem.F.slot_list_append PySem.F.type_list_append mt_append (pv 5) (pa_cons (pe_op op_mod (pe_callTy call_int1 (by rfl) T.no_int (by decide +kernel) (pa_cons (pe_op op_fdiv (pv 7) pe_int) pa_nil)) pe_int) pa_nil)))))))))) (pss_one (ps_ret (pv 5))))))), ?_⟩
    -- great
    refine ⟨_, rfl, .inl ⟨_, rfl, _, rfl, _, _, rfl, rfl, ⟨by decide, by decide, by decide⟩, _, _, rfl, rfl, ?_⟩⟩
    -- rest
    refine ⟨_, rfl, .inl ⟨_, rfl, _, rfl, _, _, rfl, rfl, .inl ⟨by decide, by decide⟩, _, rfl, _, _, rfl, rfl, .inr ⟨_, rfl, _, _, rfl, rfl, ?_⟩⟩⟩
    refine ⟨Nat.zero_le _, fun l hl => ?_⟩
    refine ⟨_, rfl, m, rfl, by omega, by omega, for_range (lo := 0) (n := m.toNat) (fun i σ H' => ∃ (g : Bool) (r : Int) (v6 v7 : Option V) (ns : List Int), σ = [some (.int c), some (.int a), some (.int m), some (.bl g), some (.int r), some (.ref l), v6, v7] ∧ Same H H' ∧ H' l = some (.lst (ns.map V.int)) ∧ ns.length = i ∧ Smalls ns)
      ⟨_, _, _, _, [], rfl, same_new hl, upd_same, rfl, fun n hn => absurd hn List.not_mem_nil⟩ ?_ ?_⟩
    · rintro i σ H1 hi ⟨g, r, v6, v7, ns, rfl, s1, h1, hn, sm⟩
      have small : ∀ x : Int, Smalls (ns ++ [x % 1000]) := fun x n hn => by
        rcases List.mem_append.mp hn with z | z
        · exact sm n z
        · rw [List.mem_singleton.mp z]
          omega
      have szl : (ns.map V.int).length < sizeLine := small_lt (by rw [List.length_map]; omega)
      refine ⟨_, rfl, g, rfl, ?_⟩
      cases g with
      | true =>
        refine iteT ⟨_, rfl, .inl ⟨rfl, _, SqL.of h1⟩, _, rfl, .inl ⟨_, rfl, _, _, rfl, rfl, (by show (0 : Int) < _; decide), l, _, _, rfl, rfl, h1, szl, ?_⟩⟩
        refine ⟨_, rfl, _, _, rfl, rfl, ⟨by decide, by decide⟩, _, _, _, _, ns ++ [r % 1000], rfl, Same.mut s1 hl, by rw [upd_same]; simp, by simp [hn], small r⟩
      | false =>
        refine iteF ⟨_, rfl, _, _, rfl, rfl, .inr ⟨by decide, by decide⟩, _, rfl, _, _, rfl, rfl, .inr ⟨by decide, by decide⟩, _, _, rfl, rfl, _, rfl, _, _, rfl, rfl, .inr ⟨by decide, by decide⟩, _, _, rfl, rfl, _, _, rfl, rfl, .inl ⟨_, rfl, _, _, rfl, rfl, (by show (0 : Int) < _; decide), ?_⟩⟩
        refine ⟨_, rfl, _, rfl, _, _, rfl, rfl, .inl ⟨by omega, by omega⟩, _, rfl, _, _, rfl, rfl, .inr ⟨by decide, by decide⟩, _, _, rfl, rfl, _, _, rfl, rfl, .inl ⟨_, rfl, _, _, rfl, rfl, (by show (0 : Int) < _; decide), ?_⟩⟩
        refine ⟨_, rfl, _, rfl, _, _, rfl, rfl, .inl ⟨by omega, by omega⟩, _, rfl, _, _, rfl, rfl, .inr ⟨by decide, by decide⟩, _, _, rfl, rfl, _, _, rfl, rfl, .inl ⟨_, rfl, _, _, rfl, rfl, (by show (0 : Int) < _; decide), ?_⟩⟩
        refine ⟨_, rfl, .inl ⟨rfl, _, SqL.of h1⟩, _, rfl, _, _, rfl, rfl, ⟨by decide, by decide⟩, .inl ⟨_, rfl, _, _, rfl, rfl, (by show (0 : Int) < _; decide), l, _, _, rfl, rfl, h1, szl, ?_⟩⟩
        refine ⟨_, _, _, _, ns ++ [?_], rfl, Same.mut s1 hl, ?_, ?_, ?_⟩
        rotate_left
        · rw [upd_same, List.map_append]
          rfl
        · rw [List.length_append, hn]
          rfl
        · exact small _
    · rintro σ H1 ⟨g, r, v6, v7, ns, rfl, s1, h1, hn, sm⟩
      exact ⟨_, rfl, k H1 l ns s1 h1 hn sm⟩
end
end Rj
end
section
set_option Elab.async false
set_option linter.all false
set_option maxRecDepth 100000
set_option maxHeartbeats 2000000
/-! _law_same. -/
namespace Rj
open PySem PySem.Spec PyProof.Rows L2 LamX
/-- the same data, of depth below n -/
def Eqd : Nat → Hp → V → V → Prop
  | 0, _, _, _ => False
  | n + 1, H, x, y => (∃ s, x = .str s ∧ y = .str s) ∨ (∃ i, x = .int i ∧ y = .int i) ∨
    ∃ (a b : Addr) (xs ys : List V), x = .ref a ∧ y = .ref b ∧ H a = some (.tup xs) ∧ H b = some (.tup ys) ∧ xs.length = ys.length ∧ xs.length ≤ 1000 ∧ ∀ (i : Nat) (u v : V), xs[i]? = some u → ys[i]? = some v → Eqd n H u v
section
variable {P : Program} {w : World} {K : PySem.W.Frag} {mg : Str → Option Value} {base : Heap}
def spSame (n : Nat) : Sp := fun vs H Q _ => ∃ x y, vs = [x, y] ∧ Eqd n H x y ∧ Q (.bl true) H
theorem ok_same (T : Wd K mg) : ∀ n : Nat, FnOk P w K mg base CX0 n T.fLSame T.dLSame ["_law_actual", "_law_expected"] (spSame n)
  | 0 => ⟨fun vs H Q E h => by obtain ⟨x, y, _, h, _⟩ := h; exact h.elim, fun A outer s H args us vs Q E hr e0 hb r hsp => by obtain ⟨x, y, _, h, _⟩ := hsp; exact h.elim⟩
  | n + 1 => by
    have G : FnOk P w K mg base CX0 n T.fLSame T.dLSame ["_law_actual", "_law_expected"] (spSame n) := ok_same T n
    refine okD T.FLSame scLSame (fun vs H Q E h => ?_) (fun cdv A outer s H vs Q E hr h => ?_)
    · obtain ⟨x, y, rfl, _⟩ := h
      rfl
    · obtain ⟨x, y, rfl, h, k⟩ := h
      have nd := scLSame.nd
      refine ⟨_, pss_cons (ps_if (pt_cmpR op_isN (pv 1) pe_non (nomark _)) (pss_one ps_never) pss_nil)
        (pss_cons (ps_if (pt_val (pe_callB call_isi (by rfl) T.no_isinstance (by decide +kernel) (pa_cons (pv 1) (pa_cons (pe_bltn (v := .ty "str") (by rfl) T.no_str (by decide +kernel) rfl) pa_nil))))
          (pss_one (ps_ret (pe_and (pe_callB call_isi (by rfl) T.no_isinstance (by decide +kernel) (pa_cons (pv 0) (pa_cons (pe_bltn (v := .ty "str") (by rfl) T.no_str (by decide +kernel) rfl) pa_nil))) (pe_one (pe_cmpR op_eq (pv 0) (pv 1) (nomark _)))))) pss_nil)
        (pss_cons (ps_if (pt_val (pe_callB call_isi (by rfl) T.no_isinstance (by decide +kernel) (pa_cons (pv 1) (pa_cons (pe_bltn (v := .ty "bool") (by rfl) T.no_bool (by decide +kernel) rfl) pa_nil)))) (pss_one ps_never) pss_nil)
        (pss_cons (ps_if (pt_val (pe_callB call_isi (by rfl) T.no_isinstance (by decide +kernel) (pa_cons (pv 1) (pa_cons (pe_bltn (v := .ty "int") (by rfl) T.no_int (by decide +kernel) rfl) pa_nil))))
          (pss_one (ps_ret (pe_and (pe_callB call_isi (by rfl) T.no_isinstance (by decide +kernel) (pa_cons (pv 0) (pa_cons (pe_bltn (v := .ty "int") (by rfl) T.no_int (by decide +kernel) rfl) pa_nil)))
            (pe_and (pe_not (pe_callB call_isi (by rfl) T.no_isinstance (by decide +kernel) (pa_cons (pv 0) (pa_cons (pe_bltn (v := .ty "bool") (by rfl) T.no_bool (by decide +kernel) rfl) pa_nil)))) (pe_one (pe_cmpR op_eq (pv 0) (pv 1) (nomark _))))))) pss_nil)
        (pss_cons (ps_if (PW.pt (pw_or (pt_not (pt_val (pe_callB call_isi (by rfl) T.no_isinstance (by decide +kernel) (pa_cons (pv 0) (pa_cons (pe_bltn (v := .ty "tuple") (by rfl) T.no_tuple (by decide +kernel) rfl) pa_nil)))))
          (pw_or1 (pt_cmpR op_ne (pe_callB call_len_seq (by rfl) T.no_len boot_len (pa_cons (pv 0) pa_nil)) (pe_callB call_len_seq (by rfl) T.no_len boot_len (pa_cons (pv 1) pa_nil)) (nomark _))))) (pss_one ps_never) pss_nil)
        (pss_cons (ps_for PassesOwn.never rfl (pi_range1 rfl T.no_range (pa_cons (pe_callB call_len_seq (by rfl) T.no_len boot_len (pa_cons (pv 1) pa_nil)) pa_nil)) (pg_name (i := 2) nd rfl (Or.inl rfl))
          (pss_one (ps_if (pt_not (pt_val (pe_call G hr (by rfl) T.gLSame T.FLSame.kp T.bLSame .nil pass0 (pa_cons (pe_ix ix_tup (pv 0) (pv 2) (fun _ _ => rfl)) (pa_cons (pe_ix ix_tup (pv 1) (pv 2) (fun _ _ => rfl)) pa_nil))))) (pss_one ps_never) pss_nil)))
        (pss_one (ps_ret pe_bl))))))), ?_⟩
      rcases h with ⟨z, rfl, rfl⟩ | ⟨i, rfl, rfl⟩ | ⟨a, b, xs, ys, rfl, rfl, ha, hb, hl, hl2, he⟩
      · refine ⟨_, rfl, rfl, false, rfl, iteF ?_⟩
        refine ⟨_, rfl, _, _, .type "str", .type "str", true, rfl, .ty _, .base (.str _), kit_ty (by decide +kernel), true, rfl, iteT ?_⟩
        refine ⟨_, rfl, _, _, .type "str", .type "str", true, rfl, .ty _, .base (.str _), kit_ty (by decide +kernel), true, rfl, iteT ⟨_, rfl, _, rfl, ?_, ?_⟩⟩
        · rfl
        · rw [decide_eq_true rfl]
          exact k
      · refine ⟨_, rfl, rfl, false, rfl, iteF ?_⟩
        refine ⟨_, rfl, _, _, .type "int", .type "str", false, rfl, .ty _, .base (.int _), kit_ty (by decide +kernel), false, rfl, iteF ?_⟩
        refine ⟨_, rfl, _, _, .type "int", .type "bool", false, rfl, .ty _, .base (.int _), kit_ty (by decide +kernel), false, rfl, iteF ?_⟩
        refine ⟨_, rfl, _, _, .type "int", .type "int", true, rfl, .ty _, .base (.int _), kit_ty (by decide +kernel), true, rfl, iteT ?_⟩
        refine ⟨_, rfl, _, _, .type "int", .type "int", true, rfl, .ty _, .base (.int _), kit_ty (by decide +kernel), true, rfl, iteT ?_⟩
        refine ⟨_, rfl, _, _, .type "int", .type "bool", false, rfl, .ty _, .base (.int _), kit_ty (by decide +kernel), false, rfl, true, rfl, iteT ⟨_, rfl, _, rfl, ?_, ?_⟩⟩
        · rfl
        · rw [decide_eq_true rfl]
          exact k
      · refine ⟨_, rfl, rfl, false, rfl, iteF ?_⟩
        refine ⟨_, rfl, _, _, .type "tuple", .type "str", false, rfl, .ty _, .base (.tup hb), kit_ty (by decide +kernel), false, rfl, iteF ?_⟩
        refine ⟨_, rfl, _, _, .type "tuple", .type "bool", false, rfl, .ty _, .base (.tup hb), kit_ty (by decide +kernel), false, rfl, iteF ?_⟩
        refine ⟨_, rfl, _, _, .type "tuple", .type "int", false, rfl, .ty _, .base (.tup hb), kit_ty (by decide +kernel), false, rfl, iteF ?_⟩
        refine ⟨_, rfl, _, _, .type "tuple", .type "tuple", true, rfl, .ty _, .base (.tup ha), kit_ty (by decide +kernel), true, rfl, iteF ⟨_, rfl, a, xs, rfl, .inr (SqT.of ha), _, rfl, b, ys, rfl, .inr (SqT.of hb), rfl, false, ?_, iteF ?_⟩⟩
        · rw [hl]
          exact congrArg V.bl (by simp)
        refine ⟨_, rfl, b, ys, rfl, .inr (SqT.of hb), (ys.length : Int), rfl, by omega, by omega, for_range (lo := 0) (n := ((ys.length : Nat) : Int).toNat) (fun i σ H' => ∃ v2, σ = [some (.ref a), some (.ref b), v2] ∧ H' = H) ⟨_, rfl, rfl⟩ ?_ ?_⟩
        · rintro i σ H1 hi ⟨v2, rfl, rfl⟩
          have i1 : i < ys.length := by omega
          have i0 : i < xs.length := by omega
          have e0 : (0 : Int) + (i : Int) = ((i : Nat) : Int) := by omega
          refine ⟨_, rfl, _, rfl, a, xs, ((i : Nat) : Int), xs[i], rfl, congrArg V.int e0, SqT.of ha, atI_nat (List.getElem?_eq_getElem i0), _, rfl, _, rfl, b, ys, ((i : Nat) : Int), ys[i], rfl, congrArg V.int e0, SqT.of hb, atI_nat (List.getElem?_eq_getElem i1), _, _, rfl, he i _ _ (List.getElem?_eq_getElem i0) (List.getElem?_eq_getElem i1), true, rfl, iteF ⟨_, rfl, rfl⟩⟩
        · rintro σ H1 ⟨v2, rfl, rfl⟩
          exact k
end
end Rj
end
section
set_option Elab.async false
set_option linter.all false
set_option maxRecDepth 100000
set_option maxHeartbeats 2000000
/-! _law_alphabet. -/
namespace Rj
open PySem PySem.Spec PyProof.Rows L2 LamX
theorem num_at {ns : List Int} (sm : Smalls ns) {i : Int} (h0 : 0 ≤ i) (h1 : i < ns.length) : ∃ n, atI (ns.map V.int) i = some (.int n) ∧ 0 ≤ n ∧ n < 1000 := by
  have hl : i.toNat < ns.length := by omega
  refine ⟨ns[i.toNat], at_of (j := i.toNat) (by omega) (by simp [hl]), sm _ (List.getElem_mem hl)⟩
abbrev sg1 (c : Nat) : V := .str ⟨#[c]⟩
theorem inV_one (c : Nat) : ∀ cs : List Nat, inV (sg1 c) (cs.map sg1) = decide (c ∈ cs)
  | [] => rfl
  | d :: cs => by
    have ih := inV_one c cs
    unfold inV at ih ⊢
    rw [List.map_cons, List.any_cons, ih]
    have e : eqV (sg1 d) (sg1 c) = decide (c = d) := by
      show ((⟨#[d]⟩ : Str) == ⟨#[c]⟩) = _
      by_cases h : c = d
      · subst h; simp
      · rw [decide_eq_false h]
        exact beq_eq_false_iff_ne.mpr fun z => h (by
          have := congrArg (fun s : Str => s.cps.toList) z
          simpa using this.symm)
    rw [e]
    by_cases h : c = d <;> simp [h]
theorem flat_ones (cs : List Nat) : (cs.map sg1).all flatV = true := List.all_eq_true.mpr fun x hx => by
  obtain ⟨c, _, rfl⟩ := List.mem_map.mp hx
  rfl
theorem rising_ones : ∀ (r : List Nat) (p : Nat), risingS ⟨#[p]⟩ (r.map fun c => (⟨#[c]⟩ : Str)) = true → (∀ x ∈ r, p ≤ x) ∧ r.Pairwise (· ≤ ·)
  | [], p, _ => ⟨fun x hx => absurd hx List.not_mem_nil, .nil⟩
  | c :: r, p, h => by
    have h' : (!ltCps [c] [p] && risingS ⟨#[c]⟩ (r.map fun c => (⟨#[c]⟩ : Str))) = true := h
    obtain ⟨h1, h2⟩ := Bool.and_eq_true_iff.mp h'
    obtain ⟨i1, i2⟩ := rising_ones r c h2
    have hc : p ≤ c := by
      have : ¬ c < p := fun z => by simp [ltCps, z] at h1
      omega
    refine ⟨fun x hx => ?_, List.pairwise_cons.mpr ⟨i1, i2⟩⟩
    rcases List.mem_cons.mp hx with rfl | hx
    · exact hc
    · exact Nat.le_trans hc (i1 x hx)
theorem sorted_ones {ds : List Nat} (h : sortedS (ds.map fun c => (⟨#[c]⟩ : Str)) = true) : ds.Pairwise (· ≤ ·) := by
  cases ds with
  | nil => exact .nil
  | cons p r =>
    obtain ⟨h1, h2⟩ := rising_ones r p h
    exact List.pairwise_cons.mpr ⟨h1, h2⟩
theorem strict {ds : List Nat} (h : ds.Pairwise (· ≤ ·)) (nd : ds.Nodup) : ds.Pairwise (· < ·) := by
  induction ds with
  | nil => exact .nil
  | cons p r ih =>
    obtain ⟨h1, h2⟩ := List.pairwise_cons.mp h
    obtain ⟨n1, n2⟩ := List.nodup_cons.mp nd
    refine List.pairwise_cons.mpr ⟨fun x hx => ?_, ih h2 n2⟩
    have := h1 x hx
    have : p ≠ x := fun z => n1 (z ▸ hx)
    omega
theorem perm_ones {cs : List Nat} {ys : List Str} (h : ys.Perm (cs.map fun c => (⟨#[c]⟩ : Str))) : ∃ ds : List Nat, ds.Perm cs ∧ ys = ds.map fun c => (⟨#[c]⟩ : Str) := by
  refine ⟨ys.map fun y => y.cps.toList.headD 0, ?_, ?_⟩
  · have h2 := h.map fun y : Str => y.cps.toList.headD 0
    rw [List.map_map] at h2
    have e : ((fun y : Str => y.cps.toList.headD 0) ∘ fun c : Nat => (⟨#[c]⟩ : Str)) = id := by
      funext c
      rfl
    rw [e, List.map_id] at h2
    exact h2
  · rw [List.map_map]
    refine (List.map_id ys).symm.trans (List.map_congr_left fun y hy => ?_)
    obtain ⟨c, _, rfl⟩ := List.mem_map.mp (h.mem_iff.mp hy)
    rfl
theorem join_tx (ds : List Nat) : Txt.join (PySem.Str.ofString "") (ds.map fun c => (⟨#[c]⟩ : Str)) = tx ds := by
  show Builtin.Str.glued (PySem.Str.ofString "") _ = _
  rw [StrLaws.glued_eq_join]
  exact PyProof.Rows.join_ones ds
theorem sum_ones : ∀ ds : List Nat, ((ds.map fun c => (⟨#[c]⟩ : Str)).map (·.length)).sum = ds.length
  | [] => rfl
  | d :: ds => by
    have ih := sum_ones ds
    rw [List.map_cons, List.map_cons, List.sum_cons, ih, List.length_cons]
    show 1 + ds.length = _
    omega
def SignsOk (S : Str) : Prop := 1 ≤ S.cps.toList.length ∧ S.cps.toList.length ≤ 1000 ∧ S.cps.toList.all (fun c => decide (32 ≤ c) && decide (c ≤ 126)) = true
section
variable {P : Program} {w : World} {K : PySem.W.Frag} {mg : Str → Option Value} {base : Heap}
def spAlphabet : Sp := fun vs H Q _ => ∃ (nq : Addr) (ns : List Int) (k m : Int), vs = [.ref nq, .int k, .int m] ∧ H nq = some (.lst (ns.map V.int)) ∧ Smalls ns ∧ 0 ≤ k ∧ 1 ≤ m ∧ m ≤ 30 ∧ k + m ≤ ns.length ∧
  ∀ (H' : Hp) (A : Txt), Same H H' → Alph A → A.length ≤ m → Q (vt A) H'
theorem ok_alphabet (T : Wd K mg) : FnOk P w K mg base CX0 1 T.fLAlphabet T.dLAlphabet ["_law_numbers_here", "_law_k", "_law_many"] spAlphabet := by
  refine okD T.FLAlphabet scLAlphabet (fun vs H Q E h => ?_) (fun cdv A outer s H vs Q E hr h => ?_)
  · obtain ⟨nq, ns, k, m, rfl, _⟩ := h
    rfl
  · obtain ⟨nq, ns, k, m, rfl, hnq, sm, k0, m0, m1, kl, cont⟩ := h
    have nd := scLAlphabet.nd
    refine ⟨_, pss_cons (ps_set (i := 3) nd rfl (.inl rfl) pe_str) (pss_cons (ps_set (i := 3) nd rfl (.inl rfl) (pe_op op_add_str (pv 3) pe_str)) (pss_cons (ps_set (i := 4) nd rfl (.inl rfl) (pe_lst pa_nil))
      (pss_cons (ps_for PassesOwn.never rfl (pi_range1 rfl T.no_range (pa_cons (pv 2) pa_nil)) (pg_name (i := 5) nd rfl (Or.inl rfl))
        (pss_cons (ps_set (i := 6) nd rfl (.inl rfl) (pe_ix ix_str (pv 3) (pe_op op_mod (pe_callTy call_int1 (by rfl) T.no_int (by decide +kernel) (pa_cons (pe_ix ix_list (pv 0) (pe_op op_add (pv 1) (pv 5)) (fun _ _ => rfl)) pa_nil)) (pe_callB call_len_str (by rfl) T.no_len boot_len (pa_cons (pv 3) pa_nil))) (fun _ _ => rfl)))
        (pss_one (ps_if (pt_cmpR op_notIn_seq (pv 6) (pv 4) (by with_unfolding_all rfl)) (pss_one (ps_expr (pe_bm PySem.F.plainAttrs_list PySem.F.slot_list_append PySem.F.type_list_append mt_append (pv 4) (pa_cons (pv 6) pa_nil)))) pss_nil))))
      (pss_one (ps_ret (pe_join pe_str (pe_callB cr_sortedS (by rfl) T.no_sorted (by decide +kernel) (pa_cons (pv 4) pa_nil)))))))), ?_⟩
    refine ⟨_, rfl, _, _, rfl, rfl, by decide +kernel, ?_⟩
    refine ⟨Nat.zero_le _, fun l hl => ?_⟩
    refine ⟨_, rfl, m, rfl, by omega, by omega, for_range (lo := 0) (n := m.toNat) (fun i σ H' => ∃ (S : Str) (v5 v6 : Option V) (cs : List Nat), σ = [some (.ref nq), some (.int k), some (.int m), some (.str S), some (.ref l), v5, v6] ∧ SignsOk S ∧ Same H H' ∧ H' l = some (.lst (cs.map sg1)) ∧ cs.length ≤ i ∧ (1 ≤ i → 1 ≤ cs.length) ∧ cs.Nodup ∧ ∀ c ∈ cs, 32 ≤ c ∧ c ≤ 126)
      ⟨_, _, _, [], rfl, ⟨by decide +kernel, by decide +kernel, by decide +kernel⟩, same_new hl, upd_same, Nat.le_refl _, fun h => absurd h (by decide), List.nodup_nil, fun c hc => absurd hc List.not_mem_nil⟩ ?_ ?_⟩
    · rintro i σ H1 hi ⟨S, v5, v6, cs, rfl, sok, s1, h1, c1, c2, c3, c4⟩
      obtain ⟨S1, S2, S3⟩ := sok
      obtain ⟨n, hn, n0, n1⟩ := num_at sm (i := k + (0 + (i : Int))) (by omega) (by omega)
      have eS : (S.length : Int) = (S.cps.toList.length : Int) := by simp [Str.length]
      have hi2 : (n % (S.length : Int)).toNat < S.cps.toList.length := by
        have := Int.emod_nonneg n (b := (S.length : Int)) (by omega)
        have := Int.emod_lt_of_pos n (b := (S.length : Int)) (by omega)
        omega
      have hS0 : 0 < (S.length : Int) := by omega
      have hSz : S.length ≤ sizeLine := small_line (by omega)
      refine ⟨_, rfl, _, rfl, _, rfl, _, rfl, _, _, rfl, rfl, nq, _, _, _, rfl, rfl, SqL.of (s1 _ _ hnq), hn, .inl ⟨_, rfl, _, rfl, S, rfl, hSz, _, _, rfl, rfl, hS0, S, n % (S.length : Int), S.cps.toList[(n % (S.length : Int)).toNat], rfl, rfl, hSz, ?_, ?_⟩⟩
      · have e : n % (S.length : Int) = (((n % (S.length : Int)).toNat : Nat) : Int) := by have := Int.emod_nonneg n (b := (S.length : Int)) (by omega); omega
        exact (congrArg (atI S.cps.toList) e).trans (atI_nat (List.getElem?_eq_getElem hi2))
      have hc := List.all_eq_true.mp S3 _ (List.getElem_mem hi2)
      obtain ⟨q1, q2⟩ := Bool.and_eq_true_iff.mp hc
      have q1 := of_decide_eq_true q1
      have q2 := of_decide_eq_true q2
      generalize S.cps.toList[(n % (S.length : Int)).toNat] = c at q1 q2
      refine ⟨_, rfl, _, rfl, l, _, rfl, .inl (SqL.of h1), rfl, flat_ones cs, !inV (sg1 c) (cs.map sg1), rfl, ?_⟩
      rw [inV_one]
      by_cases hm : c ∈ cs
      · rw [decide_eq_true hm]
        have l1 : 1 ≤ cs.length := by
          cases cs with
          | nil => cases hm
          | cons => simp
        exact iteF ⟨S, _, _, cs, rfl, ⟨S1, S2, S3⟩, s1, h1, by omega, fun _ => l1, c3, c4⟩
      · rw [decide_eq_false hm]
        refine iteT ⟨_, rfl, .inl ⟨rfl, _, SqL.of h1⟩, _, rfl, l, _, _, rfl, rfl, h1, small_lt (by rw [List.length_map]; omega), ?_⟩
        refine ⟨S, _, _, cs ++ [c], rfl, ⟨S1, S2, S3⟩, Same.mut s1 hl, by rw [upd_same]; simp, by simp; omega, fun _ => by simp, ?_, fun d hd => ?_⟩
        · rw [List.nodup_append]
          exact ⟨c3, by simp, fun a ha b hb e => by
            rw [List.mem_singleton.mp hb] at e
            exact hm (e ▸ ha)⟩
        · rcases List.mem_append.mp hd with z | z
          · exact c4 d z
          · rw [List.mem_singleton.mp z]
            exact ⟨q1, q2⟩
    · rintro σ H1 ⟨S, v5, v6, cs, rfl, sok, s1, h1, c1, c2, c3, c4⟩
      have eq1 : cs.map sg1 = (cs.map fun c => (⟨#[c]⟩ : Str)).map V.str := by rw [List.map_map]; rfl
      refine ⟨⟨_, rfl⟩, _, rfl, l, cs.map fun c => (⟨#[c]⟩ : Str), rfl, by rw [← eq1]; exact SqL.of h1, by rw [List.length_map]; omega, fun ys p hp hs hp0 => ?_⟩
      obtain ⟨ds, d1, rfl⟩ := perm_ones hp
      have dl := d1.length_eq
      have asc := strict (sorted_ones hs) (d1.nodup_iff.mpr c3)
      refine ⟨_, p, _, rfl, rfl, .inl (SqL.of upd_same), ?_, ?_⟩
      · have e : ((ds.map fun c => (⟨#[c]⟩ : Str)).map (·.length)).sum = ds.length := by
          exact sum_ones ds
        rw [e]
        have e2 : (PySem.Str.ofString "").length = 0 := by decide
        rw [e2]
        omega
      · rw [join_tx]
        have := c2 (by omega)
        refine cont _ ds (s1.add hp0) ⟨by omega, by omega, fun c hc => c4 c (d1.mem_iff.mp hc), asc⟩ (by omega)
end
end Rj
end
section
set_option Elab.async false
set_option linter.all false
set_option maxRecDepth 100000
set_option maxHeartbeats 2000000
/-! _law_join_all, _law_staged, _law_letters, _law_is_proper. -/
namespace Rj
open PySem PySem.Spec PyProof.Rows L2 LamX
theorem idx_occ {A : Txt} (asc : A.Pairwise (· < ·)) {c : Nat} (h : c ∈ A) : ∃ rest, Builtin.Str.occurrences (tx A) ⟨#[c]⟩ 0 (tx A).length 1 = A.idxOf c :: rest := by
  have hf := found_tx h
  cases ho : Builtin.Str.occurrences (tx A) ⟨#[c]⟩ 0 (tx A).length 1 with
  | nil => rw [ho] at hf; cases hf
  | cons i rest =>
    have hs := StrLaws.occ_spec (tx A) ⟨#[c]⟩ 0 (tx A).length 1 i (by rw [ho]; exact List.mem_cons_self)
    have hi : A[i]? = some c := by
      have := (StrLaws.subAt_one (tx A) c i).mp hs
      simpa [tx] using this
    rw [asc_nd asc hi (idx_at h)]
    exact ⟨rest, rfl⟩
section
variable {P : Program} {w : World} {K : PySem.W.Frag} {mg : Str → Option Value} {base : Heap}
abbrev rowL (R : List Int) : HO := .lst (R.map V.int)
def spJoinAll : Sp := fun vs H Q _ => ∃ (a b : Addr) (R : List Int) (p : Int × Int) (z : Int), vs = [.ref a, .ref b, .int z] ∧ H a = some (rowL R) ∧ H b = some (pr2 p) ∧ R.length ≤ 1000 ∧
  ∀ (H' : Hp) (q : Addr), Same H H' → H' q = some (rowL (pt p.1 p.2 z R)) → Q (.ref q) H'
theorem ok_joinAll (T : Wd K mg) : FnOk P w K mg base CX0 1 T.fLJoinAll T.dLJoinAll ["_law_row", "_law_pair", "_law_made"] spJoinAll := by
  refine okD T.FLJoinAll scLJoinAll (fun vs H Q E h => ?_) (fun cdv A outer s H vs Q E hr h => ?_)
  · obtain ⟨a, b, R, p, z, rfl, _⟩ := h
    rfl
  · obtain ⟨a, b, R, p, z, rfl, ha, hb, hR, k⟩ := h
    have nd := scLJoinAll.nd
    refine ⟨_, pss_cons (ps_set (i := 3) nd rfl (.inl rfl) (pe_lst pa_nil)) (pss_cons (ps_set (i := 4) nd rfl (.inl rfl) pe_bl)
      (pss_cons (ps_for PassesOwn.never rfl (pi_range1 rfl T.no_range (pa_cons (pe_callB call_len_seq (by rfl) T.no_len boot_len (pa_cons (pv 0) pa_nil)) pa_nil)) (pg_name (i := 5) nd rfl (Or.inl rfl))
        (pss_one (ps_if (pt_val (pv 4)) (pss_one (ps_set (i := 4) nd rfl (.inl rfl) pe_bl))
          (pss_one (ps_if (PW.pt (pw_and (pt_cmpR op_lt (pe_op op_add (pv 5) pe_int) (pe_callB call_len_seq (by rfl) T.no_len boot_len (pa_cons (pv 0) pa_nil)) (nomark _))
              (pw_and1 (pt_cmpR (op_eqD hr.units) (pe_tup (pa_cons (pe_ix ix_list (pv 0) (pv 5) (fun _ _ => rfl)) (pa_cons (pe_ix ix_list (pv 0) (pe_op op_add (pv 5) pe_int) (fun _ _ => rfl)) pa_nil))) (pv 1) (nomark _)))))
            (pss_cons (ps_expr (pe_bm PySem.F.plainAttrs_list PySem.F.slot_list_append PySem.F.type_list_append mt_append (pv 3) (pa_cons (pv 2) pa_nil))) (pss_one (ps_set (i := 4) nd rfl (.inl rfl) pe_bl)))
            (pss_one (ps_expr (pe_bm PySem.F.plainAttrs_list PySem.F.slot_list_append PySem.F.type_list_append mt_append (pv 3) (pa_cons (pe_ix ix_list (pv 0) (pv 5) (fun _ _ => rfl)) pa_nil)))))))))
      (pss_one (ps_ret (pv 3))))), ?_⟩
    refine ⟨Nat.zero_le _, fun l hl => ?_⟩
    have nal : a ≠ l := ne_of_none ha hl
    have nbl : b ≠ l := ne_of_none hb hl
    have hlenR : (R.map V.int).length = R.length := List.length_map _
    refine ⟨_, rfl, a, R.map V.int, rfl, .inl (SqL.of (by rw [upd_ne nal]; exact ha)), ((R.map V.int).length : Int), rfl, by omega, by rw [hlenR]; omega,
      for_range (lo := 0) (n := (((R.map V.int).length : Nat) : Int).toNat) (fun i σ H' => ∃ (g : Bool) (v5 : Option V) (dn : List Int), σ = [some (.ref a), some (.ref b), some (.int z), some (.ref l), some (.bl g), v5] ∧ Same H H' ∧ H' l = some (rowL dn) ∧ dn.length ≤ i ∧ dn ++ pt p.1 p.2 z (R.drop (if g = true then i + 1 else i)) = pt p.1 p.2 z R)
        ⟨false, _, [], rfl, same_new hl, upd_same, Nat.le_refl _, by simp⟩ ?_ ?_⟩
    · rintro j σ H1 hj ⟨g, v5, dn, rfl, s1, hd, hdl, e⟩
      have c : j < R.length := by rw [← hlenR]; omega
      have ha1 := s1 _ _ ha
      have hb1 := s1 _ _ hb
      have e0 : (0 : Int) + (j : Int) = ((j : Nat) : Int) := by omega
      have gj : R[j]? = some R[j] := List.getElem?_eq_getElem c
      have dj : R.drop j = R[j] :: R.drop (j + 1) := List.drop_eq_getElem_cons c
      refine ⟨_, rfl, g, rfl, ?_⟩
      cases g with
      | true => exact iteT ⟨false, _, dn, rfl, s1, hd, by omega, e⟩
      | false =>
        refine iteF ?_
        have e' : dn ++ pt p.1 p.2 z (R.drop j) = pt p.1 p.2 z R := e
        have szl : (dn.map V.int).length < sizeLine := small_lt (by rw [List.length_map]; omega)
        -- the branch that keeps the piece
        have keep : ¬ (j + 1 < R.length ∧ R[j]? = some p.1 ∧ R[j + 1]? = some p.2) → (dn ++ [R[j]]) ++ pt p.1 p.2 z (R.drop (j + 1)) = pt p.1 p.2 z R := fun hn => by
          rw [← e', dj]
          by_cases c1 : j + 1 < R.length
          · have dj1 : R.drop (j + 1) = R[j + 1] :: R.drop (j + 1 + 1) := List.drop_eq_getElem_cons c1
            have hn' : ¬ (R[j] = p.1 ∧ R[j + 1] = p.2) := fun q => hn ⟨c1, by rw [gj, q.1], by rw [List.getElem?_eq_getElem c1, q.2]⟩
            rw [dj1, pt_no hn', ← dj1]
            simp
          · have dj1 : R.drop (j + 1) = [] := List.drop_eq_nil_iff.mpr (by omega)
            rw [dj1]
            simp [pt]
        refine ⟨_, rfl, _, _, rfl, rfl, _, rfl, a, R.map V.int, rfl, .inl (SqL.of ha1), _, _, rfl, rfl, decide (j + 1 < R.length), ?_, ?_⟩
        · refine congrArg V.bl (decide_eq_decide.mpr ?_)
          rw [hlenR]
          omega
        by_cases c1 : j + 1 < R.length
        · rw [decide_eq_true c1]
          have gj1 : R[j + 1]? = some R[j + 1] := List.getElem?_eq_getElem c1
          have dj1 : R.drop (j + 1) = R[j + 1] :: R.drop (j + 1 + 1) := List.drop_eq_getElem_cons c1
          refine iteT ⟨_, rfl, _, rfl, a, R.map V.int, ((j : Nat) : Int), _, rfl, congrArg V.int e0, SqL.of ha1, at_row gj, _, rfl, _, rfl, _, _, rfl, rfl, a, R.map V.int, ((j + 1 : Nat) : Int), _, rfl, ?_, SqL.of ha1, at_row gj1, (by show 2 ≤ sizeLine; decide), fun t ht => ?_⟩
          · exact congrArg V.int (by omega)
          have s2 : Same H1 (upd H1 t (.tup [.int R[j], .int R[j + 1]])) := same_new ht
          have gt : upd H1 t (.tup [.int R[j], .int R[j + 1]]) t = some (pr2 (R[j], R[j + 1])) := upd_same
          generalize upd H1 t (.tup [.int R[j], .int R[j + 1]]) = H2 at s2 gt
          refine ⟨_, rfl, .tuple [.int R[j], .int R[j + 1]], .tuple [.int p.1, .int p.2], dp_pr (p := (R[j], R[j + 1])) gt, dp_pr (s2 _ _ hb1), sh_pr (R[j], R[j + 1]), sh_pr p, decide ((R[j], R[j + 1]) = p), congrArg V.bl (eqv_pr (R[j], R[j + 1]) p), ?_⟩
          by_cases c2 : (R[j], R[j + 1]) = p
          · rw [decide_eq_true c2]
            refine iteT ⟨_, rfl, .inl ⟨rfl, _, SqL.of (s2 _ _ hd)⟩, _, rfl, l, _, _, rfl, rfl, s2 _ _ hd, szl, ?_⟩
            refine ⟨true, _, dn ++ [z], rfl, Same.mut (s1.trans s2) hl, by rw [upd_same]; simp, by simp; omega, ?_⟩
            rw [← e', dj, dj1, pt_yes ⟨by rw [← c2], by rw [← c2]⟩]
            simp
          · rw [decide_eq_false c2]
            refine iteF ⟨_, rfl, .inl ⟨rfl, _, SqL.of (s2 _ _ hd)⟩, _, rfl, _, rfl, a, R.map V.int, ((j : Nat) : Int), _, rfl, congrArg V.int e0, SqL.of (s2 _ _ ha1), at_row gj, l, _, _, rfl, rfl, s2 _ _ hd, szl, ?_⟩
            exact ⟨false, _, dn ++ [R[j]], rfl, Same.mut (s1.trans s2) hl, by rw [upd_same]; simp, by simp; omega, keep fun q => c2 (by
              obtain ⟨_, q1, q2⟩ := q
              rw [gj] at q1
              rw [gj1] at q2
              exact Prod.ext (Option.some.inj q1) (Option.some.inj q2))⟩
        · rw [decide_eq_false c1]
          refine iteF (iteF ⟨_, rfl, .inl ⟨rfl, _, SqL.of hd⟩, _, rfl, _, rfl, a, R.map V.int, ((j : Nat) : Int), _, rfl, congrArg V.int e0, SqL.of ha1, at_row gj, l, _, _, rfl, rfl, hd, szl, ?_⟩)
          exact ⟨false, _, dn ++ [R[j]], rfl, Same.mut s1 hl, by rw [upd_same]; simp, by simp; omega, keep fun q => c1 q.1⟩
    · rintro σ H1 ⟨g, v5, dn, rfl, s1, hd, hdl, e⟩
      have e2 : R.drop (if g = true then (((R.map V.int).length : Nat) : Int).toNat + 1 else (((R.map V.int).length : Nat) : Int).toNat) = [] := List.drop_eq_nil_iff.mpr (by rw [hlenR]; split <;> omega)
      rw [e2, pt_nil, List.append_nil] at e
      rw [e] at hd
      exact ⟨_, rfl, k H1 l s1 hd⟩
end
end Rj
end
section
set_option Elab.async false
set_option linter.all false
set_option maxRecDepth 100000
set_option maxHeartbeats 2000000
/-! _law_staged, _law_letters, _law_is_proper. -/
namespace Rj
open PySem PySem.Spec PyProof.Rows L2 LamX
section
variable {P : Program} {w : World} {K : PySem.W.Frag} {mg : Str → Option Value} {base : Heap}
theorem at_ref {as : List Addr} {i : Nat} {a : Addr} (h : as[i]? = some a) : atI (as.map V.ref) ((i : Nat) : Int) = some (V.ref a) := atI_nat (by simp [h])
def spStaged : Sp := fun vs H Q _ => ∃ (pp a : Addr) (as : List Addr) (ps : List (Int × Int)) (R : List Int) (m : Int), vs = [.int m, .ref pp, .ref a] ∧ H pp = some (.lst (as.map V.ref)) ∧ PrsAt H as ps ∧ H a = some (rowL R) ∧ R.length ≤ 1000 ∧ ps.length ≤ 1000 ∧
  ∀ (H' : Hp) (q : Addr), Same H H' → H' q = some (rowL (stg m ps R)) → Q (.ref q) H'
theorem ok_staged (T : Wd K mg) : FnOk P w K mg base CX0 2 T.fLStaged T.dLStaged ["_law_many", "_law_pairs", "_law_row"] spStaged := by
  have GJ : FnOk P w K mg base CX0 1 T.fLJoinAll T.dLJoinAll ["_law_row", "_law_pair", "_law_made"] spJoinAll := ok_joinAll T
  refine okD T.FLStaged scLStaged (fun vs H Q E h => ?_) (fun cdv A outer s H vs Q E hr h => ?_)
  · obtain ⟨pp, a, as, ps, R, m, rfl, _⟩ := h
    rfl
  · obtain ⟨pp, a, as, ps, R, m, rfl, hpp, hps, ha, hR, hl, k⟩ := h
    have nd := scLStaged.nd
    have len0 : (as.map V.ref).length = ps.length := by rw [List.length_map, hps.len]
    refine ⟨_, pss_cons (ps_for PassesOwn.never rfl (pi_range1 rfl T.no_range (pa_cons (pe_callB call_len_seq (by rfl) T.no_len boot_len (pa_cons (pv 1) pa_nil)) pa_nil)) (pg_name (i := 3) nd rfl (Or.inl rfl))
        (pss_one (ps_set (i := 2) nd rfl (.inl rfl) (pe_call GJ hr (by rfl) T.gLJoinAll T.FLJoinAll.kp T.bLJoinAll .nil pass0 (pa_cons (pv 2) (pa_cons (pe_ix ix_list (pv 1) (pv 3) (fun _ _ => rfl)) (pa_cons (pe_op op_add (pv 0) (pv 3)) pa_nil)))))))
      (pss_one (ps_ret (pv 2))), ?_⟩
    refine ⟨_, rfl, pp, _, rfl, .inl (SqL.of hpp), ((as.map V.ref).length : Int), rfl, by omega, by rw [len0]; omega,
      for_range (lo := 0) (n := (((as.map V.ref).length : Nat) : Int).toNat) (fun i σ H' => ∃ (c : Addr) (v3 : Option V), σ = [some (.int m), some (.ref pp), some (.ref c), v3] ∧ Same H H' ∧ H' c = some (rowL (stg m (ps.take i) R)))
        ⟨a, _, rfl, Same.refl _, ha⟩ ?_ ?_⟩
    · rintro i σ H1 hi ⟨c, v3, rfl, s1, hc⟩
      have hi' : i < ps.length := by rw [← len0]; omega
      obtain ⟨b, hb, hbp⟩ := hps.get2 (List.getElem?_eq_getElem hi')
      have e0 : (0 : Int) + (i : Int) = ((i : Nat) : Int) := by omega
      have lR := stg_len (ps.take i) m R
      refine ⟨_, rfl, _, rfl, _, rfl, pp, _, ((i : Nat) : Int), _, rfl, congrArg V.int e0, SqL.of (s1 _ _ hpp), at_ref hb, _, rfl, _, rfl, _, _, rfl, rfl, c, b, _, ps[i], _, rfl, hc, s1 _ _ hbp, by omega, fun H2 q s2 hq => ⟨q, _, rfl, s1.trans s2, ?_⟩⟩
      have et : ps.take (i + 1) = ps.take i ++ [ps[i]] := by rw [List.take_add_one, List.getElem?_eq_getElem hi']; rfl
      have el : ((ps.take i).length : Int) = 0 + (i : Int) := by rw [List.length_take]; omega
      rw [et, stg_snoc, el]
      exact hq
    · rintro σ H1 ⟨c, v3, rfl, s1, hc⟩
      have e : ps.take (((as.map V.ref).length : Nat) : Int).toNat = ps := List.take_of_length_le (by rw [len0]; omega)
      rw [e] at hc
      exact ⟨_, rfl, k H1 c s1 hc⟩
/-! ### letters -/
def rSidx : V → List V → Hp → VK → Prop := fun x xs H Q => ∃ a b i rest, x = .str a ∧ xs = [.str b] ∧ Builtin.Str.occurrences a b 0 a.length 1 = i :: rest ∧ Q (.int (i : Nat)) H
def spLetters : Sp := fun vs H Q _ => ∃ (A t : Txt), vs = [vt A, vt t] ∧ Alph A ∧ (∀ c ∈ t, c ∈ A) ∧ t.length ≤ 1000 ∧ ∀ (H' : Hp) (q : Addr), Same H H' → H' q = some (rowL (lets A t)) → Q (.ref q) H'
theorem ok_letters (T : Wd K mg) : FnOk P w K mg base CX0 1 T.fLLetters T.dLLetters ["_law_alphabet_here", "_law_text"] spLetters := by
  refine okD T.FLLetters scLLetters (fun vs H Q E h => ?_) (fun cdv A outer s H vs Q E hr h => ?_)
  · obtain ⟨A, t, rfl, _⟩ := h
    rfl
  · obtain ⟨L, t, rfl, al, tt, ln, k⟩ := h
    have nd := scLLetters.nd
    refine ⟨_, pss_one (ps_ret (pe_lc (own := [("_law_sign", 2)]) (g := gName 2) (te := tBM K "str" rSidx (tVar 0) (tCons (tVar 2) tNil)) rfl nd (pi_str (pv 1)) (blkOk_by (N := NLLetters) (sc := defScope sLLetters) (by decide +kernel)) (fun _ _ _ _ _ => pg_name (i := 2) nd rfl (Or.inl rfl)) (fun _ _ _ _ _ => pts_nil)
      (fun _ _ _ _ _ => pe_bm PySem.F.plainAttrs_str PySem.F.slot_str_index PySem.F.type_str_index mt_sindex (pv 0) (pa_cons (pv 2) pa_nil)))), ?_⟩
    refine ⟨_, rfl, tx t, rfl, fun D hD => lc_it walk_str (fun i H' => Same H H' ∧ H' D = some (.lst ((lets L (t.take i)).map V.int))) ⟨same_new hD, by rw [upd_same]; rfl⟩ (fun _ _ _ _ => trivial) ?_ ?_⟩
    · rintro i y H1 H2 hi ⟨s1, hd⟩ ⟨rfl, c, hc, rfl⟩
      have hc' : t[i]? = some c := by simpa [tx] using hc
      have hcL : c ∈ L := tt c (List.mem_of_getElem? hc')
      obtain ⟨rest, ho⟩ := idx_occ al.asc hcL
      refine ⟨rfl, lcY ?_⟩
      refine ⟨_, rfl, rfl, _, rfl, tx L, ⟨#[c]⟩, L.idxOf c, rest, rfl, rfl, ho, _, hd, small_lt (by rw [List.length_map, lets_len, List.length_take]; omega), Same.mut s1 hD, ?_⟩
      rw [upd_same, lets_take hc']
      simp
    · rintro H1 ⟨s1, hd⟩
      have et : t.take (tx t).cps.size = t := List.take_of_length_le (by simp [tx])
      rw [et] at hd
      exact k H1 D s1 hd
/-! ### _law_is_proper -/
theorem eqv_rowL (R S : List Int) : PyData.eqv (.list (R.map .int)) (.list (S.map .int)) = decide (R = S) := by
  simp only [PyData.eqv, eqv_ints]
theorem sh_rowL (R : List Int) : SeqAt.shaped (.list (R.map .int)) = true := by
  unfold SeqAt.shaped
  simp [PyData.canLay0, PyData.depth, lay_ints, dep_ints]
def spLIsProper : Sp := fun vs H Q _ => ∃ (A : Txt) (ta pp b : Addr) (as : List Addr) (ps : List (Int × Int)) (p : Int × Int), vs = [vt A, .ref ta, .ref pp, .ref b] ∧ Alph A ∧ Proper A ps ∧ H ta = some (.lst ((txs A ps).map vt)) ∧ H pp = some (.lst (as.map V.ref)) ∧ PrsAt H as ps ∧ H b = some (pr2 p) ∧ ps.length ≤ 100 ∧
  ∀ (H' : Hp) (c : Bool), Same H H' → (c = true ↔ OkP A ps p) → Q (.bl c) H'
theorem ok_lIsProper (T : Wd K mg) : FnOk P w K mg base CX0 3 T.fLIsProper T.dLIsProper ["_law_alphabet_here", "_law_texts", "_law_pairs", "_law_pair"] spLIsProper := by
  have GS : FnOk P w K mg base CX0 2 T.fLStaged T.dLStaged ["_law_many", "_law_pairs", "_law_row"] spStaged := ok_staged T
  have GL : FnOk P w K mg base CX0 1 T.fLLetters T.dLLetters ["_law_alphabet_here", "_law_text"] spLetters := ok_letters T
  refine okD T.FLIsProper scLIsProper (fun vs H Q E h => ?_) (fun cdv A outer s H vs Q E hr h => ?_)
  · obtain ⟨A, ta, pp, b, as, ps, p, rfl, _⟩ := h
    rfl
  · obtain ⟨L, ta, pp, b, as, ps, p, rfl, al, pr, hta, hpp, hps, hb, hl, k⟩ := h
    have nd := scLIsProper.nd
    have hr1 : Room 1 _ := hr.mono (by decide)
    have l1 := al.l1
    refine ⟨_, pss_cons (ps_for PassesOwn.never rfl (pi_tup (pv 3)) (pg_name (i := 4) nd rfl (Or.inl rfl))
        (pss_one (ps_if (pt_not (pt_chain op_le op_lt pe_int (pv 4) (pe_callB call_len_seq (by rfl) T.no_len boot_len (pa_cons (pv 1) pa_nil)))) (pss_one (ps_ret pe_bl)) pss_nil)))
      (pss_cons (ps_set (i := 5) nd rfl (.inl rfl) (pe_op op_add_str (pe_ix ix_list (pv 1) (pe_ix ix_tup (pv 3) pe_int (fun _ _ => rfl)) (fun _ _ => rfl)) (pe_ix ix_list (pv 1) (pe_ix ix_tup (pv 3) pe_int (fun _ _ => rfl)) (fun _ _ => rfl))))
      (pss_cons (ps_if (pt_cmpR op_gt (pe_callB call_len_str (by rfl) T.no_len boot_len (pa_cons (pv 5) pa_nil)) pe_int (nomark _)) (pss_one (ps_ret pe_bl)) pss_nil)
      (pss_one (ps_ret (pe_cmpR (op_eqD hr.units) (pe_call GS hr (by rfl) T.gLStaged T.FLStaged.kp T.bLStaged .nil pass0 (pa_cons (pe_callB call_len_str (by rfl) T.no_len boot_len (pa_cons (pv 0) pa_nil)) (pa_cons (pv 2) (pa_cons (pe_call GL hr1 (by rfl) T.gLLetters T.FLLetters.kp T.bLLetters .nil pass0 (pa_cons (pv 0) (pa_cons (pv 5) pa_nil))) pa_nil))))
        (pe_lst (pa_cons (pe_ix ix_tup (pv 3) pe_int (fun _ _ => rfl)) (pa_cons (pe_ix ix_tup (pv 3) pe_int (fun _ _ => rfl)) pa_nil))) (nomark _)))))), ?_⟩
    have el : (((txs L ps).map vt).length : Int) = (L.length : Int) + ps.length := by rw [List.length_map, txs_len]; omega
    refine ⟨_, rfl, b, rfl, ⟨_, SqT.of hb⟩, for_tup (K := K) (a := b) (xs := [.int p.1, .int p.2]) (fun i σ H' => ∃ (v4 : Option V), σ = [some (vt L), some (.ref ta), some (.ref pp), some (.ref b), v4, none] ∧ H' = H ∧ (1 ≤ i → 0 ≤ p.1 ∧ p.1 < L.length + ps.length) ∧ (2 ≤ i → 0 ≤ p.2 ∧ p.2 < L.length + ps.length))
      ⟨_, rfl, rfl, fun h => absurd h (by decide), fun h => absurd h (by decide)⟩ (fun i σ H' _ ⟨_, _, e, _⟩ => by rw [e]; exact SqT.of hb) ?_ ?_⟩
    · rintro i y σ H1 hi ⟨v4, rfl, rfl, g1, g2⟩
      obtain ⟨z, rfl, hz1, hz2⟩ : ∃ z : Int, y = .int z ∧ (i = 0 → z = p.1) ∧ (i = 1 → z = p.2) ∧ i < 2 := by
        have h2 : i < 2 := (List.getElem?_eq_some_iff.mp hi).1
        have h3 : i = 0 ∨ i = 1 := by omega
        rcases h3 with rfl | rfl
        · exact ⟨p.1, (Option.some.inj hi).symm, fun _ => rfl, fun h => absurd h (by decide), h2⟩
        · exact ⟨p.2, (Option.some.inj hi).symm, fun h => absurd h (by decide), fun _ => rfl, h2⟩
      have bad : ¬ (0 ≤ z ∧ z < L.length + ps.length) → ¬ OkP L ps p := fun hn o => by
        have h3 : i = 0 ∨ i = 1 := by omega
        rcases h3 with h | h
        · rw [hz1 h] at hn
          exact hn ⟨o.l0, o.l1⟩
        · rw [hz2.1 h] at hn
          exact hn ⟨o.r0, o.r1⟩
      refine ⟨_, rfl, _, _, rfl, rfl, decide (0 ≤ z), rfl, ?_⟩
      by_cases c : 0 ≤ z
      · rw [decide_eq_true c]
        refine iteT ⟨_, rfl, ta, _, rfl, .inl (SqL.of hta), _, _, rfl, rfl, decide (z < L.length + ps.length), ?_, ?_⟩
        · refine congrArg V.bl (decide_eq_decide.mpr ?_)
          rw [el]
        by_cases c2 : z < L.length + ps.length
        · rw [decide_eq_true c2]
          refine iteF ⟨_, rfl, rfl, fun _ => ?_, fun h2 => ?_⟩
          · by_cases h : i = 0
            · rw [← hz1 h]
              exact ⟨c, c2⟩
            · exact g1 (by omega)
          · rw [← hz2.1 (by omega)]
            exact ⟨c, c2⟩
        · rw [decide_eq_false c2]
          exact iteT (k _ false (Same.refl _) ⟨fun h => Bool.noConfusion h, fun o => absurd o (bad fun q => c2 q.2)⟩)
      · rw [decide_eq_false c]
        exact iteF ⟨false, rfl, iteT (k _ false (Same.refl _) ⟨fun h => Bool.noConfusion h, fun o => absurd o (bad fun q => c q.1)⟩)⟩
    · rintro σ H1 ⟨v4, rfl, rfl, g1, g2⟩
      obtain ⟨a1, a2⟩ := g1 (by show 1 ≤ 2; decide)
      obtain ⟨a3, a4⟩ := g2 (by show 2 ≤ 2; decide)
      have t1 := pr.texts p.1 a1 a2
      have t2 := pr.texts p.2 a3 a4
      -- text
      refine ⟨_, rfl, _, rfl, b, _, 0, .int p.1, rfl, rfl, SqT.of hb, rfl, ta, _, p.1, _, rfl, rfl, SqL.of hta, at_txt a1 (by rw [txs_len]; omega), ?_⟩
      refine ⟨_, rfl, _, rfl, b, _, 1, .int p.2, rfl, rfl, SqT.of hb, rfl, ta, _, p.2, _, rfl, rfl, SqL.of hta, at_txt a3 (by rw [txs_len]; omega), ?_⟩
      have tt : ∀ c ∈ tat (txs L ps) p.1 ++ tat (txs L ps) p.2, c ∈ L := fun c hc => (List.mem_append.mp hc).elim (t1.1 c) (t2.1 c)
      have tl : (tat (txs L ps) p.1 ++ tat (txs L ps) p.2).length ≤ 80 := by rw [List.length_append]; omega
      refine ⟨_, _, rfl, rfl, by rw [tx_len, tx_len, ← List.length_append]; exact small_line (by omega), ?_⟩
      rw [tx_app]
      refine ⟨_, rfl, _, rfl, by rw [tx_len]; exact small_line (by omega), _, _, rfl, rfl, decide ((tat (txs L ps) p.1 ++ tat (txs L ps) p.2).length > 40), ?_, ?_⟩
      · refine congrArg V.bl (decide_eq_decide.mpr ?_)
        rw [tx_len]
        omega
      by_cases c : (tat (txs L ps) p.1 ++ tat (txs L ps) p.2).length > 40
      · rw [decide_eq_true c]
        exact iteT (k _ false (Same.refl _) ⟨fun h => Bool.noConfusion h, fun o => absurd o.len (by omega)⟩)
      · rw [decide_eq_false c]
        refine iteF ⟨_, rfl, tx L, rfl, by rw [tx_len]; exact small_line (by omega), _, rfl, _, rfl, _, rfl, L, _, rfl, al, tt, by omega, fun H2 q s2 hq => ?_⟩
        refine ⟨pp, q, as, ps, lets L (tat (txs L ps) p.1 ++ tat (txs L ps) p.2), (L.length : Int), by rw [tx_len]; rfl, s2 _ _ hpp, hps.mono fun c xs e => s2 _ _ e, hq, by rw [lets_len]; omega, by omega, fun H3 r s3 hr3 => ?_⟩
        have hb3 := s3 _ _ (s2 _ _ hb)
        refine ⟨_, rfl, b, _, 0, .int p.1, rfl, rfl, SqT.of hb3, rfl, _, rfl, b, _, 1, .int p.2, rfl, rfl, SqT.of hb3, rfl, (by show 2 ≤ sizeLine; decide), fun u hu => ?_⟩
        have s4 : Same H3 (upd H3 u (.lst [.int p.1, .int p.2])) := same_new hu
        refine ⟨.list ((stg L.length ps (lets L (tat (txs L ps) p.1 ++ tat (txs L ps) p.2))).map PyData.int), .list (([p.1, p.2] : List Int).map PyData.int), .lst (SqL.of (s4 _ _ hr3)) (dp_all _), .lst (SqL.of upd_same) (dp_all [p.1, p.2]), sh_rowL _, sh_rowL _, ?_⟩
        rw [eqv_rowL]
        refine k _ _ ((s2.trans s3).trans s4) ⟨fun h => ⟨a1, a2, a3, a4, by omega, of_decide_eq_true h⟩, fun o => decide_eq_true o.cut⟩
end
end Rj
end
section
set_option Elab.async false
set_option linter.all false
set_option maxRecDepth 100000
set_option maxHeartbeats 4000000
/-! _law_list. -/
namespace Rj
open PySem PySem.Spec PyProof.Rows L2 LamX
theorem iteB {b : Bool} {A B : Prop} (ha : A) (hb : B) : if b = true then A else B := by
  cases b
  · exact iteF hb
  · exact iteT ha
section
variable {P : Program} {w : World} {K : PySem.W.Frag} {mg : Str → Option Value} {base : Heap}
/-- a drawn list: its pairs at pp, its texts at ta -/
def Drawn (H : Hp) (q : Addr) (A : Txt) (ps : List (Int × Int)) : Prop := ∃ (pp ta : Addr) (as : List Addr), H q = some (.tup [.ref pp, .ref ta]) ∧ H pp = some (.lst (as.map V.ref)) ∧ PrsAt H as ps ∧ H ta = some (.lst ((txs A ps).map vt)) ∧ Proper A ps
def spList : Sp := fun vs H Q _ => ∃ (nq : Addr) (ns : List Int) (k m : Int) (A : Txt), vs = [.ref nq, .int k, vt A, .int m] ∧ H nq = some (.lst (ns.map V.int)) ∧ Smalls ns ∧ Alph A ∧ 0 ≤ k ∧ 0 ≤ m ∧ m ≤ 50 ∧ k + 2 * m ≤ ns.length ∧
  ∀ (H' : Hp) (q : Addr) (ps : List (Int × Int)), Same H H' → Drawn H' q A ps → ps.length ≤ m → Q (.ref q) H'
theorem ok_list (T : Wd K mg) : FnOk P w K mg base CX0 4 T.fLList T.dLList ["_law_numbers_here", "_law_k", "_law_alphabet_here", "_law_many"] spList := by
  have GP : FnOk P w K mg base CX0 3 T.fLIsProper T.dLIsProper ["_law_alphabet_here", "_law_texts", "_law_pairs", "_law_pair"] spLIsProper := ok_lIsProper T
  refine okD T.FLList scLList (fun vs H Q E h => ?_) (fun cdv A outer s H vs Q E hr h => ?_)
  · obtain ⟨nq, ns, k, m, A, rfl, _⟩ := h
    rfl
  · obtain ⟨nq, ns, k, m, L, rfl, hnq, sm, al, k0, m0, m1, kl, cont⟩ := h
    have nd := scLList.nd
    have l0 := al.l0
    have l1 := al.l1
    refine ⟨_, (pss_cons (ps_set (i := 4) nd rfl (.inl rfl) (pe_lst pa_nil)) (pss_cons (ps_set (i := 5) nd rfl (.inl rfl) (pe_callTy (call_listS rfl) (by rfl) T.no_list (by decide +kernel) (pa_cons (pv 2) pa_nil))) (pss_cons (ps_for PassesOwn.never rfl (pi_range1 rfl T.no_range (pa_cons (pv 3) pa_nil)) (pg_name (i := 6) nd rfl (Or.inl rfl)) (C8.pss_cut (ps_set (i := 7) nd rfl (.inl rfl) (pe_tup (pa_cons (pe_op op_mod (pe_callTy call_int1 (by rfl) T.no_int (by decide +kernel) (pa_cons (pe_ix ix_list (pv 0) (pe_op op_add (pv 1) (pe_op op_mul pe_int (pv 6))) (fun _ _ => rfl)) pa_nil)) (pe_callB call_len_seq (by rfl) T.no_len boot_len (pa_cons (pv 5) pa_nil))) (pa_cons (pe_op op_mod (pe_callTy call_int1 (by rfl) T.no_int (by decide +kernel) (pa_cons (pe_ix ix_list (pv 0) (pe_op op_add (pe_op op_add (pv 1) (pe_op op_mul pe_int (pv 6))) pe_int) (fun _ _ => rfl)) pa_nil)) (pe_callB call_len_seq (by rfl) T.no_len boot_len (pa_cons (pv 5) pa_nil))) pa_nil)))) (C8.pss_cut (ps_if (pt_cmpR op_eq (pe_op op_mod (pe_callTy call_int1 (by rfl) T.no_int (by decide +kernel) (pa_cons (pe_op op_fdiv (pe_ix ix_list (pv 0) (pe_op op_add (pv 1) (pe_op op_mul pe_int (pv 6))) (fun _ _ => rfl)) pe_int) pa_nil)) pe_int) pe_int (nomark _)) (pss_one (ps_set (i := 7) nd rfl (.inl rfl) (pe_tup (pa_cons (pe_op op_sub (pe_op op_sub (pe_callB call_len_seq (by rfl) T.no_len boot_len (pa_cons (pv 5) pa_nil)) pe_int) (pe_op op_mod (pe_callTy call_int1 (by rfl) T.no_int (by decide +kernel) (pa_cons (pe_ix ix_list (pv 0) (pe_op op_add (pv 1) (pe_op op_mul pe_int (pv 6))) (fun _ _ => rfl)) pa_nil)) (pe_callB (call_min2 rfl) (by rfl) T.no_min (by decide +kernel) (pa_cons pe_int (pa_cons (pe_callB call_len_seq (by rfl) T.no_len boot_len (pa_cons (pv 5) pa_nil)) pa_nil))))) (pa_cons (pe_ix ix_tup (pv 7) pe_int (fun _ _ => rfl)) pa_nil))))) pss_nil) (C8.pss_cut (ps_if (pt_cmpR op_eq (pe_op op_mod (pe_callTy call_int1 (by rfl) T.no_int (by decide +kernel) (pa_cons (pe_op op_fdiv (pe_ix ix_list (pv 0) (pe_op op_add (pe_op op_add (pv 1) (pe_op op_mul pe_int (pv 6))) pe_int) (fun _ _ => rfl)) pe_int) pa_nil)) pe_int) pe_int (nomark _)) (pss_one (ps_set (i := 7) nd rfl (.inl rfl) (pe_tup (pa_cons (pe_ix ix_tup (pv 7) pe_int (fun _ _ => rfl)) (pa_cons (pe_op op_sub (pe_op op_sub (pe_callB call_len_seq (by rfl) T.no_len boot_len (pa_cons (pv 5) pa_nil)) pe_int) (pe_op op_mod (pe_callTy call_int1 (by rfl) T.no_int (by decide +kernel) (pa_cons (pe_ix ix_list (pv 0) (pe_op op_add (pe_op op_add (pv 1) (pe_op op_mul pe_int (pv 6))) pe_int) (fun _ _ => rfl)) pa_nil)) (pe_callB (call_min2 rfl) (by rfl) T.no_min (by decide +kernel) (pa_cons pe_int (pa_cons (pe_callB call_len_seq (by rfl) T.no_len boot_len (pa_cons (pv 5) pa_nil)) pa_nil))))) pa_nil))))) pss_nil) (pss_one (ps_if (pt_val (pe_call GP hr (by rfl) T.gLIsProper T.FLIsProper.kp T.bLIsProper .nil pass0 (pa_cons (pv 2) (pa_cons (pv 5) (pa_cons (pv 4) (pa_cons (pv 7) pa_nil)))))) (pss_cons (ps_expr (pe_bm PySem.F.plainAttrs_list PySem.F.slot_list_append PySem.F.type_list_append mt_append (pv 4) (pa_cons (pv 7) pa_nil))) (pss_one (ps_expr (pe_bm PySem.F.plainAttrs_list PySem.F.slot_list_append PySem.F.type_list_append mt_append (pv 5) (pa_cons (pe_op op_add_str (pe_ix ix_list (pv 5) (pe_ix ix_tup (pv 7) pe_int (fun _ _ => rfl)) (fun _ _ => rfl)) (pe_ix ix_list (pv 5) (pe_ix ix_tup (pv 7) pe_int (fun _ _ => rfl)) (fun _ _ => rfl))) pa_nil))))) pss_nil)))))) (pss_one (ps_ret (pe_tup (pa_cons (pv 4) (pa_cons (pv 5) pa_nil)))))))), ?_⟩
    refine ⟨Nat.zero_le _, fun pp hpp => ?_⟩
    refine ⟨_, rfl, tx L, rfl, by rw [tx_len]; exact small_line (by omega), fun ta hta => ?_⟩
    have npt : pp ≠ ta := ne_of_none (H := upd H pp (.lst [])) upd_same hta
    have el : ((tx L).cps.toList.map fun c => V.str ⟨#[c]⟩) = (txs L []).map vt := by rw [txs_nil_v]; simp [tx]
    rw [el]
    have hta0 : H ta = none := by
      have := hta
      rw [upd_ne (Ne.symm npt)] at this
      exact this
    refine ⟨_, rfl, m, rfl, by omega, by omega, for_range (lo := 0) (n := m.toNat) (fun i σ H' => ∃ (v6 v7 : Option V) (as : List Addr) (ps : List (Int × Int)), σ = [some (.ref nq), some (.int k), some (vt L), some (.int m), some (.ref pp), some (.ref ta), v6, v7] ∧ Same H H' ∧ H' pp = some (.lst (as.map V.ref)) ∧ PrsAt H' as ps ∧ H' ta = some (.lst ((txs L ps).map vt)) ∧ Proper L ps ∧ ps.length ≤ i)
      ⟨_, _, [], [], rfl, (same_new hpp).trans (same_new hta), by rw [upd_ne npt]; exact upd_same, .nil, upd_same, Proper.nil, Nat.le_refl _⟩ ?_ ?_⟩
    · rintro i σ H1 hi ⟨v6, v7, as, ps, rfl, s1, hp1, hps, ht1, pr, pl⟩
      obtain ⟨n0, hn0, _, _⟩ := num_at sm (i := k + 2 * (0 + (i : Int))) (by omega) (by omega)
      obtain ⟨n1, hn1, _, _⟩ := num_at sm (i := k + 2 * (0 + (i : Int)) + 1) (by omega) (by omega)
      have tl : ((txs L ps).map vt).length = L.length + ps.length := by rw [List.length_map, txs_len]
      have hpos : (0 : Int) < (((txs L ps).map vt).length : Int) := by rw [tl]; omega
      have hmin : (0 : Int) < (if (((txs L ps).map vt).length : Int) < 3 then (((txs L ps).map vt).length : Int) else 3) := by split <;> omega
      have hq1 := s1 _ _ hnq
      have two : 2 ≤ sizeLine := by decide
      let Mid : L2.St → Hp → Prop := fun σ' H' => ∃ (x y : Int) (u : Addr), σ' = [some (.ref nq), some (.int k), some (vt L), some (.int m), some (.ref pp), some (.ref ta), some (.int (0 + (i : Int))), some (.ref u)] ∧ Same H1 H' ∧ H' u = some (pr2 (x, y))
      refine ⟨Mid, ?_, ?_⟩
      · exact ⟨_, rfl, _, rfl, _, rfl, _, _, rfl, rfl, .inl ⟨by decide, by decide⟩, _, _, rfl, rfl, nq, _, _, _, rfl, rfl, SqL.of hq1, hn0, .inl ⟨_, rfl, _, rfl, ta, _, rfl, .inl (SqL.of ht1), _, _, rfl, rfl, hpos, _, rfl, _, rfl, _, rfl, _, _, rfl, rfl, .inl ⟨by decide, by decide⟩, _, _, rfl, rfl, _, _, rfl, rfl, nq, _, _, _, rfl, rfl, SqL.of hq1, hn1, .inl ⟨_, rfl, _, rfl, ta, _, rfl, .inl (SqL.of ht1), _, _, rfl, rfl, hpos, two, fun u hu => ⟨_, _, u, rfl, same_new hu, upd_same⟩⟩⟩⟩
      rintro σ' H2 ⟨x, y, u, rfl, s2, hu2⟩
      refine ⟨Mid, ?_, ?_⟩
      · have hq2 := s2 _ _ hq1
        have ht2 := s2 _ _ ht1
        refine ⟨_, rfl, _, rfl, _, rfl, _, _, rfl, rfl, .inl ⟨by decide, by decide⟩, _, _, rfl, rfl, nq, _, _, _, rfl, rfl, SqL.of hq2, hn0, _, _, rfl, rfl, ⟨by decide, by decide⟩, .inl ⟨_, rfl, _, _, rfl, rfl, (by show (0 : Int) < 3; decide), rfl, _, rfl, iteB ?_ ?_⟩⟩
        · exact ⟨_, rfl, ta, _, rfl, .inl (SqL.of ht2), _, _, rfl, rfl, _, rfl, _, rfl, _, rfl, _, _, rfl, rfl, .inl ⟨by decide, by decide⟩, _, _, rfl, rfl, nq, _, _, _, rfl, rfl, SqL.of hq2, hn0, .inl ⟨_, rfl, _, rfl, ta, _, rfl, .inl (SqL.of ht2), _, _, rfl, _, _, rfl, rfl, hmin, _, _, rfl, rfl, _, rfl, u, _, 1, .int y, rfl, rfl, SqT.of hu2, rfl, two, fun z hz => ⟨_, _, z, rfl, s2.trans (same_new hz), upd_same⟩⟩⟩
        · exact ⟨x, y, u, rfl, s2, hu2⟩
      clear hu2 s2 H2
      rintro σ' H2 ⟨x, y, u, rfl, s2, hu2⟩
      refine ⟨Mid, ?_, ?_⟩
      · have hq2 := s2 _ _ hq1
        have ht2 := s2 _ _ ht1
        refine ⟨_, rfl, _, rfl, _, rfl, _, _, rfl, rfl, .inl ⟨by decide, by decide⟩, _, _, rfl, rfl, _, _, rfl, rfl, nq, _, _, _, rfl, rfl, SqL.of hq2, hn1, _, _, rfl, rfl, ⟨by decide, by decide⟩, .inl ⟨_, rfl, _, _, rfl, rfl, (by show (0 : Int) < 3; decide), rfl, _, rfl, iteB ?_ ?_⟩⟩
        · exact ⟨_, rfl, u, _, 0, .int x, rfl, rfl, SqT.of hu2, rfl, _, rfl, ta, _, rfl, .inl (SqL.of ht2), _, _, rfl, rfl, _, rfl, _, rfl, _, rfl, _, _, rfl, rfl, .inl ⟨by decide, by decide⟩, _, _, rfl, rfl, _, _, rfl, rfl, nq, _, _, _, rfl, rfl, SqL.of hq2, hn1, .inl ⟨_, rfl, _, rfl, ta, _, rfl, .inl (SqL.of ht2), _, _, rfl, _, _, rfl, rfl, hmin, _, _, rfl, rfl, two, fun z hz => ⟨_, _, z, rfl, s2.trans (same_new hz), upd_same⟩⟩⟩
        · exact ⟨x, y, u, rfl, s2, hu2⟩
      clear hu2 s2 H2
      rintro σ' H2 ⟨x, y, u, rfl, s2, hu2⟩
      -- is_proper
      refine ⟨_, rfl, _, rfl, _, rfl, _, rfl, L, ta, pp, u, as, ps, (x, y), rfl, al, pr, s2 _ _ ht1, s2 _ _ hp1, hps.mono fun b xs e => s2 _ _ e, hu2, by omega, fun H3 c s3 hc => ⟨c, rfl, ?_⟩⟩
      have s23 := s2.trans s3
      have hp3 := s23 _ _ hp1
      have ht3 := s23 _ _ ht1
      have hu3 := s3 _ _ hu2
      have hps3 : PrsAt H3 as ps := hps.mono fun b xs e => s23 _ _ e
      cases c with
      | false => exact iteF ⟨_, _, as, ps, rfl, s1.trans s23, hp3, hps3, ht3, pr, by omega⟩
      | true =>
        have o : OkP L ps (x, y) := hc.mp rfl
        have ol0 := o.l0
        have ol1 := o.l1
        have or0 := o.r0
        have or1 := o.r1
        have ln : (tat (txs L ps) x ++ tat (txs L ps) y).length ≤ 40 := o.len
        have al' : (as.map V.ref).length = ps.length := by rw [List.length_map, hps.len]
        have nup : u ≠ pp := ne_of hu3 hp3 (by intro z; cases z)
        have nut : u ≠ ta := ne_of hu3 ht3 (by intro z; cases z)
        refine iteT ⟨_, rfl, .inl ⟨rfl, _, SqL.of hp3⟩, _, rfl, pp, _, _, rfl, rfl, hp3, small_lt (by rw [al']; omega), ?_⟩
        have ht4 : (upd H3 pp (.lst (as.map V.ref ++ [.ref u]))) ta = some (.lst ((txs L ps).map vt)) := by rw [upd_ne (Ne.symm npt)]; exact ht3
        have hu4 : (upd H3 pp (.lst (as.map V.ref ++ [.ref u]))) u = some (pr2 (x, y)) := by rw [upd_ne nup]; exact hu3
        refine ⟨_, rfl, .inl ⟨rfl, _, SqL.of ht4⟩, _, rfl, _, rfl, u, _, 0, .int x, rfl, rfl, SqT.of hu4, rfl, ta, _, x, _, rfl, rfl, SqL.of ht4, at_txt ol0 (by rw [txs_len]; omega), _, rfl, _, rfl, u, _, 1, .int y, rfl, rfl, SqT.of hu4, rfl, ta, _, y, _, rfl, rfl, SqL.of ht4, at_txt or0 (by rw [txs_len]; omega), _, _, rfl, rfl, by rw [tx_len, tx_len, ← List.length_append]; exact small_line (by omega), ta, _, _, rfl, rfl, ht4, small_lt (by rw [tl]; omega), ?_⟩
        rw [tx_app]
        have tupP : ∀ b xs, H3 b = some (.tup xs) → b ≠ pp := fun b xs e => ne_of e hp3 (by intro z; cases z)
        have tupT : ∀ b xs, H3 b = some (.tup xs) → b ≠ ta := fun b xs e => ne_of e ht3 (by intro z; cases z)
        refine ⟨_, _, as ++ [u], ps ++ [(x, y)], rfl, Same.mut (Same.mut (s1.trans s23) hpp) hta0, by rw [upd_ne npt, upd_same]; simp, PrsAt.snoc (hps3.mono fun b xs e => by rw [upd_ne (tupT b xs e), upd_ne (tupP b xs e)]; exact e) (by rw [upd_ne nut]; exact hu4), ?_, pr.snoc o, by rw [List.length_append]; show ps.length + 1 ≤ _; omega⟩
        rw [upd_same, txs_snoc]
        simp
    · rintro σ H1 ⟨v6, v7, as, ps, rfl, s1, hp1, hps, ht1, pr, pl⟩
      refine ⟨_, rfl, _, rfl, (by show 2 ≤ sizeLine; decide), fun q hq => cont _ q ps (s1.add hq) ⟨pp, ta, as, upd_same, same_new hq _ _ hp1, hps.mono fun b xs e => same_new hq _ _ e, same_new hq _ _ ht1, pr⟩ (by omega)⟩
end
end Rj
end
section
set_option Elab.async false
set_option linter.all false
set_option maxRecDepth 100000
set_option maxHeartbeats 4000000
/-! _law_runs. -/
namespace Rj
open PySem PySem.Spec PyProof.Rows L2 LamX
theorem rg_ints {a b c d : Int} {i : Nat} {x : V} (h : (rgV a b ++ rgV c d)[i]? = some x) : ∃ z : Int, x = .int z := by
  have hm := List.mem_of_getElem? h
  rcases List.mem_append.mp hm with z | z
  · obtain ⟨t, _, rfl⟩ := List.mem_map.mp z
    exact ⟨_, rfl⟩
  · obtain ⟨t, _, rfl⟩ := List.mem_map.mp z
    exact ⟨_, rfl⟩
section
variable {P : Program} {w : World} {K : PySem.W.Frag} {mg : Str → Option Value} {base : Heap}
def spRuns : Sp := fun vs H Q _ => ∃ (nq : Addr) (ns : List Int) (m : Int) (A : Txt), vs = [.ref nq, vt A, .int m] ∧ H nq = some (.lst (ns.map V.int)) ∧ Smalls ns ∧ Alph A ∧ A.length = 1 ∧ 0 ≤ m ∧ m ≤ 20 ∧ 50 ≤ ns.length ∧
  ∀ (H' : Hp) (q : Addr) (ps : List (Int × Int)), Same H H' → Drawn H' q A ps → ps.length ≤ m → Q (.ref q) H'
theorem ok_runs (T : Wd K mg) : FnOk P w K mg base CX0 4 T.fLRuns T.dLRuns ["_law_numbers_here", "_law_alphabet_here", "_law_many"] spRuns := by
  have GP : FnOk P w K mg base CX0 3 T.fLIsProper T.dLIsProper ["_law_alphabet_here", "_law_texts", "_law_pairs", "_law_pair"] spLIsProper := ok_lIsProper T
  refine okD T.FLRuns scLRuns (fun vs H Q E h => ?_) (fun cdv A outer s H vs Q E hr h => ?_)
  · obtain ⟨nq, ns, m, A, rfl, _⟩ := h
    rfl
  · obtain ⟨nq, ns, m, L, rfl, hnq, sm, al, le1, m0, m1, kl, cont⟩ := h
    have nd := scLRuns.nd
    refine ⟨_, (pss_cons (ps_set (i := 3) nd rfl (.inl rfl) (pe_lst pa_nil)) (pss_cons (ps_set (i := 4) nd rfl (.inl rfl) (pe_lst (pa_cons (pv 1) pa_nil))) (pss_cons (ps_for PassesOwn.never rfl (pi_range1 rfl T.no_range (pa_cons (pv 2) pa_nil)) (pg_name (i := 5) nd rfl (Or.inl rfl)) (pss_cons (ps_set (i := 6) nd rfl (.inl rfl) (pe_op op_mod (pe_callTy call_int1 (by rfl) T.no_int (by decide +kernel) (pa_cons (pe_ix ix_list (pv 0) (pe_op op_add pe_int (pv 5)) (fun _ _ => rfl)) pa_nil)) (pe_callB call_len_seq (by rfl) T.no_len boot_len (pa_cons (pv 4) pa_nil)))) (pss_cons (ps_set (i := 7) nd rfl (.inl rfl) pe_int) (C8.pss_cut (ps_if (pt_cmpR op_eq (pe_op op_mod (pe_callTy call_int1 (by rfl) T.no_int (by decide +kernel) (pa_cons (pe_op op_fdiv (pe_ix ix_list (pv 0) (pe_op op_add pe_int (pv 5)) (fun _ _ => rfl)) pe_int) pa_nil)) pe_int) pe_int (nomark _)) (pss_one (ps_set (i := 7) nd rfl (.inl rfl) (pe_op op_mod (pe_callTy call_int1 (by rfl) T.no_int (by decide +kernel) (pa_cons (pe_ix ix_list (pv 0) (pe_op op_add pe_int (pv 5)) (fun _ _ => rfl)) pa_nil)) (pe_callB call_len_seq (by rfl) T.no_len boot_len (pa_cons (pv 4) pa_nil))))) pss_nil) (pss_one (ps_for PassesOwn.never rfl (pi_list (pe_op op_cat (pe_listRg rfl (by rfl) T.no_list (prg_2 (by rfl) T.no_range (pv 7) (pe_callB call_len_seq (by rfl) T.no_len boot_len (pa_cons (pv 4) pa_nil)))) (pe_listRg rfl (by rfl) T.no_list (prg_1 (by rfl) T.no_range (pv 7))))) (pg_name (i := 8) nd rfl (Or.inl rfl)) (pss_one (ps_if (pt_val (pe_call GP hr (by rfl) T.gLIsProper T.FLIsProper.kp T.bLIsProper .nil pass0 (pa_cons (pv 1) (pa_cons (pv 4) (pa_cons (pv 3) (pa_cons (pe_tup (pa_cons (pv 6) (pa_cons (pv 8) pa_nil))) pa_nil)))))) (pss_cons (ps_expr (pe_bm PySem.F.plainAttrs_list PySem.F.slot_list_append PySem.F.type_list_append mt_append (pv 3) (pa_cons (pe_tup (pa_cons (pv 6) (pa_cons (pv 8) pa_nil))) pa_nil))) (pss_cons (ps_expr (pe_bm PySem.F.plainAttrs_list PySem.F.slot_list_append PySem.F.type_list_append mt_append (pv 4) (pa_cons (pe_op op_add_str (pe_ix ix_list (pv 4) (pv 6) (fun _ _ => rfl)) (pe_ix ix_list (pv 4) (pv 8) (fun _ _ => rfl))) pa_nil))) (pss_one ps_break))) pss_nil)))))))) (pss_one (ps_ret (pe_tup (pa_cons (pv 3) (pa_cons (pv 4) pa_nil)))))))), ?_⟩
    refine ⟨Nat.zero_le _, fun pp hpp => ?_⟩
    refine ⟨_, rfl, (by show 1 ≤ sizeLine; decide), fun ta hta => ?_⟩
    have npt : pp ≠ ta := ne_of_none (H := upd H pp (.lst [])) upd_same hta
    have el : ([vt L] : List V) = (txs L []).map vt := by
      rw [txs_nil_v]
      match L, le1 with
      | [c], _ => rfl
    have hta0 : H ta = none := by
      have := hta
      rw [upd_ne (Ne.symm npt)] at this
      exact this
    refine ⟨_, rfl, m, rfl, by omega, by omega, for_range (lo := 0) (n := m.toNat) (fun i σ H' => ∃ (v5 v6 v7 v8 : Option V) (as : List Addr) (ps : List (Int × Int)), σ = [some (.ref nq), some (vt L), some (.int m), some (.ref pp), some (.ref ta), v5, v6, v7, v8] ∧ Same H H' ∧ H' pp = some (.lst (as.map V.ref)) ∧ PrsAt H' as ps ∧ H' ta = some (.lst ((txs L ps).map vt)) ∧ Proper L ps ∧ ps.length ≤ i)
      ⟨_, _, _, _, [], [], rfl, (same_new hpp).trans (same_new hta), by rw [upd_ne npt]; exact upd_same, .nil, by rw [← el]; exact upd_same, Proper.nil, Nat.le_refl _⟩ ?_ ?_⟩
    · rintro i σ H1 hi ⟨v5, v6, v7, v8, as, ps, rfl, s1, hp1, hps, ht1, pr, pl⟩
      obtain ⟨n0, hn0, _, _⟩ := num_at sm (i := 10 + (0 + (i : Int))) (by omega) (by omega)
      obtain ⟨n1, hn1, _, _⟩ := num_at sm (i := 30 + (0 + (i : Int))) (by omega) (by omega)
      have tl : ((txs L ps).map vt).length = L.length + ps.length := by rw [List.length_map, txs_len]
      have hpos : (0 : Int) < (((txs L ps).map vt).length : Int) := by rw [tl]; omega
      have hq1 := s1 _ _ hnq
      have two : 2 ≤ sizeLine := by decide
      -- left, first
      refine ⟨_, rfl, _, rfl, _, _, rfl, rfl, nq, _, _, _, rfl, rfl, SqL.of hq1, hn0, .inl ⟨_, rfl, _, rfl, ta, _, rfl, .inl (SqL.of ht1), _, _, rfl, rfl, hpos, ?_⟩⟩
      let Mid : L2.St → Hp → Prop := fun σ' H' => ∃ (x y : Int), σ' = [some (.ref nq), some (vt L), some (.int m), some (.ref pp), some (.ref ta), some (.int (0 + (i : Int))), some (.int x), some (.int y), v8] ∧ H' = H1 ∧ 0 ≤ y ∧ y < (((txs L ps).map vt).length : Int)
      refine ⟨Mid, ?_, ?_⟩
      · refine ⟨_, rfl, _, rfl, _, _, rfl, rfl, nq, _, _, _, rfl, rfl, SqL.of hq1, hn0, _, _, rfl, rfl, ⟨by decide, by decide⟩, .inl ⟨_, rfl, _, _, rfl, rfl, (by show (0 : Int) < 2; decide), rfl, _, rfl, iteB ?_ ?_⟩⟩
        · exact ⟨_, rfl, _, rfl, _, _, rfl, rfl, nq, _, _, _, rfl, rfl, SqL.of hq1, hn1, .inl ⟨_, rfl, _, rfl, ta, _, rfl, .inl (SqL.of ht1), _, _, rfl, rfl, hpos, _, _, rfl, rfl, Int.emod_nonneg _ (by omega), Int.emod_lt_of_pos _ hpos⟩⟩
        · exact ⟨_, 0, rfl, rfl, Int.le_refl _, hpos⟩
      rintro σ' H2 ⟨x, y, rfl, rfl, y0, y1⟩
      rw [tl] at y1
      -- the loop over right
      refine ⟨_, rfl, _, rfl, ta, _, rfl, .inl (SqL.of ht1), _, _, rfl, rfl, RgOk.of_le y0 (by rw [tl]; omega) (by omega) (by omega), fun q1 hq1' => ?_⟩
      refine ⟨_, rfl, _, rfl, RgOk.of_le (by decide) (by omega) (by decide) y0, fun q2 hq2' => ?_⟩
      have n12 : q1 ≠ q2 := ne_of_none (o := .lst (rgV y (((txs L ps).map vt).length : Int))) upd_same hq2'
      refine ⟨q1, q2, _, _, rfl, rfl, by rw [upd_ne n12]; exact upd_same, upd_same, ?_, fun q3 hq3 => ?_⟩
      · rw [rgV_length, rgV_length, tl]
        exact small_line (by omega)
      have s4 : Same H2 (upd (upd (upd H2 q1 (.lst (rgV y (((txs L ps).map vt).length : Int)))) q2 (.lst (rgV 0 y))) q3 (.lst (rgV y (((txs L ps).map vt).length : Int) ++ rgV 0 y))) := (same_new hq1').trans ((same_new hq2').trans (same_new hq3))
      have hq4 : (upd (upd (upd H2 q1 (.lst (rgV y (((txs L ps).map vt).length : Int)))) q2 (.lst (rgV 0 y))) q3 (.lst (rgV y (((txs L ps).map vt).length : Int) ++ rgV 0 y))) q3 = some (.lst (rgV y (((txs L ps).map vt).length : Int) ++ rgV 0 y)) := upd_same
      generalize (upd (upd (upd H2 q1 (.lst (rgV y (((txs L ps).map vt).length : Int)))) q2 (.lst (rgV 0 y))) q3 (.lst (rgV y (((txs L ps).map vt).length : Int) ++ rgV 0 y))) = H4 at s4 hq4
      refine ⟨q3, rfl, ⟨_, SqL.of hq4⟩, for_list (xs := rgV y (((txs L ps).map vt).length : Int) ++ rgV 0 y) (fun t σ H' => ∃ (v8 : Option V), σ = [some (.ref nq), some (vt L), some (.int m), some (.ref pp), some (.ref ta), some (.int (0 + (i : Int))), some (.int x), some (.int y), v8] ∧ Same H4 H')
        ⟨_, rfl, Same.refl _⟩ (fun t σ H' _ ⟨_, _, s5⟩ => SqL.of (s5 _ _ hq4)) ?_ ?_⟩
      · rintro t z σ H5 ht ⟨v8, rfl, s5⟩
        obtain ⟨r, rfl⟩ := rg_ints ht
        have s25 := s4.trans s5
        -- is_proper
        refine ⟨_, rfl, _, rfl, _, rfl, _, rfl, _, rfl, two, fun u hu => ?_⟩
        have s6 := same_new (o := .tup [.int x, .int r]) hu
        have s26 := s25.trans s6
        refine ⟨L, ta, pp, u, as, ps, (x, r), rfl, al, pr, s26 _ _ ht1, s26 _ _ hp1, hps.mono fun b xs e => s26 _ _ e, upd_same, by omega, fun H7 c s7 hc => ⟨c, rfl, ?_⟩⟩
        have s27 := s26.trans s7
        have s57 := s5.trans (s6.trans s7)
        have hp3 := s27 _ _ hp1
        have ht3 := s27 _ _ ht1
        have hps3 : PrsAt H7 as ps := hps.mono fun b xs e => s27 _ _ e
        cases c with
        | false => exact iteF ⟨_, rfl, s57⟩
        | true =>
          have o : OkP L ps (x, r) := hc.mp rfl
          have ol0 := o.l0
          have ol1 := o.l1
          have or0 := o.r0
          have or1 := o.r1
          have ln : (tat (txs L ps) x ++ tat (txs L ps) r).length ≤ 40 := o.len
          have al' : (as.map V.ref).length = ps.length := by rw [List.length_map, hps.len]
          refine iteT ⟨_, rfl, .inl ⟨rfl, _, SqL.of hp3⟩, _, rfl, _, rfl, two, fun u2 hu2 => ?_⟩
          have npu : pp ≠ u2 := ne_of_none hp3 hu2
          have ntu : ta ≠ u2 := ne_of_none ht3 hu2
          refine ⟨pp, _, _, rfl, rfl, by rw [upd_ne npu]; exact hp3, small_lt (by rw [al']; omega), ?_⟩
          have ht4 : (upd (upd H7 u2 (.tup [.int x, .int r])) pp (.lst (as.map V.ref ++ [.ref u2]))) ta = some (.lst ((txs L ps).map vt)) := by rw [upd_ne (Ne.symm npt), upd_ne ntu]; exact ht3
          refine ⟨_, rfl, .inl ⟨rfl, _, SqL.of ht4⟩, _, rfl, _, rfl, ta, _, x, _, rfl, rfl, SqL.of ht4, at_txt ol0 (by rw [txs_len]; omega), _, rfl, _, rfl, ta, _, r, _, rfl, rfl, SqL.of ht4, at_txt or0 (by rw [txs_len]; omega), _, _, rfl, rfl, by rw [tx_len, tx_len, ← List.length_append]; exact small_line (by omega), ta, _, _, rfl, rfl, ht4, small_lt (by rw [tl]; omega), ?_⟩
          rw [tx_app]
          have tupP : ∀ b xs, H7 b = some (.tup xs) → b ≠ pp := fun b xs e => ne_of e hp3 (by intro z; cases z)
          have tupT : ∀ b xs, H7 b = some (.tup xs) → b ≠ ta := fun b xs e => ne_of e ht3 (by intro z; cases z)
          have tupU : ∀ b xs, H7 b = some (.tup xs) → b ≠ u2 := fun b xs e => ne_of_none e hu2
          have s17 := s1.trans s27
          refine ⟨_, _, _, _, as ++ [u2], ps ++ [(x, r)], rfl, Same.mut (Same.mut (s17.trans (same_new hu2)) hpp) hta0, by rw [upd_ne npt, upd_same]; simp, PrsAt.snoc (hps3.mono fun b xs e => by rw [upd_ne (tupT b xs e), upd_ne (tupP b xs e), upd_ne (tupU b xs e)]; exact e) (by rw [upd_ne (Ne.symm ntu), upd_ne (Ne.symm npu)]; exact upd_same), ?_, pr.snoc o, by rw [List.length_append]; show ps.length + 1 ≤ _; omega⟩
          rw [upd_same, txs_snoc]
          simp
      · rintro σ H5 ⟨v8, rfl, s5⟩
        have s25 := s4.trans s5
        exact ⟨_, _, _, _, as, ps, rfl, s1.trans s25, s25 _ _ hp1, hps.mono fun b xs e => s25 _ _ e, s25 _ _ ht1, pr, by omega⟩
    · rintro σ H1 ⟨v5, v6, v7, v8, as, ps, rfl, s1, hp1, hps, ht1, pr, pl⟩
      refine ⟨_, rfl, _, rfl, (by show 2 ≤ sizeLine; decide), fun q hq => cont _ q ps (s1.add hq) ⟨pp, ta, as, upd_same, same_new hq _ _ hp1, hps.mono fun b xs e => same_new hq _ _ e, same_new hq _ _ ht1, pr⟩ (by omega)⟩
end
end Rj
end
section
set_option Elab.async false
set_option linter.all false
set_option maxRecDepth 100000
set_option maxHeartbeats 4000000
/-! _law_are_proper. -/
namespace Rj
open PySem PySem.Spec PyProof.Rows L2 LamX
theorem cutV_to (xs : List V) (r : Nat) : cutV xs none (some (r : Int)) = xs.take r := by
  unfold cutV
  rw [HT.sIx_none, HT.sIx_nat, List.drop_zero, Nat.sub_zero]
  by_cases h : r ≤ xs.length
  · rw [Nat.min_eq_left h]
  · rw [Nat.min_eq_right (by omega), List.take_of_length_le (Nat.le_refl _), List.take_of_length_le (by omega)]
/-- a slice of a tuple, at some place -/
def rSlN : V → Option Int → Option Int → Hp → VK → Prop := fun x lo hi H Q => ∃ (a : Addr) (xs : List V), x = .ref a ∧ H a = some (.tup xs) ∧ ∀ (q : Addr) (H' : Hp), Same H H' → H' q = some (.tup (cutV xs lo hi)) → Q (.ref q) H'
theorem sl_tupN {X : Cx} : SlR X rSlN := by
  intro pins s σ H x v vl vu lo hi sl Q I rx hs pl pu h
  obtain ⟨a, xs, rfl, ha, q⟩ := h
  refine sl_tupA pins s σ H _ v vl vu lo hi sl Q I rx hs pl pu ⟨a, xs, rfl, SqT.of ha, fun ⟨e1, e2⟩ => q a H (Same.refl _) ?_, fun _ p hp => q p _ (same_new hp) upd_same⟩
  rw [ha]
  unfold cutV
  rw [e1, e2, List.drop_zero, Nat.sub_zero, List.take_of_length_le (Nat.le_refl _)]
section
variable {P : Program} {w : World} {K : PySem.W.Frag} {mg : Str → Option Value} {base : Heap}
def spAreProper : Sp := fun vs H Q _ => ∃ (A : Txt) (pa : Addr) (as : List Addr) (ps : List (Int × Int)), vs = [vt A, .ref pa] ∧ Alph A ∧ H pa = some (.tup (as.map V.ref)) ∧ PrsAt H as ps ∧ Proper A ps ∧ ps.length ≤ 100 ∧
  ∀ (H' : Hp), Same H H' → Q (.bl true) H'
theorem ok_areProper (T : Wd K mg) : FnOk P w K mg base CX0 4 T.fLAreProper T.dLAreProper ["_law_alphabet_here", "_law_pairs"] spAreProper := by
  have GP : FnOk P w K mg base CX0 3 T.fLIsProper T.dLIsProper ["_law_alphabet_here", "_law_texts", "_law_pairs", "_law_pair"] spLIsProper := ok_lIsProper T
  refine okD T.FLAreProper scLAreProper (fun vs H Q E h => ?_) (fun cdv A outer s H vs Q E hr h => ?_)
  · obtain ⟨A, pa, as, ps, rfl, _⟩ := h
    rfl
  · obtain ⟨L, pa, as, ps, rfl, al, hpa, hps, pr, hl, cont⟩ := h
    have nd := scLAreProper.nd
    have l0 := al.l0
    have l1 := al.l1
    refine ⟨_, pss_cons (ps_set (i := 2) nd rfl (.inl rfl) (pe_callTy (call_listS rfl) (by rfl) T.no_list (by decide +kernel) (pa_cons (pv 0) pa_nil)))
      (pss_cons (ps_for PassesOwn.never rfl (pi_range1 rfl T.no_range (pa_cons (pe_callB call_len_seq (by rfl) T.no_len boot_len (pa_cons (pv 1) pa_nil)) pa_nil)) (pg_name (i := 3) nd rfl (Or.inl rfl))
        (pss_cons (ps_set (i := 4) nd rfl (.inl rfl) (pe_ix ix_tup (pv 1) (pv 3) (fun _ _ => rfl)))
        (pss_cons (ps_if (PW.pt (pw_or (pt_not (pt_val (pe_callB call_isi (by rfl) T.no_isinstance (by decide +kernel) (pa_cons (pv 4) (pa_cons (pe_bltn (v := .ty "tuple") (by rfl) T.no_tuple (by decide +kernel) rfl) pa_nil)))))
          (pw_or1 (pt_cmpR op_ne (pe_callB call_len_seq (by rfl) T.no_len boot_len (pa_cons (pv 4) pa_nil)) pe_int (nomark _))))) (pss_one ps_never) pss_nil)
        (pss_cons (ps_if (PW.pt (pw_or (pt_not (pt_val (pe_callB call_isi (by rfl) T.no_isinstance (by decide +kernel) (pa_cons (pe_ix ix_tup (pv 4) pe_int (fun _ _ => rfl)) (pa_cons (pe_bltn (v := .ty "int") (by rfl) T.no_int (by decide +kernel) rfl) pa_nil)))))
          (pw_or1 (pt_not (pt_val (pe_callB call_isi (by rfl) T.no_isinstance (by decide +kernel) (pa_cons (pe_ix ix_tup (pv 4) pe_int (fun _ _ => rfl)) (pa_cons (pe_bltn (v := .ty "int") (by rfl) T.no_int (by decide +kernel) rfl) pa_nil)))))))) (pss_one ps_never) pss_nil)
        (pss_cons (ps_if (pt_not (pt_val (pe_call GP hr (by rfl) T.gLIsProper T.FLIsProper.kp T.bLIsProper .nil pass0 (pa_cons (pv 0) (pa_cons (pv 2) (pa_cons (pe_callTy call_list_of (by rfl) T.no_list (by decide +kernel) (pa_cons (pe_slice sl_tupN (pv 1) po_none (po_some (pv 3))) pa_nil)) (pa_cons (pv 4) pa_nil))))))) (pss_one ps_never) pss_nil)
        (pss_one (ps_expr (pe_bm PySem.F.plainAttrs_list PySem.F.slot_list_append PySem.F.type_list_append mt_append (pv 2) (pa_cons (pe_op op_add_str (pe_ix ix_list (pv 2) (pe_ix ix_tup (pv 4) pe_int (fun _ _ => rfl)) (fun _ _ => rfl)) (pe_ix ix_list (pv 2) (pe_ix ix_tup (pv 4) pe_int (fun _ _ => rfl)) (fun _ _ => rfl))) pa_nil)))))))))
      (pss_one (ps_ret pe_bl))), ?_⟩
    refine ⟨_, rfl, tx L, rfl, by rw [tx_len]; exact small_line (by omega), fun ta hta => ?_⟩
    have el : ((tx L).cps.toList.map fun c => V.str ⟨#[c]⟩) = (txs L []).map vt := by rw [txs_nil_v]; simp [tx]
    rw [el]
    have len0 : (as.map V.ref).length = ps.length := by rw [List.length_map, hps.len]
    refine ⟨_, rfl, pa, _, rfl, .inr (SqT.of (same_new hta _ _ hpa)), _, rfl, by omega, by rw [len0]; omega, for_range (lo := 0) (n := (((as.map V.ref).length : Nat) : Int).toNat) (fun i σ H' => ∃ (v3 v4 : Option V), σ = [some (vt L), some (.ref pa), some (.ref ta), v3, v4] ∧ Same H H' ∧ H' ta = some (.lst ((txs L (ps.take i)).map vt)))
      ⟨_, _, rfl, same_new hta, upd_same⟩ ?_ ?_⟩
    · rintro i σ H1 hi ⟨v3, v4, rfl, s1, ht1⟩
      have hi' : i < ps.length := by rw [← len0]; omega
      obtain ⟨b, hb, hbp⟩ := hps.get2 (List.getElem?_eq_getElem hi')
      have e0 : (0 : Int) + (i : Int) = ((i : Nat) : Int) := by omega
      have o := pr i ps[i] (List.getElem?_eq_getElem hi')
      have pri := pr.take i
      have et : ps.take (i + 1) = ps.take i ++ [ps[i]] := by rw [List.take_add_one, List.getElem?_eq_getElem hi']; rfl
      have lt : (ps.take i).length = i := by rw [List.length_take]; omega
      rw [et]
      generalize hps' : ps[i] = p at o hbp
      have hpsi : PrsAt H (as.take i) (ps.take i) := hps.take i
      generalize ps.take i = qs at o pri lt ht1 hpsi
      have hb1 := s1 _ _ hbp
      refine ⟨_, rfl, _, rfl, pa, _, ((i : Nat) : Int), _, rfl, congrArg V.int e0, SqT.of (s1 _ _ hpa), at_ref hb, ?_⟩
      refine ⟨_, rfl, _, _, .type "tuple", .type "tuple", true, rfl, .ty _, .base (.tup hb1), kit_ty (by decide +kernel), true, rfl, iteF ⟨_, rfl, b, _, rfl, .inr (SqT.of hb1), rfl, false, rfl, iteF ?_⟩⟩
      refine ⟨_, rfl, b, _, 0, .int p.1, rfl, rfl, SqT.of hb1, rfl, _, _, .type "int", .type "int", true, rfl, .ty _, .base (.int _), kit_ty (by decide +kernel), true, rfl, iteF ?_⟩
      refine ⟨_, rfl, b, _, 1, .int p.2, rfl, rfl, SqT.of hb1, rfl, _, _, .type "int", .type "int", true, rfl, .ty _, .base (.int _), kit_ty (by decide +kernel), true, rfl, iteF ?_⟩
      -- is_proper
      refine ⟨_, rfl, _, rfl, _, rfl, _, rfl, _, rfl, pa, _, rfl, s1 _ _ hpa, fun q H2 s2 hq => ?_⟩
      rw [e0, cutV_to] at hq
      refine ⟨q, _, rfl, .inr (SqT.of hq), fun l hl => ?_⟩
      have s3 := s2.trans (same_new (o := .lst ((as.map V.ref).take i)) hl)
      have s13 := s1.trans s3
      refine ⟨_, rfl, L, ta, l, b, as.take i, qs, p, rfl, al, pri, s3 _ _ ht1, by rw [upd_same, List.map_take], hpsi.mono fun c xs e => s13 _ _ e, s3 _ _ hb1, by omega, fun H4 c s4 hc => ?_⟩
      have hc' : c = true := hc.mpr o
      subst hc'
      refine ⟨true, rfl, iteF ?_⟩
      have s14 := s3.trans s4
      have ht4 := s14 _ _ ht1
      have hb4 := s14 _ _ hb1
      have ol0 := o.l0
      have ol1 := o.l1
      have or0 := o.r0
      have or1 := o.r1
      have ln := o.len
      have tl : ((txs L qs).map vt).length = L.length + qs.length := by rw [List.length_map, txs_len]
      refine ⟨_, rfl, .inl ⟨rfl, _, SqL.of ht4⟩, _, rfl, _, rfl, b, _, 0, .int p.1, rfl, rfl, SqT.of hb4, rfl, ta, _, p.1, _, rfl, rfl, SqL.of ht4, at_txt ol0 (by rw [txs_len]; omega), _, rfl, _, rfl, b, _, 1, .int p.2, rfl, rfl, SqT.of hb4, rfl, ta, _, p.2, _, rfl, rfl, SqL.of ht4, at_txt or0 (by rw [txs_len]; omega), _, _, rfl, rfl, by rw [tx_len, tx_len, ← List.length_append]; exact small_line (by omega), ta, _, _, rfl, rfl, ht4, small_lt (by rw [tl]; omega), ?_⟩
      rw [tx_app]
      refine ⟨_, _, rfl, Same.mut (s1.trans s14) hta, ?_⟩
      rw [upd_same, txs_snoc]
      simp
    · rintro σ H1 ⟨v3, v4, rfl, s1, ht1⟩
      exact cont _ s1
end
end Rj
end
section
set_option Elab.async false
set_option linter.all false
set_option maxRecDepth 100000
set_option maxHeartbeats 4000000
/-! _law_corpus. -/
namespace Rj
open PySem PySem.Spec PyProof.Rows L2 LamX
theorem int_at {zs : List Int} {i : Int} (h0 : 0 ≤ i) (h1 : i < zs.length) : ∃ z, atI (zs.map V.int) i = some (.int z) := by
  have hl : i.toNat < zs.length := by omega
  exact ⟨zs[i.toNat], at_of (j := i.toNat) (by omega) (by simp [hl])⟩
section
variable {P : Program} {w : World} {K : PySem.W.Frag} {mg : Str → Option Value} {base : Heap}
def spCorpus : Sp := fun vs H Q _ => ∃ (nq ta : Addr) (ns : List Int) (k : Int) (A : Txt) (ps : List (Int × Int)), vs = [.ref nq, .int k, vt A, .ref ta] ∧ H nq = some (.lst (ns.map V.int)) ∧ Smalls ns ∧ Alph A ∧ Proper A ps ∧ H ta = some (.lst ((txs A ps).map vt)) ∧ ps.length ≤ 100 ∧ 0 ≤ k ∧ k + 26 ≤ ns.length ∧
  ∀ (H' : Hp) (q : Addr) (as : List Addr) (Cp : Corpus), Same H H' → H q = none → H' q = some (.lst (as.map V.ref)) → CorAt H' as Cp → OverA A Cp → (∀ e ∈ Cp, e.1.length ≤ 100) → Cp.length ≤ 6 → Q (.ref q) H'
theorem ok_corpus (T : Wd K mg) : FnOk P w K mg base CX0 1 T.fLCorpus T.dLCorpus ["_law_numbers_here", "_law_k", "_law_alphabet_here", "_law_texts"] spCorpus := by
  refine okD T.FLCorpus scLCorpus (fun vs H Q E h => ?_) (fun cdv A outer s H vs Q E hr h => ?_)
  · obtain ⟨nq, ta, ns, k, A, ps, rfl, _⟩ := h
    rfl
  · obtain ⟨nq, ta, ns, k, L, ps, rfl, hnq, sm, al, pr, hta, pl, k0, kl, cont⟩ := h
    have nd := scLCorpus.nd
    have l0 := al.l0
    have l1 := al.l1
    have two : 2 ≤ sizeLine := by decide
    have tl : ((txs L ps).map vt).length = L.length + ps.length := by rw [List.length_map, txs_len]
    have hpos : (0 : Int) < (((txs L ps).map vt).length : Int) := by rw [tl]; omega
    refine ⟨_, (pss_cons (ps_set (i := 4) nd rfl (.inl rfl) (pe_lst pa_nil)) (pss_cons (ps_for PassesOwn.never rfl (pi_range1 rfl T.no_range (pa_cons (pe_op op_mod (pe_callTy call_int1 (by rfl) T.no_int (by decide +kernel) (pa_cons (pe_ix ix_list (pv 0) (pv 1) (fun _ _ => rfl)) pa_nil)) pe_int) pa_nil)) (pg_name (i := 5) nd rfl (Or.inl rfl)) (pss_cons (ps_set (i := 6) nd rfl (.inl rfl) (pe_ix ix_list (pv 0) (pe_op op_add (pe_op op_add (pv 1) pe_int) (pe_op op_mul pe_int (pv 5))) (fun _ _ => rfl))) (pss_cons (ps_set (i := 7) nd rfl (.inl rfl) pe_str) (pss_cons (ps_for PassesOwn.never rfl (pi_range1 rfl T.no_range (pa_cons (pe_op op_add pe_int (pe_op op_mod (pe_callTy call_int1 (by rfl) T.no_int (by decide +kernel) (pa_cons (pv 6) pa_nil)) pe_int)) pa_nil)) (pg_name (i := 8) nd rfl (Or.inl rfl)) (pss_cons (ps_set (i := 9) nd rfl (.inl rfl) (pe_op op_mod (pe_callTy call_int1 (by rfl) T.no_int (by decide +kernel) (pa_cons (pe_op op_fdiv (pe_ix ix_list (pv 0) (pe_op op_add (pe_op op_add (pe_op op_add (pv 1) pe_int) (pe_op op_mul pe_int (pv 5))) (pv 8)) (fun _ _ => rfl)) (pe_op op_add pe_int (pv 8))) pa_nil)) (pe_callB call_len_seq (by rfl) T.no_len boot_len (pa_cons (pv 3) pa_nil)))) (pss_one (ps_if (pt_cmpR op_le (pe_op op_add (pe_callB call_len_str (by rfl) T.no_len boot_len (pa_cons (pv 7) pa_nil)) (pe_callB call_len_str (by rfl) T.no_len boot_len (pa_cons (pe_ix ix_list (pv 3) (pv 9) (fun _ _ => rfl)) pa_nil))) pe_int (nomark _)) (pss_one (ps_set (i := 7) nd rfl (.inl rfl) (pe_op op_add_str (pv 7) (pe_ix ix_list (pv 3) (pv 9) (fun _ _ => rfl))))) pss_nil)))) (pss_cons (ps_set (i := 10) nd rfl (.inl rfl) (pe_ix ix_str (pv 2) (pe_op op_mod (pe_callTy call_int1 (by rfl) T.no_int (by decide +kernel) (pa_cons (pe_ix ix_list (pv 0) (pe_op op_add (pe_op op_add (pv 1) pe_int) (pe_op op_mul pe_int (pv 5))) (fun _ _ => rfl)) pa_nil)) (pe_callB call_len_str (by rfl) T.no_len boot_len (pa_cons (pv 2) pa_nil))) (fun _ _ => rfl))) (pss_cons (ps_set (i := 7) nd rfl (.inl rfl) (pe_op op_add_str (pv 7) (pe_op op_mulC (pv 10) (pe_op op_mod (pe_callTy call_int1 (by rfl) T.no_int (by decide +kernel) (pa_cons (pe_op op_fdiv (pe_ix ix_list (pv 0) (pe_op op_add (pe_op op_add (pv 1) pe_int) (pe_op op_mul pe_int (pv 5))) (fun _ _ => rfl)) pe_int) pa_nil)) pe_int)))) (pss_cons (ps_set (i := 11) nd rfl (.inl rfl) (pe_op op_add pe_int (pe_callTy call_int1 (by rfl) T.no_int (by decide +kernel) (pa_cons (pe_op op_fdiv (pe_ix ix_list (pv 0) (pe_op op_add (pe_op op_add (pv 1) pe_int) (pe_op op_mul pe_int (pv 5))) (fun _ _ => rfl)) pe_int) pa_nil)))) (pss_one (ps_expr (pe_bm PySem.F.plainAttrs_list PySem.F.slot_list_append PySem.F.type_list_append mt_append (pv 4) (pa_cons (pe_tup (pa_cons (pv 7) (pa_cons (pe_ix ix_list (pe_lst (pa_cons pe_int (pa_cons pe_int (pa_cons pe_int (pa_cons pe_int (pa_cons (pv 11) (pa_cons (pe_op op_add (pe_op op_pow pe_int pe_int) (pv 6)) (pa_cons pe_int (pa_cons pe_int pa_nil))))))))) (pe_op op_mod (pe_callTy call_int1 (by rfl) T.no_int (by decide +kernel) (pa_cons (pe_ix ix_list (pv 0) (pe_op op_add (pe_op op_add (pv 1) pe_int) (pe_op op_mul pe_int (pv 5))) (fun _ _ => rfl)) pa_nil)) pe_int) (fun _ _ => rfl)) pa_nil))) pa_nil))))))))))) (pss_one (ps_ret (pv 4))))), ?_⟩
    refine ⟨Nat.zero_le _, fun l hl => ?_⟩
    have s0 : Same H (upd H l (.lst [])) := same_new hl
    obtain ⟨n0, hn0, _, _⟩ := num_at sm (i := k) k0 (by omega)
    refine ⟨_, rfl, _, rfl, nq, _, _, _, rfl, rfl, SqL.of (s0 _ _ hnq), hn0, .inl ⟨_, rfl, _, _, rfl, rfl, (by show (0 : Int) < 6; decide), n0 % 6, rfl, by omega, by omega, for_range (lo := 0) (n := (n0 % 6).toNat) (fun i σ H' => ∃ (v5 v6 v7 v8 v9 v10 v11 : Option V) (as : List Addr) (Cp : Corpus), σ = [some (.ref nq), some (.int k), some (vt L), some (.ref ta), some (.ref l), v5, v6, v7, v8, v9, v10, v11] ∧ Same H H' ∧ H' l = some (.lst (as.map V.ref)) ∧ CorAt H' as Cp ∧ OverA L Cp ∧ (∀ e ∈ Cp, e.1.length ≤ 100) ∧ Cp.length ≤ i)
      ⟨_, _, _, _, _, _, _, [], [], rfl, s0, upd_same, .nil, fun e he => absurd he List.not_mem_nil, fun e he => absurd he List.not_mem_nil, Nat.le_refl _⟩ ?_ ?_⟩⟩
    · rintro i σ H1 hi ⟨v5, v6, v7, v8, v9, v10, v11, as, Cp, rfl, s1, hl1, hca, ov, tlen, cl⟩
      have hi5 : i < 5 := by omega
      have hq1 := s1 _ _ hnq
      have ht1 := s1 _ _ hta
      obtain ⟨sd, hsd, sd0, sd1⟩ := num_at sm (i := k + 1 + 4 * (0 + (i : Int))) (by omega) (by omega)
      obtain ⟨n3, hn3, _, _⟩ := num_at sm (i := k + 3 + 4 * (0 + (i : Int))) (by omega) (by omega)
      obtain ⟨n4, hn4, _, _⟩ := num_at sm (i := k + 4 + 4 * (0 + (i : Int))) (by omega) (by omega)
      refine ⟨_, rfl, _, rfl, _, _, rfl, rfl, _, rfl, _, _, rfl, rfl, .inl ⟨by decide, by decide⟩, _, _, rfl, rfl, nq, _, _, _, rfl, rfl, SqL.of hq1, hsd, ?_⟩
      refine ⟨_, rfl, .inl ⟨_, rfl, _, _, rfl, rfl, (by show (0 : Int) < 4; decide), _, _, rfl, rfl, 1 + sd % 4, rfl, by omega, by omega, for_range (lo := 0) (n := (1 + sd % 4).toNat) (fun j σ H' => ∃ (v8 v9 : Option V) (t : Txt), σ = [some (.ref nq), some (.int k), some (vt L), some (.ref ta), some (.ref l), some (.int (0 + (i : Int))), some (.int sd), some (vt t), v8, v9, v10, v11] ∧ H' = H1 ∧ (∀ c ∈ t, c ∈ L) ∧ t.length ≤ 24)
        ⟨_, _, [], rfl, rfl, fun c hc => absurd hc List.not_mem_nil, Nat.zero_le _⟩ ?_ ?_⟩⟩
      · rintro j σ H2 hj ⟨v8, v9, t, rfl, rfl, tt, tn⟩
        have hj4 : j < 4 := by omega
        obtain ⟨n2, hn2, _, _⟩ := num_at sm (i := k + 2 + 4 * (0 + (i : Int)) + (0 + (j : Int))) (by omega) (by omega)
        have e0 : 0 ≤ n2 / (1 + (0 + (j : Int))) % (((txs L ps).map vt).length : Int) := Int.emod_nonneg _ (by omega)
        have e1 : n2 / (1 + (0 + (j : Int))) % (((txs L ps).map vt).length : Int) < (((txs L ps).map vt).length : Int) := Int.emod_lt_of_pos _ hpos
        have tl' : (((txs L ps).map vt).length : Int) = (L.length : Int) + ps.length := by rw [tl]; omega
        refine ⟨_, rfl, _, rfl, _, _, rfl, rfl, _, rfl, _, _, rfl, rfl, .inl ⟨by decide, by decide⟩, _, _, rfl, rfl, _, rfl, _, _, rfl, rfl, nq, _, _, _, rfl, rfl, SqL.of hq1, hn2, _, rfl, _, _, rfl, rfl, _, _, rfl, rfl, ⟨by omega, by omega⟩, .inl ⟨_, rfl, _, rfl, ta, _, rfl, .inl (SqL.of ht1), _, _, rfl, rfl, hpos, ?_⟩⟩
        have qt := pr.texts (n2 / (1 + (0 + (j : Int))) % (((txs L ps).map vt).length : Int)) e0 (by omega)
        have hat := at_txt (T := txs L ps) (i := n2 / (1 + (0 + (j : Int))) % (((txs L ps).map vt).length : Int)) e0 (by rw [txs_len]; omega)
        refine ⟨_, rfl, tx t, rfl, by rw [tx_len]; exact small_line (by omega), _, rfl, _, rfl, ta, _, n2 / (1 + (0 + (j : Int))) % (((txs L ps).map vt).length : Int), _, rfl, rfl, SqL.of ht1, hat, _, rfl, by rw [tx_len]; exact small_line (by omega), _, _, rfl, rfl, _, _, rfl, rfl, decide (t.length + (tat (txs L ps) (n2 / (1 + (0 + (j : Int))) % (((txs L ps).map vt).length : Int))).length ≤ 24), ?_, ?_⟩
        · refine congrArg V.bl (decide_eq_decide.mpr ?_)
          rw [tx_len, tx_len]
          omega
        by_cases c : t.length + (tat (txs L ps) (n2 / (1 + (0 + (j : Int))) % (((txs L ps).map vt).length : Int))).length ≤ 24
        · rw [decide_eq_true c]
          refine iteT ⟨_, rfl, _, rfl, _, rfl, ta, _, n2 / (1 + (0 + (j : Int))) % (((txs L ps).map vt).length : Int), _, rfl, rfl, SqL.of ht1, hat, _, _, rfl, rfl, by rw [tx_len, tx_len]; exact small_line (by omega), ?_⟩
          rw [tx_app]
          exact ⟨_, _, _, rfl, rfl, fun x hx => (List.mem_append.mp hx).elim (tt x) (qt.1 x), by rw [List.length_append]; exact c⟩
        · rw [decide_eq_false c]
          exact iteF ⟨_, _, t, rfl, rfl, tt, tn⟩
      · rintro σ H2 ⟨v8, v9, t, rfl, rfl, tt, tn⟩
        -- letter
        have hL : (0 : Int) < ((tx L).length : Int) := by rw [tx_len]; omega
        have g0 : 0 ≤ n3 % ((tx L).length : Int) := Int.emod_nonneg _ (by omega)
        have g1 : n3 % ((tx L).length : Int) < ((tx L).length : Int) := Int.emod_lt_of_pos _ hL
        have xl' : ((tx L).length : Int) = (L.length : Int) := by rw [tx_len]
        have hg : (n3 % ((tx L).length : Int)).toNat < L.length := by omega
        have hLz : (tx L).length ≤ sizeLine := by rw [tx_len]; exact small_line (by omega)
        refine ⟨_, rfl, _, rfl, _, rfl, _, _, rfl, rfl, _, rfl, _, _, rfl, rfl, .inl ⟨by decide, by decide⟩, _, _, rfl, rfl, nq, _, _, _, rfl, rfl, SqL.of hq1, hn3, .inl ⟨_, rfl, _, rfl, tx L, rfl, hLz, _, _, rfl, rfl, hL, tx L, n3 % ((tx L).length : Int), L[(n3 % ((tx L).length : Int)).toNat], rfl, rfl, hLz, ?_, ?_⟩⟩
        · have e : n3 % ((tx L).length : Int) = (((n3 % ((tx L).length : Int)).toNat : Nat) : Int) := by omega
          exact (congrArg (atI (tx L).cps.toList) e).trans (atI_nat (by simp [tx, hg]))
        have hcm : L[(n3 % ((tx L).length : Int)).toNat] ∈ L := List.getElem_mem hg
        generalize L[(n3 % ((tx L).length : Int)).toNat] = c at hcm
        -- text + letter * ..
        refine ⟨_, rfl, _, rfl, _, rfl, _, rfl, _, _, rfl, rfl, _, rfl, _, _, rfl, rfl, .inl ⟨by decide, by decide⟩, _, _, rfl, rfl, nq, _, _, _, rfl, rfl, SqL.of hq1, hn3, _, _, rfl, rfl, ⟨by decide, by decide⟩, .inl ⟨_, rfl, _, _, rfl, rfl, (by show (0 : Int) < 5; decide), c, n3 / 30 % 5, rfl, rfl, by omega, by omega, ?_⟩⟩
        have er : (⟨(List.replicate (n3 / 30 % 5).toNat c).toArray⟩ : Str) = tx (List.replicate (n3 / 30 % 5).toNat c) := rfl
        rw [er]
        have lr : (List.replicate (n3 / 30 % 5).toNat c).length ≤ 5 := by rw [List.length_replicate]; omega
        refine ⟨_, _, rfl, rfl, by rw [tx_len, tx_len]; exact small_line (by omega), ?_⟩
        rw [tx_app]
        have tt2 : ∀ x ∈ t ++ List.replicate (n3 / 30 % 5).toNat c, x ∈ L := fun x hx => (List.mem_append.mp hx).elim (tt x) fun z => by rw [(List.mem_replicate.mp z).2]; exact hcm
        have tn2 : (t ++ List.replicate (n3 / 30 % 5).toNat c).length ≤ 100 := by rw [List.length_append]; omega
        generalize t ++ List.replicate (n3 / 30 % 5).toNat c = t2 at tt2 tn2
        -- drawn
        refine ⟨_, rfl, _, rfl, _, _, rfl, rfl, _, rfl, _, _, rfl, rfl, .inl ⟨by decide, by decide⟩, _, _, rfl, rfl, nq, _, _, _, rfl, rfl, SqL.of hq1, hn4, _, _, rfl, rfl, ⟨by decide, by decide⟩, .inl ⟨_, rfl, _, _, rfl, rfl, ?_⟩⟩
        -- the entry
        obtain ⟨z, hz⟩ := int_at (zs := [1, 1, 2, 3, 1 + n4 / 8, 10 ^ (12 : Int).toNat + sd, 2, 1]) (i := n4 % 8) (by omega) (by show n4 % 8 < 8; omega)
        refine ⟨_, rfl, .inl ⟨rfl, _, SqL.of hl1⟩, _, rfl, _, rfl, _, _, rfl, rfl, ⟨by decide, by decide, by decide⟩, _, rfl, _, _, rfl, rfl, (by show 8 ≤ sizeLine; decide), fun dq hdq => ?_⟩
        have s2 := same_new (o := .lst ([1, 1, 2, 3, 1 + n4 / 8, 10 ^ (12 : Int).toNat + sd, 2, 1].map V.int)) hdq
        have hq2 := s2 _ _ hq1
        refine ⟨_, rfl, _, rfl, _, _, rfl, rfl, _, rfl, _, _, rfl, rfl, .inl ⟨by decide, by decide⟩, _, _, rfl, rfl, nq, _, _, _, rfl, rfl, SqL.of hq2, hn4, .inl ⟨_, rfl, _, _, rfl, rfl, (by show (0 : Int) < 8; decide), dq, [1, 1, 2, 3, 1 + n4 / 8, 10 ^ (12 : Int).toNat + sd, 2, 1].map V.int, n4 % 8, _, rfl, rfl, SqL.of upd_same, hz, two, fun u hu => ?_⟩⟩
        have s3 := s2.trans (same_new (o := .tup [vt t2, .int z]) hu)
        have nlu : l ≠ u := ne_of_none (s2 _ _ hl1) hu
        have al' : (as.map V.ref).length = Cp.length := by rw [List.length_map, hca.len]
        refine ⟨l, _, _, rfl, rfl, s3 _ _ hl1, small_lt (by rw [al']; omega), ?_⟩
        have tupl : ∀ b xs, H2 b = some (.tup xs) → b ≠ l := fun b xs e => ne_of e hl1 (by intro z; cases z)
        refine ⟨_, _, _, _, _, _, _, as ++ [u], Cp ++ [(t2, z)], rfl, Same.mut (s1.trans s3) hl, by rw [upd_same]; simp, CorAt.snoc (hca.mono fun b xs e => by rw [upd_ne (tupl b xs e)]; exact s3 _ _ e) (by rw [upd_ne (Ne.symm nlu)]; exact upd_same), ?_, ?_, by rw [List.length_append]; show Cp.length + 1 ≤ _; omega⟩
        · intro e he x hx
          rcases List.mem_append.mp he with h | h
          · exact ov e h x hx
          · rw [List.mem_singleton.mp h] at hx
            exact tt2 x hx
        · intro e he
          rcases List.mem_append.mp he with h | h
          · exact tlen e h
          · rw [List.mem_singleton.mp h]
            exact tn2
    · rintro σ H1 ⟨v5, v6, v7, v8, v9, v10, v11, as, Cp, rfl, s1, hl1, hca, ov, tlen, cl⟩
      exact ⟨_, rfl, cont H1 l as Cp s1 hl hl1 hca ov tlen (by omega)⟩
end
end Rj
end
section
set_option Elab.async false
set_option linter.all false
set_option maxRecDepth 100000
set_option maxHeartbeats 8000000
/-! law. -/
namespace Rj
open PySem PySem.Spec PyProof.Rows L2 LamX
/-! ### the same data -/
def Sc (x : V) : Prop := (∃ s, x = .str s) ∨ ∃ i, x = .int i
theorem eqd_sc {n : Nat} {H : Hp} {x : V} (h : Sc x) : Eqd (n + 1) H x x := by
  rcases h with ⟨s, rfl⟩ | ⟨i, rfl⟩
  · exact .inl ⟨s, rfl, rfl⟩
  · exact .inr (.inl ⟨i, rfl, rfl⟩)
theorem eqd_pt {H : Hp} {a b : Addr} {x y : V} (ha : H a = some (.tup [x, y])) (hb : H b = some (.tup [x, y])) (sx : Sc x) (sy : Sc y) : Eqd 2 H (.ref a) (.ref b) := by
  refine .inr (.inr ⟨a, b, _, _, rfl, rfl, ha, hb, rfl, (by show 2 ≤ 1000; decide), fun i u v hu hv => ?_⟩)
  rw [hu] at hv
  cases hv
  match i with
  | 0 => cases hu; exact eqd_sc sx
  | 1 => cases hu; exact eqd_sc sy
  | _ + 2 => simp at hu
theorem map_get {as : List Addr} {i : Nat} {u : V} (h : (as.map V.ref)[i]? = some u) : ∃ a, as[i]? = some a ∧ u = V.ref a := by
  rw [List.getElem?_map] at h
  obtain ⟨a, h1, h2⟩ := Option.map_eq_some_iff.mp h
  exact ⟨a, h1, h2.symm⟩
theorem eqd_cor {H : Hp} {as bs : List Addr} {C : Corpus} {r t : Addr} (h1 : CorAt H as C) (h2 : CorAt H bs C) (hr : H r = some (.tup (as.map V.ref))) (ht : H t = some (.tup (bs.map V.ref))) (hl : C.length ≤ 1000) : Eqd 3 H (.ref r) (.ref t) := by
  refine .inr (.inr ⟨r, t, _, _, rfl, rfl, hr, ht, by rw [List.length_map, List.length_map, h1.len, h2.len], by rw [List.length_map, h1.len]; exact hl, fun i u v hu hv => ?_⟩)
  obtain ⟨a, ha, rfl⟩ := map_get hu
  obtain ⟨b, hb, rfl⟩ := map_get hv
  obtain ⟨e, he, hea⟩ := h1.get ha
  obtain ⟨f, hf, hfb⟩ := h2.get hb
  rw [he] at hf
  cases hf
  exact eqd_pt hea hfb (.inl ⟨_, rfl⟩) (.inr ⟨_, rfl⟩)
theorem eqd_prs {H : Hp} {as bs : List Addr} {ps : List (Int × Int)} {r t : Addr} (h1 : PrsAt H as ps) (h2 : PrsAt H bs ps) (hr : H r = some (.tup (as.map V.ref))) (ht : H t = some (.tup (bs.map V.ref))) (hl : ps.length ≤ 1000) : Eqd 3 H (.ref r) (.ref t) := by
  refine .inr (.inr ⟨r, t, _, _, rfl, rfl, hr, ht, by rw [List.length_map, List.length_map, h1.len, h2.len], by rw [List.length_map, h1.len]; exact hl, fun i u v hu hv => ?_⟩)
  obtain ⟨a, ha, rfl⟩ := map_get hu
  obtain ⟨b, hb, rfl⟩ := map_get hv
  obtain ⟨e, he, hea⟩ := h1.get ha
  obtain ⟨f, hf, hfb⟩ := h2.get hb
  rw [he] at hf
  cases hf
  exact eqd_pt hea hfb (.inr ⟨_, rfl⟩) (.inr ⟨_, rfl⟩)
/-! ### a corpus as data -/
def CD (C : Corpus) : List PyData := C.map fun e => .tuple [.str (tx e.1), .int e.2]
theorem dp_cor {K : PySem.W.Frag} {H : Hp} : ∀ {as : List Addr} {C : Corpus}, CorAt H as C → DpAll K H (as.map V.ref) (CD C)
  | _, _, .nil => .nil
  | _, _, .cons r t => .cons (.tup (SqT.of r) (.cons (.str _) (.cons (.int _) .nil))) (dp_cor t)
theorem eqv_CD : ∀ C : Corpus, PyData.eqvAll (CD C) (CD C) = true
  | [] => rfl
  | e :: C => by
    have ih := eqv_CD C
    unfold CD at ih ⊢
    simp [PyData.eqvAll, PyData.eqv, ih]
theorem lay_CD {A : Txt} (al : Alph A) : ∀ C : Corpus, OverA A C → PyData.canLayAll0 (CD C) = true
  | [], _ => rfl
  | e :: C, h => by
    have ih := lay_CD al C fun f hf => h f (List.mem_cons_of_mem _ hf)
    have hs : PyData.strOk (tx e.1) = true := by
      unfold PyData.strOk tx
      simp only [List.all_toArray]
      refine List.all_eq_true.mpr fun c hc => ?_
      have := (al.lo c (h e List.mem_cons_self c hc)).2
      simp
      omega
    unfold CD at ih ⊢
    simp [PyData.canLayAll0, PyData.canLay0, ih, hs]
theorem dep_CD : ∀ C : Corpus, PyData.depthAll (CD C) ≤ 1
  | [] => Nat.zero_le _
  | e :: C => by
    have ih := dep_CD C
    unfold CD at ih ⊢
    simp only [List.map_cons, PyData.depthAll, PyData.depth]
    omega
theorem sh_CD {A : Txt} (al : Alph A) {C : Corpus} (h : OverA A C) : SeqAt.shaped (.list (CD C)) = true := by
  have h1 := lay_CD al C h
  have h2 := dep_CD C
  unfold SeqAt.shaped
  rw [Bool.and_eq_true]
  exact ⟨h1, decide_eq_true (by show PyData.depthAll (CD C) + 1 ≤ 64; omega)⟩
theorem at_neg {α : Type} {l : List α} (h : 1 ≤ l.length) : ∃ c, atI l (-1) = some c ∧ c ∈ l := by
  rcases List.eq_nil_or_concat l with rfl | ⟨l', c, rfl⟩
  · simp at h
  · exact ⟨c, by rw [List.concat_eq_append]; exact atI_last l' c, by simp⟩
theorem SqL.extN {K : PySem.W.Frag} {H H' : Hp} {a : Addr} {xs : List V} (h : SqL K H a xs) (e : ExtN H H') : SqL K H' a xs :=
  h.elim (fun h => .inl (h.elim (fun h => .inl (e _ _ h fun q z => by cases z)) fun ⟨o, h⟩ => .inr ⟨o, e _ _ h fun q z => by cases z⟩)) fun h => .inr h
theorem PrsAt.extN {H H' : Hp} {as : List Addr} {ps : List (Int × Int)} (h : PrsAt H as ps) (e : ExtN H H') : PrsAt H' as ps := h.mono fun b xs z => e _ _ z fun q z => by cases z
theorem CorAt.extN {H H' : Hp} {as : List Addr} {C : Corpus} (h : CorAt H as C) (e : ExtN H H') : CorAt H' as C := h.mono fun b xs z => e _ _ z fun q z => by cases z
theorem JAt.extN {C : Addr} {H H' : Hp} {p : Addr} {A : Txt} {ps : List (Int × Int)} (h : JAt C H p A ps) (e : ExtN H H') : JAt C H' p A ps := h.mono fun b o n z => e b o z n
theorem CorO.extN {H H' : Hp} {co : Addr} {C : Corpus} (h : CorO H co C) (e : ExtN H H') : CorO H' co C := h.mono e
/-- what stands behind the drawing -/
structure LB (PN : Addr) (H H' : Hp) (nq : Addr) (ns : List Int) (A : Txt) (ps : List (Int × Int)) (q pp ta : Addr) (as : List Addr) : Prop where
  ext : ExtN H H'
  tab : TabS H' PN qN
  hnq : H' nq = some (.lst (ns.map V.int))
  nl : ns.length = 56
  sm : Smalls ns
  al : Alph A
  hq : H' q = some (.tup [.ref pp, .ref ta])
  hpp : H' pp = some (.lst (as.map V.ref))
  prs : PrsAt H' as ps
  txt : H' ta = some (.lst ((txs A ps).map vt))
  pr : Proper A ps
  sz : A.length + ps.length ≤ 26
  l5 : A.length ≤ 5
theorem LB.next {PN : Addr} {H H1 H2 : Hp} {nq : Addr} {ns : List Int} {A : Txt} {ps : List (Int × Int)} {q pp ta : Addr} {as : List Addr} (h : LB PN H H1 nq ns A ps q pp ta as) (e : ExtN H1 H2) (t : TabS H2 PN qN) : LB PN H H2 nq ns A ps q pp ta as :=
  ⟨h.ext.trans e, t, e _ _ h.hnq (fun q z => by cases z), h.nl, h.sm, h.al, e _ _ h.hq (fun q z => by cases z), e _ _ h.hpp (fun q z => by cases z), h.prs.extN e, e _ _ h.txt (fun q z => by cases z), h.pr, h.sz, h.l5⟩
theorem LB.same {PN : Addr} {H H1 H2 : Hp} {nq : Addr} {ns : List Int} {A : Txt} {ps : List (Int × Int)} {q pp ta : Addr} {as : List Addr} (h : LB PN H H1 nq ns A ps q pp ta as) (e : Same H1 H2) : LB PN H H2 nq ns A ps q pp ta as := h.next (ExtN.of e) (h.tab.ext e)
section
variable {P : Program} {w : World} {K : PySem.W.Frag} {mg : Str → Option Value} {base : Heap}
def spLaw (K : PySem.W.Frag) (PN : Addr) : Sp := fun vs H Q _ => ∃ (a : Addr) (ns : List Int), vs = [.ref a] ∧ SqL K H a (ns.map V.int) ∧ TabS H PN qN ∧ ∀ H', Q (.bl true) H'
theorem ok_law (T : Wd K mg) {PN : Addr} (TB : TabB base mg T.cN PN) : FnOk P w K mg base CX0 9 T.fLaw T.dLaw ["_law_script"] (spLaw K PN) := by
  have GNu : FnOk P w K mg base CX0 1 T.fLNumbers T.dLNumbers ["_law_cell", "_law_at", "_law_many"] spNumbers := ok_numbers T
  have GAl : FnOk P w K mg base CX0 1 T.fLAlphabet T.dLAlphabet ["_law_numbers_here", "_law_k", "_law_many"] spAlphabet := ok_alphabet T
  have GLi : FnOk P w K mg base CX0 4 T.fLList T.dLList ["_law_numbers_here", "_law_k", "_law_alphabet_here", "_law_many"] spList := ok_list T
  have GRu : FnOk P w K mg base CX0 4 T.fLRuns T.dLRuns ["_law_numbers_here", "_law_alphabet_here", "_law_many"] spRuns := ok_runs T
  have GI : FnOk P w K mg base CX0 5 T.fJInit T.dJInit ["self", "alphabet", "pairs"] (spInit T.C) := ok_init T
  have GCo : FnOk P w K mg base CX0 5 T.fCorpusOf T.dCorpusOf ["joins"] (spCorpusOf T.C) := ok_corpusOf T
  have GS : FnOk P w K mg base CX0 3 T.fLSame T.dLSame ["_law_actual", "_law_expected"] (spSame 3) := ok_same T 3
  have GLe : FnOk P w K mg base CX0 8 T.fLearn T.dLearn ["alphabet", "corpus", "many"] (spLearn T.C PN) := ok_learn T TB
  have GCp : FnOk P w K mg base CX0 1 T.fLCorpus T.dLCorpus ["_law_numbers_here", "_law_k", "_law_alphabet_here", "_law_texts"] spCorpus := ok_corpus T
  have GAp : FnOk P w K mg base CX0 4 T.fLAreProper T.dLAreProper ["_law_alphabet_here", "_law_pairs"] spAreProper := ok_areProper T
  refine okD T.FLaw scLaw (fun vs H Q E h => ?_) (fun cdv A outer s H vs Q E hr h => ?_)
  · obtain ⟨a, ns, rfl, _⟩ := h
    rfl
  · obtain ⟨a, zs, rfl, hS, hT, cont⟩ := h
    have nd := scLaw.nd
    have hr1 : Room 1 _ := hr.mono (by decide)
    have hr3 : Room 3 _ := hr.mono (by decide)
    have hr4 : Room 4 _ := hr.mono (by decide)
    have hr5 : Room 5 _ := hr.mono (by decide)
    have hr6 : Room 6 _ := hr.mono (by decide)
    refine ⟨_, pss_cons (ps_for PassesOwn.never rfl (pi_range1 rfl T.no_range (pa_cons (pe_callB (call_min2 rfl) (by rfl) T.no_min (by decide +kernel) (pa_cons (pe_callB call_len_seq (by rfl) T.no_len boot_len (pa_cons (pv 0) pa_nil)) (pa_cons pe_int pa_nil))) pa_nil)) (pg_name (i := 1) nd rfl (Or.inl rfl))
        (pss_cons (ps_set (i := 2) nd rfl (.inl rfl) (pe_call GNu hr1 (by rfl) T.gLNumbers T.FLNumbers.kp T.bLNumbers .nil pass0 (pa_cons (pe_ix ix_list (pv 0) (pv 1) (fun _ _ => rfl)) (pa_cons (pv 1) (pa_cons pe_int pa_nil)))))
        (pss_cons (ps_set (i := 3) nd rfl (.inl rfl) (pe_call GAl hr1 (by rfl) T.gLAlphabet T.FLAlphabet.kp T.bLAlphabet .nil pass0 (pa_cons (pv 2) (pa_cons pe_int (pa_cons (pe_op op_add pe_int (pe_op op_mod (pe_callTy call_int1 (by rfl) T.no_int (by decide +kernel) (pa_cons (pe_ix ix_list (pv 2) pe_int (fun _ _ => rfl)) pa_nil)) pe_int)) pa_nil)))))
        (pss_cons (ps_set (i := 4) nd rfl (.inl rfl) (pe_call GLi hr4 (by rfl) T.gLList T.FLList.kp T.bLList .nil pass0 (pa_cons (pv 2) (pa_cons pe_int (pa_cons (pv 3) (pa_cons (pe_op op_mod (pe_callTy call_int1 (by rfl) T.no_int (by decide +kernel) (pa_cons (pe_ix ix_list (pv 2) pe_int (fun _ _ => rfl)) pa_nil)) pe_int) pa_nil))))))
        (C8.pss_cut (ps_if (pt_cmpR op_eq (pe_op op_mod (pe_callTy call_int1 (by rfl) T.no_int (by decide +kernel) (pa_cons (pe_ix ix_list (pv 2) pe_int (fun _ _ => rfl)) pa_nil)) pe_int) pe_int (nomark _)) (pss_cons (ps_set (i := 3) nd rfl (.inl rfl) (pe_ix ix_str (pv 3) pe_int (fun _ _ => rfl))) (pss_one (ps_set (i := 4) nd rfl (.inl rfl) (pe_call GRu hr4 (by rfl) T.gLRuns T.FLRuns.kp T.bLRuns .nil pass0 (pa_cons (pv 2) (pa_cons (pv 3) (pa_cons (pe_op op_mod (pe_callTy call_int1 (by rfl) T.no_int (by decide +kernel) (pa_cons (pe_ix ix_list (pv 2) pe_int (fun _ _ => rfl)) pa_nil)) pe_int) pa_nil))))))) pss_nil)
        (pss_cons (ps_set (i := 5) nd rfl (.inl rfl) (pe_ix ix_tup (pv 4) pe_int (fun _ _ => rfl)))
        (pss_cons (ps_set (i := 6) nd rfl (.inl rfl) (pe_make T.mkC GI hr6 (by rfl) T.gC T.bJInit .nil pass0 (pa_cons (pv 3) (pa_cons (pe_callTy call_tuple_of (by rfl) T.no_tuple (by decide +kernel) (pa_cons (pv 5) pa_nil)) pa_nil))))
        (pss_cons (ps_set (i := 7) nd rfl (.inl rfl) (pe_lst pa_nil))
        (pss_cons (ps_set (i := 8) nd rfl (.inl rfl) pe_int)
        (pss_cons (ps_for PassesOwn.never rfl (pi_revR (by rfl) T.no_reversed (prg_1 (by rfl) T.no_range (pe_callB call_len_seq (by rfl) T.no_len boot_len (pa_cons (pv 5) pa_nil)))) (pg_name (i := 9) nd rfl (Or.inl rfl)) (pss_cons (ps_expr (pe_bm PySem.F.plainAttrs_list PySem.F.slot_list_append PySem.F.type_list_append mt_append (pv 7) (pa_cons (pe_tup (pa_cons (pe_ix ix_list (pe_ix ix_tup (pv 4) pe_int (fun _ _ => rfl)) (pe_op op_add (pe_callB call_len_str (by rfl) T.no_len boot_len (pa_cons (pv 3) pa_nil)) (pv 9)) (fun _ _ => rfl)) (pa_cons (pv 8) pa_nil))) pa_nil))) (pss_one (ps_set (i := 8) nd rfl (.inl rfl) (pe_op op_mul (pv 8) pe_int)))))
        (C8.pss_cut (ps_set (i := 10) nd rfl (.inl rfl) (pe_revL (pv 7)))
        (pss_cons (ps_if (pt_not (pt_val (pe_call GS hr3 (by rfl) T.gLSame T.FLSame.kp T.bLSame .nil pass0 (pa_cons (pe_call GCo hr5 (by rfl) T.gCorpusOf T.FCorpusOf.kp T.bCorpusOf .nil pass0 (pa_cons (pv 6) pa_nil)) (pa_cons (pe_callTy call_tuple_of (by rfl) T.no_tuple (by decide +kernel) (pa_cons (pv 10) pa_nil)) pa_nil))))) (pss_one ps_never) pss_nil)
        (pss_cons (ps_set (i := 11) nd rfl (.inl rfl) (pe_call GLe hr (by rfl) T.gLearn T.FLearn.kp T.bLearn .nil pass0 (pa_cons (pv 3) (pa_cons (pv 10) (pa_cons pe_int pa_nil)))))
        (C8.pss_cut (ps_if (PW.pt (pw_or (pt_not (pt_cmpR (op_eqG (rc_eq (P := P) (w := w) (mg := mg) (base := base) T rfl rfl rfl rfl rfl) hr1) (pv 11) (pv 6) (nomark _))) (pw_or (pt_not (pt_val (pe_call GS hr3 (by rfl) T.gLSame T.FLSame.kp T.bLSame .nil pass0 (pa_cons (pe_fld (pv 11) rfl) (pa_cons (pe_callTy call_tuple_of (by rfl) T.no_tuple (by decide +kernel) (pa_cons (pv 5) pa_nil)) pa_nil))))) (pw_or1 (pt_not (pt_val (pe_call GS hr3 (by rfl) T.gLSame T.FLSame.kp T.bLSame .nil pass0 (pa_cons (pe_fld (pv 11) rfl) (pa_cons (pv 3) pa_nil))))))))) (pss_one ps_never) pss_nil)
        (pss_cons (ps_set (i := 12) nd rfl (.inl rfl) (pe_op op_mod (pe_callTy call_int1 (by rfl) T.no_int (by decide +kernel) (pa_cons (pe_ix ix_list (pv 2) pe_int (fun _ _ => rfl)) pa_nil)) (pe_op op_add (pe_callB call_len_seq (by rfl) T.no_len boot_len (pa_cons (pv 5) pa_nil)) pe_int)))
        (C8.pss_cut (ps_if (pt_not (pt_val (pe_call GS hr3 (by rfl) T.gLSame T.FLSame.kp T.bLSame .nil pass0 (pa_cons (pe_fld (pe_call GLe hr (by rfl) T.gLearn T.FLearn.kp T.bLearn .nil pass0 (pa_cons (pv 3) (pa_cons (pe_callTy call_tuple_of (by rfl) T.no_tuple (by decide +kernel) (pa_cons (pv 10) pa_nil)) (pa_cons (pv 12) pa_nil)))) rfl) (pa_cons (pe_callTy call_tuple_of (by rfl) T.no_tuple (by decide +kernel) (pa_cons (pe_slice sl_list (pv 5) po_none (po_some (pv 12))) pa_nil)) pa_nil))))) (pss_one ps_never) pss_nil)
        (pss_cons (ps_set (i := 10) nd rfl (.inl rfl) (pe_call GCp hr1 (by rfl) T.gLCorpus T.FLCorpus.kp T.bLCorpus .nil pass0 (pa_cons (pv 2) (pa_cons pe_int (pa_cons (pv 3) (pa_cons (pe_ix ix_tup (pv 4) pe_int (fun _ _ => rfl)) pa_nil))))))
        (C8.pss_cut (ps_if (pt_cmpR op_eq (pe_op op_mod (pe_callTy call_int1 (by rfl) T.no_int (by decide +kernel) (pa_cons (pe_op op_fdiv (pe_ix ix_list (pv 2) pe_int (fun _ _ => rfl)) pe_int) pa_nil)) pe_int) pe_int (nomark _)) (pss_one (ps_expr (pe_bm PySem.F.plainAttrs_list PySem.F.slot_list_append PySem.F.type_list_append mt_append (pv 10) (pa_cons (pe_tup (pa_cons (pe_op op_mulC (pe_ix ix_str (pv 3) (pe_un un_neg pe_int) (fun _ _ => rfl)) (pe_op op_mod (pe_callTy call_int1 (by rfl) T.no_int (by decide +kernel) (pa_cons (pe_op op_add (pe_op op_mul (pe_ix ix_list (pv 2) pe_int (fun _ _ => rfl)) pe_int) (pe_ix ix_list (pv 2) pe_int (fun _ _ => rfl))) pa_nil)) pe_int)) (pa_cons pe_int pa_nil))) pa_nil)))) pss_nil)
        (pss_cons (ps_set (i := 13) nd rfl (.inl rfl) (pe_callTy call_list_of (by rfl) T.no_list (by decide +kernel) (pa_cons (pv 10) pa_nil)))
        (pss_cons (ps_set (i := 11) nd rfl (.inl rfl) (pe_call GLe hr (by rfl) T.gLearn T.FLearn.kp T.bLearn .nil pass0 (pa_cons (pv 3) (pa_cons (pv 13) (pa_cons (pe_op op_add pe_int (pe_op op_mod (pe_callTy call_int1 (by rfl) T.no_int (by decide +kernel) (pa_cons (pe_ix ix_list (pv 2) pe_int (fun _ _ => rfl)) pa_nil)) pe_int)) pa_nil)))))
        (pss_cons (ps_if (PW.pt (pw_or (pt_not (pt_val (pe_callB call_isi (by rfl) T.no_isinstance (by decide +kernel) (pa_cons (pe_fld (pv 11) rfl) (pa_cons (pe_bltn (v := .ty "tuple") (by rfl) T.no_tuple (by decide +kernel) rfl) pa_nil))))) (pw_or1 (pt_not (pt_val (pe_call GAp hr4 (by rfl) T.gLAreProper T.FLAreProper.kp T.bLAreProper .nil pass0 (pa_cons (pv 3) (pa_cons (pe_fld (pv 11) rfl) pa_nil)))))))) (pss_one ps_never) pss_nil)
        (pss_cons (ps_set (i := 12) nd rfl (.inl rfl) (pe_op op_mod (pe_callTy call_int1 (by rfl) T.no_int (by decide +kernel) (pa_cons (pe_ix ix_list (pv 2) pe_int (fun _ _ => rfl)) pa_nil)) (pe_op op_add (pe_callB call_len_seq (by rfl) T.no_len boot_len (pa_cons (pe_fld (pv 11) rfl) pa_nil)) pe_int)))
        (pss_one (ps_if (PW.pt (pw_or (pt_not (pt_val (pe_call GS hr3 (by rfl) T.gLSame T.FLSame.kp T.bLSame .nil pass0 (pa_cons (pe_fld (pe_call GLe hr (by rfl) T.gLearn T.FLearn.kp T.bLearn .nil pass0 (pa_cons (pv 3) (pa_cons (pv 10) (pa_cons (pv 12) pa_nil)))) rfl) (pa_cons (pe_slice sl_tupN (pe_fld (pv 11) rfl) po_none (po_some (pv 12))) pa_nil))))) (pw_or1 (pt_cmpR (op_neD hr.units) (pv 13) (pv 10) (nomark _))))) (pss_one ps_never) pss_nil))))))))))))))))))))))))
      (pss_one (ps_ret pe_bl)), ?_⟩
    have two : 2 ≤ sizeLine := by decide
    have lz : (zs.map V.int).length = zs.length := List.length_map _
    refine ⟨_, rfl, a, _, rfl, .inl hS, _, _, rfl, _, rfl, by split <;> omega, by split <;> omega, for_range (lo := 0) (n := (if (4 : Int) < ((zs.map V.int).length : Int) then 4 else ((zs.map V.int).length : Int)).toNat) (fun i σ H' => ∃ (v1 v2 v3 v4 v5 v6 v7 v8 v9 v10 v11 v12 v13 : Option V), σ = [some (.ref a), v1, v2, v3, v4, v5, v6, v7, v8, v9, v10, v11, v12, v13] ∧ ExtN H H' ∧ TabS H' PN qN)
      ⟨_, _, _, _, _, _, _, _, _, _, _, _, _, rfl, ExtN.refl H, hT⟩ ?_ ?_⟩
    · rintro i σ H0 hi ⟨v1, v2, v3, v4, v5, v6, v7, v8, v9, v10, v11, v12, v13, rfl, e0, T0⟩
      have hi' : i < zs.length := by
        rw [lz] at hi
        split at hi <;> omega
      obtain ⟨c, hc⟩ := int_at (zs := zs) (i := 0 + (i : Int)) (by omega) (by omega)
      have hS0 := Rj.SqL.extN hS e0
      -- numbers
      refine ⟨_, rfl, _, rfl, a, _, 0 + (i : Int), .int c, rfl, rfl, hS0, hc, _, rfl, c, 0 + (i : Int), 56, rfl, by decide, by decide, fun H1 nq ns s1 hnq nl sm => ?_⟩
      have nl' : ns.length = 56 := nl
      obtain ⟨n0, hn0, _, _⟩ := num_at sm (i := 0) (by decide) (by omega)
      obtain ⟨n1, hn1, _, _⟩ := num_at sm (i := 1) (by decide) (by omega)
      obtain ⟨n2, hn2, _, _⟩ := num_at sm (i := 2) (by decide) (by omega)
      obtain ⟨n3, hn3, _, _⟩ := num_at sm (i := 3) (by decide) (by omega)
      obtain ⟨n9, hn9, _, _⟩ := num_at sm (i := 9) (by decide) (by omega)
      -- alphabet
      refine ⟨_, rfl, _, rfl, nq, _, 0, _, rfl, rfl, SqL.of hnq, hn0, .inl ⟨_, rfl, _, _, rfl, rfl, (by show (0 : Int) < 5; decide), _, _, rfl, rfl, nq, ns, 4, 1 + n0 % 5, rfl, hnq, sm, by decide, by omega, by omega, by omega, fun H2 L s2 al Ll => ?_⟩⟩
      have hnq0 := hnq
      have hnq := s2 _ _ hnq0
      -- the list
      refine ⟨_, rfl, _, rfl, _, rfl, nq, _, 2, _, rfl, rfl, SqL.of hnq, hn2, .inl ⟨_, rfl, _, _, rfl, rfl, (by show (0 : Int) < 11; decide), nq, ns, 10, n2 % 11, L, rfl, hnq, sm, al, by decide, by omega, by omega, by omega, fun H3 q ps s3 hD pl => ?_⟩⟩
      have hnq1 := hnq
      have hnq := s3 _ _ hnq1
      have s03 := s1.trans (s2.trans s3)
      -- the runs
      refine ⟨fun σ' H' => ∃ (A : Txt) (ps : List (Int × Int)) (q pp ta : Addr) (as : List Addr), σ' = [some (.ref a), some (.int (0 + (i : Int))), some (.ref nq), some (vt A), some (.ref q), v5, v6, v7, v8, v9, v10, v11, v12, v13] ∧ LB PN H H' nq ns A ps q pp ta as, ?_, ?_⟩
      · refine ⟨_, rfl, nq, _, 1, _, rfl, rfl, SqL.of hnq, hn1, .inl ⟨_, rfl, _, _, rfl, rfl, (by show (0 : Int) < 8; decide), rfl, _, rfl, iteB ?_ ?_⟩⟩
        · have l0 := al.l0
          have l1 := al.l1
          have hg : 0 < L.length := by omega
          refine ⟨_, rfl, tx L, 0, L[0], rfl, rfl, by rw [tx_len]; exact small_line (by omega), atI_nat (j := 0) (by simp [tx, hg]), ?_⟩
          have al1 : Alph [L[0]] := ⟨(by show 1 ≤ 1; decide), (by show 1 ≤ 30; decide), fun c hc => by rw [List.mem_singleton.mp hc]; exact al.lo _ (List.getElem_mem hg), List.pairwise_singleton _ _⟩
          refine ⟨_, rfl, _, rfl, _, rfl, nq, _, 2, _, rfl, rfl, SqL.of hnq, hn2, .inl ⟨_, rfl, _, _, rfl, rfl, (by show (0 : Int) < 20; decide), nq, ns, n2 % 20, [L[0]], rfl, hnq, sm, al1, rfl, by omega, by omega, by omega, fun H4 q4 ps4 s4 hD4 pl4 => ?_⟩⟩
          obtain ⟨pp, ta, as, h1, h2, h3, h4, h5⟩ := hD4
          have s04 := s03.trans s4
          exact ⟨[L[0]], ps4, q4, pp, ta, as, rfl, e0.trans (ExtN.of s04), T0.ext s04, s4 _ _ hnq, nl', sm, al1, h1, h2, h3, h4, h5, by show 1 + ps4.length ≤ 26; omega, by show 1 ≤ 5; decide⟩
        · obtain ⟨pp, ta, as, h1, h2, h3, h4, h5⟩ := hD
          exact ⟨L, ps, q, pp, ta, as, rfl, e0.trans (ExtN.of s03), T0.ext s03, hnq, nl', sm, al, h1, h2, h3, h4, h5, by omega, by omega⟩
      clear s03 hD hnq hnq0 hnq1 s1 s2 s3 pl Ll al
      rintro σ' H4 ⟨A, ps, q, pp, ta, as, rfl, lb⟩
      have hnq := lb.hnq
      have hl0 := lb.al.l0
      have hl1 := lb.al.l1
      have sz := lb.sz
      have lenp : (as.map V.ref).length = ps.length := by rw [List.length_map, lb.prs.len]
      -- pairs, joins
      refine ⟨_, rfl, q, _, 0, .ref pp, rfl, rfl, SqT.of lb.hq, rfl, ?_⟩
      refine ⟨_, rfl, _, rfl, pp, _, rfl, .inl ⟨SqL.of lb.hpp, fun t ht => fun x dx hx hdx ndx => ?_⟩⟩
      have st : Same H4 (upd H4 t (.tup (as.map V.ref))) := same_new ht
      have tt0 : (upd H4 t (.tup (as.map V.ref))) t = some (.tup (as.map V.ref)) := upd_same
      generalize upd H4 t (.tup (as.map V.ref)) = Ht at st tt0 hx hdx
      have sd : ∀ b o, Ht b = some o → (upd (upd Ht dx (.own x)) x (.ins T.C dx [])) b = some o := fun b o e => by
        rw [upd_ne (ne_of_none e hx), upd_ne (ne_of_none e hdx)]
        exact e
      refine ⟨x, t, dx, A, as, ps, rfl, upd_same, lb.al, sd _ _ tt0, lb.prs.mono fun b xs e => sd _ _ (st _ _ e), lb.pr, by omega, fun H5 j5 F5 => ⟨rfl, ?_⟩⟩
      have s45 : Same H4 H5 := fun b o e => F5 b o (sd _ _ (st _ _ e)) (ne_of_none (st _ _ e) hx)
      clear F5 sd hx hdx st tt0 ht
      -- due, power
      refine ⟨Nat.zero_le _, fun d hd => ?_⟩
      have s56 : Same H5 (upd H5 d (.lst [])) := same_new hd
      have lb6 := lb.same (s45.trans s56)
      refine ⟨_, rfl, pp, _, rfl, .inl (SqL.of lb6.hpp), _, rfl, by decide, by decide, by omega, by omega, ?_⟩
      have en : (((as.map V.ref).length : Int) - 0).toNat = ps.length := by omega
      rw [en]
      refine for_it walk_rangeC (fun k σ H' => ∃ v9, σ = [some (.ref a), some (.int (0 + (i : Int))), some (.ref nq), some (vt A), some (.ref q), some (.ref pp), some (.ref x), some (.ref d), some (.int (2 * 40 ^ k)), v9, v10, v11, v12, v13] ∧ Same H5 H' ∧ ∃ bs, H' d = some (.lst (bs.map V.ref)) ∧ CorAt H' bs (corR A ps k))
        ⟨_, rfl, s56, [], upd_same, .nil⟩ (fun _ _ _ _ _ => trivial) ?_ ?_
      · rintro k y σ H6 H6' hk ⟨v9, rfl, s6, bs, hd6, hbs⟩ ⟨rfl, rfl⟩
        have lb7 := lb.same (s45.trans s6)
        have hbl : bs.length = k := by rw [hbs.len]; unfold corR; simp
        have e1 : (A.length : Int) + (0 + (ps.length : Int) - 1 + ((k : Nat) : Int) * (-1)) = (A.length : Int) + ((ps.length - 1 - k : Nat) : Int) := by omega
        have hat := at_txt (T := txs A ps) (i := (A.length : Int) + ((ps.length - 1 - k : Nat) : Int)) (by omega) (by rw [txs_len]; omega)
        refine ⟨_, rfl, .inl ⟨rfl, _, SqL.of hd6⟩, _, rfl, q, _, 1, .ref ta, rfl, rfl, SqT.of lb7.hq, rfl, _, rfl, tx A, rfl, by rw [tx_len]; exact small_line (by omega), _, rfl, _, _, rfl, rfl, ta, _, (A.length : Int) + ((ps.length - 1 - k : Nat) : Int), _, rfl, ?_, SqL.of lb7.txt, hat, _, rfl, two, fun u hu => ?_⟩
        · rw [tx_len]
          exact congrArg V.int e1
        have ndu : d ≠ u := ne_of_none hd6 hu
        refine ⟨d, _, _, rfl, rfl, by rw [upd_ne ndu]; exact hd6, small_lt (by rw [List.length_map, hbl]; omega), ?_⟩
        refine ⟨_, rfl, _, _, rfl, rfl, .inr ⟨by decide, by decide⟩, ?_⟩
        have tupd : ∀ b xs, H6' b = some (.tup xs) → b ≠ d := fun b xs e => ne_of e hd6 (by intro z; cases z)
        have ep : (2 : Int) * 40 ^ (k + 1) = 2 * 40 ^ k * 40 := by rw [Int.pow_succ, Int.mul_assoc]
        refine ⟨some (V.int (0 + (ps.length : Int) - 1 + ((k : Nat) : Int) * (-1))), by rw [ep]; rfl, Same.mut (s6.trans (same_new hu)) hd, bs ++ [u], by rw [upd_same]; simp, ?_⟩
        have ec : corR A ps (k + 1) = corR A ps k ++ [(tat (txs A ps) ((A.length : Int) + ((ps.length - 1 - k : Nat) : Int)), (2 : Int) * (40 : Int) ^ k)] := by
          unfold corR
          rw [List.range_succ, List.map_append]
          rfl
        rw [ec]
        refine CorAt.snoc (hbs.mono fun b xs e => by rw [upd_ne (tupd b xs e)]; exact same_new hu _ _ e) ?_
        rw [upd_ne (Ne.symm ndu)]
        exact upd_same
      rintro σ H6 ⟨v9, rfl, s6, bs, hd6, hbs⟩
      -- corpus = due[::-1]
      refine ⟨fun σ' H' => ∃ (v7 v8 v9 : Option V) (co : Addr) (bs : List Addr), σ' = [some (.ref a), some (.int (0 + (i : Int))), some (.ref nq), some (vt A), some (.ref q), some (.ref pp), some (.ref x), v7, v8, v9, some (.ref co), v11, v12, v13] ∧ LB PN H H' nq ns A ps q pp ta as ∧ JAt T.C H' x A ps ∧ H' co = some (.lst (bs.map V.ref)) ∧ CorAt H' bs (corpusFrom A ps), ?_, ?_⟩
      · refine ⟨_, rfl, d, _, rfl, SqL.of hd6, fun co hco => ?_⟩
        have s7 := s6.trans (same_new (o := .lst (bs.map V.ref).reverse) hco)
        refine ⟨_, _, _, co, bs.reverse, rfl, lb.same (s45.trans s7), j5.same s7, by rw [upd_same, List.map_reverse], ?_⟩
        rw [← corR_rev]
        exact (hbs.mono fun b xs e => same_new hco _ _ e).rev
      clear hbs hd6 s6 bs H6 lb6 s56 hd d s45 j5 H5 hnq lb
      rintro σ' H5 ⟨v7, v8, v9, co, bs, rfl, lb, jx, hco, hbs⟩
      have hl0 := lb.al.l0
      have hl1 := lb.al.l1
      have sz := lb.sz
      have cfl : (corpusFrom A ps).length = ps.length := by unfold corpusFrom; simp
      have cok : CorOk A (corpusFrom A ps) := ⟨corpusFrom_over lb.pr, fun e he => by
        obtain ⟨r, hr, rfl⟩ := List.mem_map.mp he
        have hr' := List.mem_range.mp hr
        have := (lb.pr.texts ((A.length : Int) + (r : Int)) (by omega) (by omega)).2.2
        show (tat (txs A ps) ((A.length : Int) + (r : Int))).length ≤ 1000
        omega, by rw [cfl]; omega⟩
      have lrn60 : ∀ m : Nat, lrn A (corpusFrom A ps) m [] = ps.take m := fun m => by
        have := lrn_own lb.pr m 0 (Nat.zero_le _)
        rw [List.take_zero, Nat.zero_add] at this
        exact this
      -- corpus_of
      refine ⟨_, rfl, x, A, ps, rfl, jx, by omega, fun H6 r as6 s6 hr6' hc6 => ?_⟩
      refine ⟨_, rfl, co, _, rfl, .inl ⟨SqL.of (s6 _ _ hco), fun t ht => ?_⟩⟩
      have s7 := s6.trans (same_new (o := .tup (bs.map V.ref)) ht)
      have st := same_new (o := .tup (bs.map V.ref)) ht
      refine ⟨_, _, rfl, eqd_cor (hc6.mono fun b xs e => st _ _ e) (hbs.mono fun b xs e => s7 _ _ e) (st _ _ hr6') upd_same (by rw [cfl]; omega), true, rfl, iteF ?_⟩
      have lb7 := lb.same s7
      have jx7 := jx.same s7
      have hco7 := s7 _ _ hco
      have hbs7 : CorAt _ bs (corpusFrom A ps) := hbs.mono fun b xs e => s7 _ _ e
      clear s7 st hc6 hr6' s6 ht
      generalize upd H6 t (.tup (bs.map V.ref)) = H7 at lb7 jx7 hco7 hbs7
      clear hbs hco jx lb H6 as6 r t H5
      -- learn(.., 60)
      refine ⟨_, rfl, _, rfl, co, A, 60, corpusFrom A ps, rfl, lb7.al, ⟨bs, .inl hco7, hbs7⟩, cok, lb7.tab, by decide, by decide, ?_, fun H8 x8 e8 T8 j8 => ?_⟩
      · rw [lrn60, List.length_take]
        omega
      have e60 : lrn A (corpusFrom A ps) (60 : Int).toNat [] = ps := by
        rw [lrn60]
        exact List.take_of_length_le (by show ps.length ≤ 60; omega)
      rw [e60] at j8
      have lb8 := lb7.next e8 T8
      have jx8 := jx7.extN e8
      have hco8 := e8 _ _ hco7 (fun q z => by cases z)
      have hbs8 := hbs7.extN e8
      clear lb7 jx7 hco7 hbs7 e8 T8 H7
      refine ⟨fun σ' H' => ∃ (v7 v8 v9 v11 : Option V), σ' = [some (.ref a), some (.int (0 + (i : Int))), some (.ref nq), some (vt A), some (.ref q), some (.ref pp), some (.ref x), v7, v8, v9, some (.ref co), v11, v12, v13] ∧ LB PN H H' nq ns A ps q pp ta as ∧ H' co = some (.lst (bs.map V.ref)) ∧ CorAt H' bs (corpusFrom A ps), ?_, ?_⟩
      · obtain ⟨dx8, pa8, ta8, ra8, na8, lg8, as8, h8, hpa8, hps8⟩ := j8.pairs
        obtain ⟨dx9, pa9, ta9, ra9, na9, lg9, as9, h9, hpa9, hps9⟩ := jx8.pairs
        refine ⟨_, rfl, _, rfl, ⟨x8, x, dx8, dx9, _, _, rfl, rfl, h8, h9, A, ps, j8, jx8⟩, fun H9 e9 => ⟨true, rfl, iteF ?_⟩⟩
        have s9 : Same H8 H9 := e9
        refine ⟨_, rfl, x8, T.C, dx8, _, _, rfl, s9 _ _ h8, T.cl, T.n_pairs, fl_pairs, _, rfl, pp, _, rfl, .inl ⟨SqL.of (s9 _ _ lb8.hpp), fun t ht => ?_⟩⟩
        have s10 := s9.trans (same_new (o := .tup (as.map V.ref)) ht)
        refine ⟨_, _, rfl, eqd_prs (hps8.mono fun b xs e => s10 _ _ e) (lb8.prs.mono fun b xs e => s10 _ _ e) (s10 _ _ hpa8) upd_same (by omega), true, rfl, iteF ?_⟩
        refine ⟨_, rfl, x8, T.C, dx8, _, _, rfl, s10 _ _ h8, T.cl, T.n_alphabet, fl_alphabet, _, rfl, _, _, rfl, eqd_sc (.inl ⟨_, rfl⟩), true, rfl, iteF ?_⟩
        exact ⟨_, _, _, _, rfl, lb8.same s10, s10 _ _ hco8, hbs8.mono fun b xs e => s10 _ _ e⟩
      clear j8 jx8 lb8 hbs8 hco8 H8 e60 x8 v11
      rintro σ' H8 ⟨v7', v8', v9', v11, rfl, lb, hco, hbs⟩
      have hnq := lb.hnq
      -- few
      have hf0 : 0 ≤ n3 % (((as.map V.ref).length : Int) + 1) := Int.emod_nonneg _ (by omega)
      have hf1 : n3 % (((as.map V.ref).length : Int) + 1) < ((as.map V.ref).length : Int) + 1 := Int.emod_lt_of_pos _ (by omega)
      refine ⟨_, rfl, nq, _, 3, _, rfl, rfl, SqL.of hnq, hn3, .inl ⟨_, rfl, _, rfl, pp, _, rfl, .inl (SqL.of lb.hpp), _, _, rfl, rfl, _, _, rfl, rfl, (by show (0 : Int) < ((as.map V.ref).length : Int) + 1; omega), ?_⟩⟩
      generalize hfe : n3 % (((as.map V.ref).length : Int) + 1) = f at hf0 hf1
      refine ⟨fun σ' H' => ∃ (v7 v8 v9 v10 v11 v12 : Option V), σ' = [some (.ref a), some (.int (0 + (i : Int))), some (.ref nq), some (vt A), some (.ref q), some (.ref pp), some (.ref x), v7, v8, v9, v10, v11, v12, v13] ∧ LB PN H H' nq ns A ps q pp ta as, ?_, ?_⟩
      · refine ⟨_, rfl, _, rfl, co, _, rfl, .inl ⟨SqL.of hco, fun t ht => ?_⟩⟩
        have s9 := same_new (o := .tup (bs.map V.ref)) ht
        have lb9 := lb.same s9
        refine ⟨_, rfl, t, A, n3 % (((as.map V.ref).length : Int) + 1), corpusFrom A ps, rfl, lb.al, ⟨bs, .inr upd_same, hbs.mono fun b xs e => s9 _ _ e⟩, cok, lb9.tab, by rw [hfe]; exact hf0, by rw [hfe]; omega, by rw [lrn60, List.length_take]; omega, fun H10 x10 e10 T10 j10 => ?_⟩
        rw [hfe, lrn60] at j10
        have lb10 := lb9.next e10 T10
        obtain ⟨dx10, pa10, ta10, ra10, na10, lg10, as10, h10, hpa10, hps10⟩ := j10.pairs
        have ecut : cutV (as.map V.ref) none (some (n3 % (((as.map V.ref).length : Int) + 1))) = (as.take f.toNat).map V.ref := by
          have := cutV_to (as.map V.ref) f.toNat
          rw [Int.toNat_of_nonneg hf0] at this
          rw [hfe, this, List.map_take]
        refine ⟨x10, T.C, dx10, _, _, rfl, h10, T.cl, T.n_pairs, fl_pairs, _, rfl, _, rfl, _, rfl, pp, _, rfl, SqL.of lb10.hpp, fun p hp => ?_⟩
        rw [ecut]
        refine ⟨p, _, rfl, .inl ⟨SqL.of upd_same, fun t2 ht2 => ?_⟩⟩
        have s11 := (same_new (o := .lst ((as.take f.toNat).map V.ref)) hp).trans (same_new (o := .tup ((as.take f.toNat).map V.ref)) ht2)
        refine ⟨_, _, rfl, eqd_prs (hps10.mono fun b xs e => s11 _ _ e) ((lb10.prs.take f.toNat).mono fun b xs e => s11 _ _ e) (s11 _ _ hpa10) upd_same (by rw [List.length_take]; omega), true, rfl, iteF ?_⟩
        exact ⟨_, _, _, _, _, _, rfl, lb10.same s11⟩
      clear hfe hf0 hf1 f lb hco hbs hnq H8 v9' v8' v7' v11 v12
      rintro σ' H8 ⟨v7', v8', v9', v10', v11, v12, rfl, lb⟩
      -- _law_corpus
      refine ⟨_, rfl, _, rfl, _, rfl, q, _, 1, .ref ta, rfl, rfl, SqT.of lb.hq, rfl, nq, ta, ns, 30, A, ps, rfl, lb.hnq, sm, lb.al, lb.pr, lb.txt, by omega, by decide, by omega, fun H9 co9 cs9 C9 s9 hn9 hco9 hcs9 ov9 tl9 cl9 => ?_⟩
      have lb9 := lb.same s9
      clear cok lrn60 cfl
      refine ⟨fun σ' H' => ∃ (v7 v8 v9 v11 v12 : Option V) (co : Addr) (cs : List Addr) (C : Corpus), σ' = [some (.ref a), some (.int (0 + (i : Int))), some (.ref nq), some (vt A), some (.ref q), some (.ref pp), some (.ref x), v7, v8, v9, some (.ref co), v11, v12, v13] ∧ LB PN H H' nq ns A ps q pp ta as ∧ H' co = some (.lst (cs.map V.ref)) ∧ CorAt H' cs C ∧ CorOk A C, ?_, ?_⟩
      · refine ⟨_, rfl, nq, _, 1, _, rfl, rfl, SqL.of lb9.hnq, hn1, _, _, rfl, rfl, ⟨by decide, by decide⟩, .inl ⟨_, rfl, _, _, rfl, rfl, (by show (0 : Int) < 4; decide), rfl, _, rfl, iteB ?_ ?_⟩⟩
        · obtain ⟨c, hc, hcA⟩ := at_neg (l := (tx A).cps.toList) (by simp [tx]; omega)
          have hcA' : c ∈ A := by simpa [tx] using hcA
          refine ⟨_, rfl, .inl ⟨rfl, _, SqL.of hco9⟩, _, rfl, _, rfl, tx A, -1, c, rfl, rfl, by rw [tx_len]; exact small_line (by omega), hc, _, rfl, nq, _, 2, _, rfl, rfl, SqL.of lb9.hnq, hn2, _, _, rfl, rfl, .inr ⟨by decide, by decide⟩, _, rfl, nq, _, 3, _, rfl, rfl, SqL.of lb9.hnq, hn3, _, _, rfl, rfl, .inl ⟨_, rfl, _, _, rfl, rfl, (by show (0 : Int) < 201; decide), c, (n2 * 7 + n3) % 201, rfl, rfl, by omega, by omega, two, fun u hu => ?_⟩⟩
          have ncu : co9 ≠ u := ne_of_none hco9 hu
          have lc : (cs9.map V.ref).length = C9.length := by rw [List.length_map, hcs9.len]
          refine ⟨co9, _, _, rfl, rfl, by rw [upd_ne ncu]; exact hco9, small_lt (by rw [lc]; omega), ?_⟩
          have tupc : ∀ b xs, H9 b = some (.tup xs) → b ≠ co9 := fun b xs e => ne_of e hco9 (by intro z; cases z)
          have su := same_new (o := .tup [.str ⟨(List.replicate ((n2 * 7 + n3) % 201).toNat c).toArray⟩, .int 2]) hu
          refine ⟨_, _, _, _, _, co9, cs9 ++ [u], C9 ++ [(List.replicate ((n2 * 7 + n3) % 201).toNat c, 2)], rfl, lb.same (Same.mut (s9.trans su) hn9), by rw [upd_same]; simp, CorAt.snoc (hcs9.mono fun b xs e => by rw [upd_ne (tupc b xs e)]; exact su _ _ e) (by rw [upd_ne (Ne.symm ncu)]; exact upd_same), ?_, ?_, by rw [List.length_append]; show C9.length + 1 ≤ _; omega⟩
          · intro e he y hy
            rcases List.mem_append.mp he with z | z
            · exact ov9 e z y hy
            · rw [List.mem_singleton.mp z] at hy
              rw [(List.mem_replicate.mp hy).2]
              exact hcA'
          · intro e he
            rcases List.mem_append.mp he with z | z
            · exact Nat.le_trans (tl9 e z) (by decide)
            · rw [List.mem_singleton.mp z]
              show (List.replicate ((n2 * 7 + n3) % 201).toNat c).length ≤ 1000
              rw [List.length_replicate]
              omega
        · exact ⟨_, _, _, _, _, co9, cs9, C9, rfl, lb9, hco9, hcs9, ov9, fun e he => Nat.le_trans (tl9 e he) (by decide), by omega⟩
      clear lb9 hn9 hco9 hcs9 ov9 tl9 cl9 s9 C9 cs9 co9 H9 lb H8 v9' v8' v7' v10' v11 v12
      rintro σ' H8 ⟨v7', v8', v9', v11, v12, co, cs, C, rfl, lb, hco, hcs, cok⟩
      have l5 := lb.l5
      -- handed
      refine ⟨_, rfl, co, _, rfl, .inl (SqL.of hco), fun l hl => ?_⟩
      have s9 := same_new (o := .lst (cs.map V.ref)) hl
      have lb9 := lb.same s9
      have hco9 := s9 _ _ hco
      have hl9 : (upd H8 l (.lst (cs.map V.ref))) l = some (.lst (cs.map V.ref)) := upd_same
      have hcs9 : CorAt (upd H8 l (.lst (cs.map V.ref))) cs C := hcs.mono fun b xs e => s9 _ _ e
      generalize upd H8 l (.lst (cs.map V.ref)) = H9 at lb9 hco9 hl9 hcs9
      clear s9 hl hcs hco lb H8
      -- learn
      have lm : ∀ m : Nat, m ≤ 20 → A.length + (lrn A C m []).length ≤ 27 := fun m hm => by
        obtain ⟨qs, h1, h2⟩ := lrn_pre (A := A) (C := C) m []
        rw [h1, List.nil_append]
        omega
      refine ⟨_, rfl, _, rfl, _, rfl, nq, _, 9, _, rfl, rfl, SqL.of lb9.hnq, hn9, .inl ⟨_, rfl, _, _, rfl, rfl, (by show (0 : Int) < 20; decide), _, _, rfl, rfl, l, A, 1 + n9 % 20, C, rfl, lb9.al, ⟨cs, .inl hl9, hcs9⟩, cok, lb9.tab, by omega, by omega, lm _ (by omega), fun H10 x10 e10 T10 j10 => ?_⟩⟩
      have lb10 := lb9.next e10 T10
      have hco10 := e10 _ _ hco9 (fun q z => by cases z)
      have hl10 := e10 _ _ hl9 (fun q z => by cases z)
      have hcs10 := hcs9.extN e10
      have tlen := lm (1 + n9 % 20).toNat (by omega)
      have hfew := fun f h => lrn_few (A := A) (C := C) (1 + n9 % 20).toNat f [] h
      generalize lrn A C (1 + n9 % 20).toNat [] = ts at j10 tlen hfew
      clear lb9 hco9 hl9 hcs9 e10 T10 H9
      have prt := j10.pr
      have j10' := j10
      obtain ⟨dx, pa, ta2, ra, na, lg, as2, h10, hpa, hps2⟩ := j10.pairs
      have len2 : (as2.map V.ref).length = ts.length := by rw [List.length_map, hps2.len]
      refine ⟨_, rfl, x10, T.C, dx, _, _, rfl, h10, T.cl, T.n_pairs, fl_pairs, _, _, .type "tuple", .type "tuple", true, rfl, .ty _, .base (.tup hpa), kit_ty (by decide +kernel), true, rfl, iteF ?_⟩
      refine ⟨_, rfl, _, rfl, x10, T.C, dx, _, _, rfl, h10, T.cl, T.n_pairs, fl_pairs, A, pa, as2, ts, rfl, lb10.al, hpa, hps2, prt, by omega, fun H11 s11 => ⟨true, rfl, iteF ?_⟩⟩
      have lb11 := lb10.same s11
      have hco11 := s11 _ _ hco10
      have hl11 := s11 _ _ hl10
      have hcs11 : CorAt H11 cs C := hcs10.mono fun b xs e => s11 _ _ e
      have h11 := s11 _ _ h10
      have hpa11 := s11 _ _ hpa
      have hps11 : PrsAt H11 as2 ts := hps2.mono fun b xs e => s11 _ _ e
      clear lb10 hco10 hl10 hcs10 h10 hpa hps2 j10 j10' s11 H10
      -- few
      have hf0 : 0 ≤ n3 % (((as2.map V.ref).length : Int) + 1) := Int.emod_nonneg _ (by omega)
      have hf1 : n3 % (((as2.map V.ref).length : Int) + 1) < ((as2.map V.ref).length : Int) + 1 := Int.emod_lt_of_pos _ (by omega)
      refine ⟨_, rfl, nq, _, 3, _, rfl, rfl, SqL.of lb11.hnq, hn3, .inl ⟨_, rfl, _, rfl, x10, T.C, dx, _, _, rfl, h11, T.cl, T.n_pairs, fl_pairs, pa, _, rfl, .inr (SqT.of hpa11), _, _, rfl, rfl, _, _, rfl, rfl, (by show (0 : Int) < ((as2.map V.ref).length : Int) + 1; omega), ?_⟩⟩
      have ef : lrn A C (n3 % (((as2.map V.ref).length : Int) + 1)).toNat [] = ts.take (n3 % (((as2.map V.ref).length : Int) + 1)).toNat := by
        rw [hfew _ (by rw [List.length_nil]; omega), List.length_nil, Nat.add_zero]
      refine ⟨_, rfl, _, rfl, _, rfl, co, A, n3 % (((as2.map V.ref).length : Int) + 1), C, rfl, lb11.al, ⟨cs, .inl hco11, hcs11⟩, cok, lb11.tab, hf0, by omega, by rw [ef, List.length_take]; omega, fun H12 x12 e12 T12 j12 => ?_⟩
      rw [ef] at j12
      have lb12 := lb11.next e12 T12
      have hco12 := e12 _ _ hco11 (fun q z => by cases z)
      have hl12 := e12 _ _ hl11 (fun q z => by cases z)
      have hcs12 := hcs11.extN e12
      have h12 := e12 _ _ h11 (fun q z => by cases z)
      have hpa12 := e12 _ _ hpa11 (fun q z => by cases z)
      have hps12 := hps11.extN e12
      obtain ⟨dx12, pa12, ta12, ra12, na12, lg12, as12, hx12, hpx12, hpsx12⟩ := j12.pairs
      refine ⟨x12, T.C, dx12, _, _, rfl, hx12, T.cl, T.n_pairs, fl_pairs, _, rfl, x10, T.C, dx, _, _, rfl, h12, T.cl, T.n_pairs, fl_pairs, _, rfl, _, rfl, pa, _, rfl, hpa12, fun q13 H13 s13 hq13 => ?_⟩
      have ecut : cutV (as2.map V.ref) none (some (n3 % (((as2.map V.ref).length : Int) + 1))) = (as2.take (n3 % (((as2.map V.ref).length : Int) + 1)).toNat).map V.ref := by
        have := cutV_to (as2.map V.ref) (n3 % (((as2.map V.ref).length : Int) + 1)).toNat
        rw [Int.toNat_of_nonneg hf0] at this
        rw [this, List.map_take]
      rw [ecut] at hq13
      refine ⟨_, _, rfl, eqd_prs (hpsx12.mono fun b xs e => s13 _ _ e) ((hps12.take _).mono fun b xs e => s13 _ _ e) (s13 _ _ hpx12) hq13 (by rw [List.length_take]; omega), true, rfl, iteF ?_⟩
      have hcs13 : CorAt H13 cs C := hcs12.mono fun b xs e => s13 _ _ e
      refine ⟨_, rfl, _, rfl, .list (CD C), .list (CD C), .lst (SqL.of (s13 _ _ hl12)) (dp_cor hcs13), .lst (SqL.of (s13 _ _ hco12)) (dp_cor hcs13), sh_CD lb12.al cok.over, sh_CD lb12.al cok.over, false, ?_, iteF ?_⟩
      · have : PyData.eqv (.list (CD C)) (.list (CD C)) = true := by simp only [PyData.eqv, eqv_CD]
        rw [this]
        rfl
      have lb13 := lb12.same s13
      exact ⟨_, _, _, _, _, _, _, _, _, _, _, _, _, rfl, lb13.ext, lb13.tab⟩
    · rintro σ H1 ⟨v1, v2, v3, v4, v5, v6, v7, v8, v9, v10, v11, v12, v13, rfl, e0, T0⟩
      exact cont _
end
end Rj
end
section
set_option Elab.async false
set_option linter.all false
set_option maxRecDepth 100000
set_option maxHeartbeats 0
namespace Rj
open PySem PySem.Spec PyProof.Rows L2
def dIsBetween : He.DefD := ⟨("is_between", none), "is_between", "is_between", defArgs sIsBetween, defBody sIsBetween, defScope sIsBetween, [], []⟩
def dIsAlphabet : He.DefD := ⟨("is_alphabet", none), "is_alphabet", "is_alphabet", defArgs sIsAlphabet, defBody sIsAlphabet, defScope sIsAlphabet, [], []⟩
def dCheckedAlphabet : He.DefD := ⟨("checked_alphabet", none), "checked_alphabet", "checked_alphabet", defArgs sCheckedAlphabet, defBody sCheckedAlphabet, defScope sCheckedAlphabet, [], []⟩
def dPutTogether : He.DefD := ⟨("put_together", none), "put_together", "put_together", defArgs sPutTogether, defBody sPutTogether, defScope sPutTogether, [], []⟩
def dLowestPair : He.DefD := ⟨("lowest_pair", none), "lowest_pair", "lowest_pair", defArgs sLowestPair, defBody sLowestPair, defScope sLowestPair, [], []⟩
def dCutRow : He.DefD := ⟨("cut_row", none), "cut_row", "cut_row", defArgs sCutRow, defBody sCutRow, defScope sCutRow, [], []⟩
def dJInit : He.DefD := ⟨("Joins", some "__init__"), "__init__", "Joins.__init__", defArgs sJInit, defBody sJInit, defScope sJInit, [], []⟩
def dJTake : He.DefD := ⟨("Joins", some "take"), "take", "Joins.take", defArgs sJTake, defBody sJTake, defScope sJTake, [], []⟩
def dJIsProper : He.DefD := ⟨("Joins", some "is_proper"), "is_proper", "Joins.is_proper", defArgs sJIsProper, defBody sJIsProper, defScope sJIsProper, [], []⟩
def dJIsPiece : He.DefD := ⟨("Joins", some "is_piece"), "is_piece", "Joins.is_piece", defArgs sJIsPiece, defBody sJIsPiece, defScope sJIsPiece, [], []⟩
def dJCheckPiece : He.DefD := ⟨("Joins", some "check_piece"), "check_piece", "Joins.check_piece", defArgs sJCheckPiece, defBody sJCheckPiece, defScope sJCheckPiece, [], []⟩
def dJTextOf : He.DefD := ⟨("Joins", some "text_of"), "text_of", "Joins.text_of", defArgs sJTextOf, defBody sJTextOf, defScope sJTextOf, [], []⟩
def dJPieceOf : He.DefD := ⟨("Joins", some "piece_of"), "piece_of", "Joins.piece_of", defArgs sJPieceOf, defBody sJPieceOf, defScope sJPieceOf, [], []⟩
def dJLen : He.DefD := ⟨("Joins", some "__len__"), "__len__", "Joins.__len__", defArgs sJLen, defBody sJLen, defScope sJLen, [], []⟩
def dJEq : He.DefD := ⟨("Joins", some "__eq__"), "__eq__", "Joins.__eq__", defArgs sJEq, defBody sJEq, defScope sJEq, [], []⟩
def dGrown : He.DefD := ⟨("grown", none), "grown", "grown", defArgs sGrown, defBody sGrown, defScope sGrown, [], []⟩
def dLettersOf : He.DefD := ⟨("letters_of", none), "letters_of", "letters_of", defArgs sLettersOf, defBody sLettersOf, defScope sLettersOf, [], []⟩
def dCut : He.DefD := ⟨("cut", none), "cut", "cut", defArgs sCut, defBody sCut, defScope sCut, [], []⟩
def dNeighbors : He.DefD := ⟨("neighbors", none), "neighbors", "neighbors", defArgs sNeighbors, defBody sNeighbors, defScope sNeighbors, [], []⟩
def dNextPair : He.DefD := ⟨("next_pair", none), "next_pair", "next_pair", defArgs sNextPair, defBody sNextPair, defScope sNextPair, [], []⟩
def dLearn : He.DefD := ⟨("learn", none), "learn", "learn", defArgs sLearn, defBody sLearn, defScope sLearn, [], []⟩
def dCorpusOf : He.DefD := ⟨("corpus_of", none), "corpus_of", "corpus_of", defArgs sCorpusOf, defBody sCorpusOf, defScope sCorpusOf, [], []⟩
def dLNumbers : He.DefD := ⟨("_law_numbers", none), "_law_numbers", "_law_numbers", defArgs sLNumbers, defBody sLNumbers, defScope sLNumbers, [], []⟩
def dLSame : He.DefD := ⟨("_law_same", none), "_law_same", "_law_same", defArgs sLSame, defBody sLSame, defScope sLSame, [], []⟩
def dLAlphabet : He.DefD := ⟨("_law_alphabet", none), "_law_alphabet", "_law_alphabet", defArgs sLAlphabet, defBody sLAlphabet, defScope sLAlphabet, [], []⟩
def dLJoinAll : He.DefD := ⟨("_law_join_all", none), "_law_join_all", "_law_join_all", defArgs sLJoinAll, defBody sLJoinAll, defScope sLJoinAll, [], []⟩
def dLStaged : He.DefD := ⟨("_law_staged", none), "_law_staged", "_law_staged", defArgs sLStaged, defBody sLStaged, defScope sLStaged, [], []⟩
def dLLetters : He.DefD := ⟨("_law_letters", none), "_law_letters", "_law_letters", defArgs sLLetters, defBody sLLetters, defScope sLLetters, [], []⟩
def dLIsProper : He.DefD := ⟨("_law_is_proper", none), "_law_is_proper", "_law_is_proper", defArgs sLIsProper, defBody sLIsProper, defScope sLIsProper, [], []⟩
def dLList : He.DefD := ⟨("_law_list", none), "_law_list", "_law_list", defArgs sLList, defBody sLList, defScope sLList, [], []⟩
def dLCorpus : He.DefD := ⟨("_law_corpus", none), "_law_corpus", "_law_corpus", defArgs sLCorpus, defBody sLCorpus, defScope sLCorpus, [], []⟩
def dLAreProper : He.DefD := ⟨("_law_are_proper", none), "_law_are_proper", "_law_are_proper", defArgs sLAreProper, defBody sLAreProper, defScope sLAreProper, [], []⟩
def dLRuns : He.DefD := ⟨("_law_runs", none), "_law_runs", "_law_runs", defArgs sLRuns, defBody sLRuns, defScope sLRuns, [], []⟩
def dLaw : He.DefD := ⟨("law", none), "law", "law", defArgs sLaw, defBody sLaw, defScope sLaw, [], []⟩
def fn0 : List He.DefD := [dIsBetween, dIsAlphabet, dCheckedAlphabet, dPutTogether, dLowestPair, dCutRow, dJInit, dJTake, dJIsProper, dJIsPiece, dJCheckPiece, dJTextOf, dJPieceOf, dJLen, dJEq, dGrown, dLettersOf, dCut, dNeighbors, dNextPair]
def fn1 : List He.DefD := [dLearn, dCorpusOf, dLNumbers, dLSame, dLAlphabet, dLJoinAll, dLStaged, dLLetters, dLIsProper, dLList, dLCorpus, dLAreProper, dLRuns, dLaw]
def fn : List He.DefD := fn0 ++ fn1
def fa0 : List He.Fa := [.glo "is_between", .glo "is_alphabet", .glo "checked_alphabet", .glo "put_together", .glo "lowest_pair", .glo "cut_row", .glo "Joins", .glo "grown", .glo "letters_of", .glo "cut", .glo "neighbors", .glo "next_pair", .glo "learn", .glo "corpus_of", .glo "_law_numbers", .glo "_law_same", .glo "_law_alphabet", .glo "_law_join_all", .glo "_law_staged", .glo "_law_letters", .glo "_law_is_proper", .glo "_law_list", .glo "_law_corpus", .glo "_law_are_proper", .glo "_law_runs", .glo "law", .free "len", .free "isinstance", .free "int", .free "bool"]
def fa1 : List He.Fa := [.free "str", .free "tuple", .free "list", .free "dict", .free "enumerate", .free "range", .free "reversed", .free "sorted", .free "max", .free "min", .free "abs", .int "MOST_LETTERS" 30, .int "LONGEST_PIECE" 40, .cls "Joins", .mkr "Joins", .noat "Joins" "alphabet", .noat "Joins" "pairs", .noat "Joins" "texts", .noat "Joins" "ranks", .noat "Joins" "numbers", .noat "Joins" "longest", .meth "Joins" "take", .meth "Joins" "is_proper", .meth "Joins" "is_piece", .meth "Joins" "check_piece", .meth "Joins" "text_of", .meth "Joins" "piece_of", .meth "Joins" "__len__", .meth "Joins" "__eq__"]
def fa : List He.Fa := fa0 ++ fa1
def loose0 : List Str := ["_wall", "JoinError", "InvalidAlphabet", "NotProper", "NoPiece", "UnknownSign", "InvalidNumber", "MOST_LETTERS", "LONGEST_PIECE", "is_between", "is_alphabet", "checked_alphabet", "put_together", "lowest_pair", "cut_row", "Joins", "grown", "letters_of", "cut", "neighbors"]
def loose1 : List Str := ["next_pair", "learn", "corpus_of", "_law_numbers", "_law_same", "_law_alphabet", "_law_join_all", "_law_staged", "_law_letters", "_law_is_proper", "_law_list", "_law_corpus", "_law_are_proper", "_law_runs"]
def loose : List Str := loose0 ++ loose1
def tf : List He.Defn := [("neighbors", none)]
def ex (K : PySem.W.Frag) : Bool := He.eqO (PySem.W.findIn K (.ref (He.ga K "Joins")) "__class__") (some (some (.builtin "object.__class__"))) && (He.eqO (PySem.W.specialIn K (.builtin "object.__class__") "__get__") (some (some (.builtin "getset_descriptor.__get__"))) && (decide (PySem.W.takesIn K (.builtin "object.__class__") = some true) && (decide (PySem.W.mroIn K (He.ga K "Joins") (.type "object") = some true) && decide (PySem.W.kitOne K (.ref (He.ga K "Joins")) (.ref (He.ga K "Joins")) = some true))))
abbrev R : PySem.W.OpenRow := PySem.W.OpenLaw.row PySem.Challenge.rw_rankedjoins_k14_whole_lists_are_learnt
abbrev hk : PySem.W.Hook := He.hookX 5 fa fn [] tf ex
def ob (s : PySem.W.SharedT) : He.AlX := He.obsX 5 fa fn [] tf ex (HandSHeadRun.getT s)
theorem ob_eq (s : PySem.W.SharedT) : ob s = hk.obs s.abs := He.obsX_eq (HandSHeadRun.getT_eq s)
theorem run (w : World) : HandSHeadRun.RunEq R (PySem.W.view R.prog [39]) hk ob 6000 loose w := by
  intro os
  kernel_rfl
end Rj
end
section
set_option Elab.async false
set_option linter.all false
set_option maxRecDepth 100000
set_option maxHeartbeats 0
/-! the end. -/
namespace Rj
open PySem PySem.Spec PyProof.Rows L2
theorem ex_ok {K : PySem.W.Frag} (h : ex K = true) (cl : Cls K (He.ga K "Joins")) : C8.InsC K (He.ga K "Joins") := by
  obtain ⟨h1, h⟩ := He.ba h
  obtain ⟨h2, h⟩ := He.ba h
  obtain ⟨h3, h⟩ := He.ba h
  obtain ⟨h4, h5⟩ := He.ba h
  exact ⟨cl, He.eqO_ok h1, He.eqO_ok h2, of_decide_eq_true h3, of_decide_eq_true h4, of_decide_eq_true h5⟩
theorem facts {w : World} {K : PySem.W.Frag} {h : Heap} {mg : Str → Option Value} (X : K.In h) (G : h.Ns mainGlobals mg) (c : He.SaysX fa fn [] tf ex w h K) : ∃ T : Wd K mg, T.cN = He.codeOf K ("neighbors", none) ∧ T.fLaw = He.ga K "law" := by
  obtain ⟨dIsBetween', FIsBetween⟩ := c.t.d.def_ 0 (d := dIsBetween) rfl
  obtain ⟨dIsAlphabet', FIsAlphabet⟩ := c.t.d.def_ 1 (d := dIsAlphabet) rfl
  obtain ⟨dCheckedAlphabet', FCheckedAlphabet⟩ := c.t.d.def_ 2 (d := dCheckedAlphabet) rfl
  obtain ⟨dPutTogether', FPutTogether⟩ := c.t.d.def_ 3 (d := dPutTogether) rfl
  obtain ⟨dLowestPair', FLowestPair⟩ := c.t.d.def_ 4 (d := dLowestPair) rfl
  obtain ⟨dCutRow', FCutRow⟩ := c.t.d.def_ 5 (d := dCutRow) rfl
  obtain ⟨dJInit', FJInit⟩ := c.t.d.def_ 6 (d := dJInit) rfl
  obtain ⟨dJTake', FJTake⟩ := c.t.d.def_ 7 (d := dJTake) rfl
  obtain ⟨dJIsProper', FJIsProper⟩ := c.t.d.def_ 8 (d := dJIsProper) rfl
  obtain ⟨dJIsPiece', FJIsPiece⟩ := c.t.d.def_ 9 (d := dJIsPiece) rfl
  obtain ⟨dJCheckPiece', FJCheckPiece⟩ := c.t.d.def_ 10 (d := dJCheckPiece) rfl
  obtain ⟨dJTextOf', FJTextOf⟩ := c.t.d.def_ 11 (d := dJTextOf) rfl
  obtain ⟨dJPieceOf', FJPieceOf⟩ := c.t.d.def_ 12 (d := dJPieceOf) rfl
  obtain ⟨dJLen', FJLen⟩ := c.t.d.def_ 13 (d := dJLen) rfl
  obtain ⟨dJEq', FJEq⟩ := c.t.d.def_ 14 (d := dJEq) rfl
  obtain ⟨dGrown', FGrown⟩ := c.t.d.def_ 15 (d := dGrown) rfl
  obtain ⟨dLettersOf', FLettersOf⟩ := c.t.d.def_ 16 (d := dLettersOf) rfl
  obtain ⟨dCut', FCut⟩ := c.t.d.def_ 17 (d := dCut) rfl
  obtain ⟨dNeighbors', FNeighbors⟩ := c.t.d.def_ 18 (d := dNeighbors) rfl
  obtain ⟨dNextPair', FNextPair⟩ := c.t.d.def_ 19 (d := dNextPair) rfl
  obtain ⟨dLearn', FLearn⟩ := c.t.d.def_ 20 (d := dLearn) rfl
  obtain ⟨dCorpusOf', FCorpusOf⟩ := c.t.d.def_ 21 (d := dCorpusOf) rfl
  obtain ⟨dLNumbers', FLNumbers⟩ := c.t.d.def_ 22 (d := dLNumbers) rfl
  obtain ⟨dLSame', FLSame⟩ := c.t.d.def_ 23 (d := dLSame) rfl
  obtain ⟨dLAlphabet', FLAlphabet⟩ := c.t.d.def_ 24 (d := dLAlphabet) rfl
  obtain ⟨dLJoinAll', FLJoinAll⟩ := c.t.d.def_ 25 (d := dLJoinAll) rfl
  obtain ⟨dLStaged', FLStaged⟩ := c.t.d.def_ 26 (d := dLStaged) rfl
  obtain ⟨dLLetters', FLLetters⟩ := c.t.d.def_ 27 (d := dLLetters) rfl
  obtain ⟨dLIsProper', FLIsProper⟩ := c.t.d.def_ 28 (d := dLIsProper) rfl
  obtain ⟨dLList', FLList⟩ := c.t.d.def_ 29 (d := dLList) rfl
  obtain ⟨dLCorpus', FLCorpus⟩ := c.t.d.def_ 30 (d := dLCorpus) rfl
  obtain ⟨dLAreProper', FLAreProper⟩ := c.t.d.def_ 31 (d := dLAreProper) rfl
  obtain ⟨dLRuns', FLRuns⟩ := c.t.d.def_ 32 (d := dLRuns) rfl
  obtain ⟨dLaw', FLaw⟩ := c.t.d.def_ 33 (d := dLaw) rfl
  have hN : ∃ (oc : Value) (od : Option Addr) (dV kV doc pm : Value) (an : Option Addr) (ct : Value) (osl : Array (Option Value)), dNeighbors' = PySem.W.fnOf "neighbors" "neighbors" (defArgs sNeighbors) (defBody sNeighbors) (defScope sNeighbors) dV kV doc pm an (.ref (He.codeOf K ("neighbors", none))) ct ∧ K.lookup (He.fAd K ("neighbors", none)) = some ⟨oc, od, .func dNeighbors', osl⟩ ∧ PySem.W.codeIn K (.ref (He.codeOf K ("neighbors", none))) "neighbors" = true := by
    obtain ⟨oc, od, dV, kV, doc, pm, an, cdv, ct, osl, e, lk, hcd, _, _⟩ := FNeighbors.ex
    obtain ⟨cc, rfl⟩ := He.codeIn_ref hcd
    have ec : cc = He.codeOf K ("neighbors", none) := by
      have z := He.codeOf_eq (p := ("neighbors", none)) (c := cc) lk (by rw [e])
      first | exact z | exact z.symm
    rw [← ec]
    exact ⟨oc, od, dV, kV, doc, pm, an, ct, osl, e, lk, hcd⟩
  have cl : Cls K (He.ga K "Joins") := He.cls_ok (c.t.d.fact 43 (f := .cls "Joins") rfl)
  refine ⟨{
    fIsBetween := He.fAd K ("is_between", none), dIsBetween := dIsBetween', FIsBetween := FIsBetween, gIsBetween := He.glo_ok X G (c.t.d.fact 0 (f := .glo "is_between") rfl),
    fIsAlphabet := He.fAd K ("is_alphabet", none), dIsAlphabet := dIsAlphabet', FIsAlphabet := FIsAlphabet, gIsAlphabet := He.glo_ok X G (c.t.d.fact 1 (f := .glo "is_alphabet") rfl),
    fCheckedAlphabet := He.fAd K ("checked_alphabet", none), dCheckedAlphabet := dCheckedAlphabet', FCheckedAlphabet := FCheckedAlphabet, gCheckedAlphabet := He.glo_ok X G (c.t.d.fact 2 (f := .glo "checked_alphabet") rfl),
    fPutTogether := He.fAd K ("put_together", none), dPutTogether := dPutTogether', FPutTogether := FPutTogether, gPutTogether := He.glo_ok X G (c.t.d.fact 3 (f := .glo "put_together") rfl),
    fLowestPair := He.fAd K ("lowest_pair", none), dLowestPair := dLowestPair', FLowestPair := FLowestPair, gLowestPair := He.glo_ok X G (c.t.d.fact 4 (f := .glo "lowest_pair") rfl),
    fCutRow := He.fAd K ("cut_row", none), dCutRow := dCutRow', FCutRow := FCutRow, gCutRow := He.glo_ok X G (c.t.d.fact 5 (f := .glo "cut_row") rfl),
    fJInit := He.fAd K ("Joins", some "__init__"), dJInit := dJInit', FJInit := FJInit,
    fJTake := He.fAd K ("Joins", some "take"), dJTake := dJTake', FJTake := FJTake,
    fJIsProper := He.fAd K ("Joins", some "is_proper"), dJIsProper := dJIsProper', FJIsProper := FJIsProper,
    fJIsPiece := He.fAd K ("Joins", some "is_piece"), dJIsPiece := dJIsPiece', FJIsPiece := FJIsPiece,
    fJCheckPiece := He.fAd K ("Joins", some "check_piece"), dJCheckPiece := dJCheckPiece', FJCheckPiece := FJCheckPiece,
    fJTextOf := He.fAd K ("Joins", some "text_of"), dJTextOf := dJTextOf', FJTextOf := FJTextOf,
    fJPieceOf := He.fAd K ("Joins", some "piece_of"), dJPieceOf := dJPieceOf', FJPieceOf := FJPieceOf,
    fJLen := He.fAd K ("Joins", some "__len__"), dJLen := dJLen', FJLen := FJLen,
    fJEq := He.fAd K ("Joins", some "__eq__"), dJEq := dJEq', FJEq := FJEq,
    fGrown := He.fAd K ("grown", none), dGrown := dGrown', FGrown := FGrown, gGrown := He.glo_ok X G (c.t.d.fact 7 (f := .glo "grown") rfl),
    fLettersOf := He.fAd K ("letters_of", none), dLettersOf := dLettersOf', FLettersOf := FLettersOf, gLettersOf := He.glo_ok X G (c.t.d.fact 8 (f := .glo "letters_of") rfl),
    fCut := He.fAd K ("cut", none), dCut := dCut', FCut := FCut, gCut := He.glo_ok X G (c.t.d.fact 9 (f := .glo "cut") rfl),
    fNeighbors := He.fAd K ("neighbors", none), dNeighbors := dNeighbors', FNeighbors := FNeighbors, gNeighbors := He.glo_ok X G (c.t.d.fact 10 (f := .glo "neighbors") rfl),
    fNextPair := He.fAd K ("next_pair", none), dNextPair := dNextPair', FNextPair := FNextPair, gNextPair := He.glo_ok X G (c.t.d.fact 11 (f := .glo "next_pair") rfl),
    fLearn := He.fAd K ("learn", none), dLearn := dLearn', FLearn := FLearn, gLearn := He.glo_ok X G (c.t.d.fact 12 (f := .glo "learn") rfl),
    fCorpusOf := He.fAd K ("corpus_of", none), dCorpusOf := dCorpusOf', FCorpusOf := FCorpusOf, gCorpusOf := He.glo_ok X G (c.t.d.fact 13 (f := .glo "corpus_of") rfl),
    fLNumbers := He.fAd K ("_law_numbers", none), dLNumbers := dLNumbers', FLNumbers := FLNumbers, gLNumbers := He.glo_ok X G (c.t.d.fact 14 (f := .glo "_law_numbers") rfl),
    fLSame := He.fAd K ("_law_same", none), dLSame := dLSame', FLSame := FLSame, gLSame := He.glo_ok X G (c.t.d.fact 15 (f := .glo "_law_same") rfl),
    fLAlphabet := He.fAd K ("_law_alphabet", none), dLAlphabet := dLAlphabet', FLAlphabet := FLAlphabet, gLAlphabet := He.glo_ok X G (c.t.d.fact 16 (f := .glo "_law_alphabet") rfl),
    fLJoinAll := He.fAd K ("_law_join_all", none), dLJoinAll := dLJoinAll', FLJoinAll := FLJoinAll, gLJoinAll := He.glo_ok X G (c.t.d.fact 17 (f := .glo "_law_join_all") rfl),
    fLStaged := He.fAd K ("_law_staged", none), dLStaged := dLStaged', FLStaged := FLStaged, gLStaged := He.glo_ok X G (c.t.d.fact 18 (f := .glo "_law_staged") rfl),
    fLLetters := He.fAd K ("_law_letters", none), dLLetters := dLLetters', FLLetters := FLLetters, gLLetters := He.glo_ok X G (c.t.d.fact 19 (f := .glo "_law_letters") rfl),
    fLIsProper := He.fAd K ("_law_is_proper", none), dLIsProper := dLIsProper', FLIsProper := FLIsProper, gLIsProper := He.glo_ok X G (c.t.d.fact 20 (f := .glo "_law_is_proper") rfl),
    fLList := He.fAd K ("_law_list", none), dLList := dLList', FLList := FLList, gLList := He.glo_ok X G (c.t.d.fact 21 (f := .glo "_law_list") rfl),
    fLCorpus := He.fAd K ("_law_corpus", none), dLCorpus := dLCorpus', FLCorpus := FLCorpus, gLCorpus := He.glo_ok X G (c.t.d.fact 22 (f := .glo "_law_corpus") rfl),
    fLAreProper := He.fAd K ("_law_are_proper", none), dLAreProper := dLAreProper', FLAreProper := FLAreProper, gLAreProper := He.glo_ok X G (c.t.d.fact 23 (f := .glo "_law_are_proper") rfl),
    fLRuns := He.fAd K ("_law_runs", none), dLRuns := dLRuns', FLRuns := FLRuns, gLRuns := He.glo_ok X G (c.t.d.fact 24 (f := .glo "_law_runs") rfl),
    fLaw := He.fAd K ("law", none), dLaw := dLaw', FLaw := FLaw, gLaw := He.glo_ok X G (c.t.d.fact 25 (f := .glo "law") rfl),
    C := He.ga K "Joins", gC := He.glo_ok X G (c.t.d.fact 6 (f := .glo "Joins") rfl), cl := cl, mkC := He.mkr_ok (c.t.d.fact 44 (f := .mkr "Joins") rfl),
    n_alphabet := He.noat_ok (c.t.d.fact 45 (f := .noat "Joins" "alphabet") rfl),
    n_pairs := He.noat_ok (c.t.d.fact 46 (f := .noat "Joins" "pairs") rfl),
    n_texts := He.noat_ok (c.t.d.fact 47 (f := .noat "Joins" "texts") rfl),
    n_ranks := He.noat_ok (c.t.d.fact 48 (f := .noat "Joins" "ranks") rfl),
    n_numbers := He.noat_ok (c.t.d.fact 49 (f := .noat "Joins" "numbers") rfl),
    n_longest := He.noat_ok (c.t.d.fact 50 (f := .noat "Joins" "longest") rfl),
    mJTake := He.meth_ok (c.t.d.fact 51 (f := .meth "Joins" "take") rfl),
    mJIsProper := He.meth_ok (c.t.d.fact 52 (f := .meth "Joins" "is_proper") rfl),
    mJIsPiece := He.meth_ok (c.t.d.fact 53 (f := .meth "Joins" "is_piece") rfl),
    mJCheckPiece := He.meth_ok (c.t.d.fact 54 (f := .meth "Joins" "check_piece") rfl),
    mJTextOf := He.meth_ok (c.t.d.fact 55 (f := .meth "Joins" "text_of") rfl),
    mJPieceOf := He.meth_ok (c.t.d.fact 56 (f := .meth "Joins" "piece_of") rfl),
    mJLen := He.meth_ok (c.t.d.fact 57 (f := .meth "Joins" "__len__") rfl),
    mJEq := He.meth_ok (c.t.d.fact 58 (f := .meth "Joins" "__eq__") rfl),
    no_len := He.free_ok X G (c.t.d.fact 26 (f := .free "len") rfl),
    no_isinstance := He.free_ok X G (c.t.d.fact 27 (f := .free "isinstance") rfl),
    no_int := He.free_ok X G (c.t.d.fact 28 (f := .free "int") rfl),
    no_bool := He.free_ok X G (c.t.d.fact 29 (f := .free "bool") rfl),
    no_str := He.free_ok X G (c.t.d.fact 30 (f := .free "str") rfl),
    no_tuple := He.free_ok X G (c.t.d.fact 31 (f := .free "tuple") rfl),
    no_list := He.free_ok X G (c.t.d.fact 32 (f := .free "list") rfl),
    no_dict := He.free_ok X G (c.t.d.fact 33 (f := .free "dict") rfl),
    no_enumerate := He.free_ok X G (c.t.d.fact 34 (f := .free "enumerate") rfl),
    no_range := He.free_ok X G (c.t.d.fact 35 (f := .free "range") rfl),
    no_reversed := He.free_ok X G (c.t.d.fact 36 (f := .free "reversed") rfl),
    no_sorted := He.free_ok X G (c.t.d.fact 37 (f := .free "sorted") rfl),
    no_max := He.free_ok X G (c.t.d.fact 38 (f := .free "max") rfl),
    no_min := He.free_ok X G (c.t.d.fact 39 (f := .free "min") rfl),
    no_abs := He.free_ok X G (c.t.d.fact 40 (f := .free "abs") rfl),
    ic := ex_ok c.more cl, cN := He.codeOf K ("neighbors", none), exN := hN,
    iML := He.int_ok X G (c.t.d.fact 41 (f := .int "MOST_LETTERS" 30) rfl), iLP := He.int_ok X G (c.t.d.fact 42 (f := .int "LONGEST_PIECE" 40) rfl) }, rfl, rfl⟩
theorem law_at {w : World} {K : PySem.W.Frag} {h : Heap} {mg : Str → Option Value} {f : Addr} (X : K.In h) (G : h.Ns mainGlobals mg) (hf : mg ("law" : Str) = some (.ref f)) (c : He.SaysX fa fn [] tf ex w h K) : LamX.LawAtS PySem.Challenge.rw_rankedjoins_k14_whole_lists_are_learnt w K CX0 9 63 "_law_script" mg f h := by
  obtain ⟨T, hc, hl⟩ := facts X G c
  have e := hf.symm.trans T.gLaw
  cases e
  have mN : (("neighbors", none) : He.Defn) ∈ tf := List.mem_singleton.mpr rfl
  refine ⟨T.dLaw, [He.cT K ("neighbors", none)], spLaw K (He.cT K ("neighbors", none)).2, fun p hp => ?_, fun p hp => ?_, fun p hp => ?_, fun s u => FunD.bindsA (ps := ["_law_script"]) T.FLaw (fun _ _ _ _ _ _ us hl => match us, hl with | [_], _ => rfl) s [u] rfl, fun H a ns _ _ hH hS => ⟨a, ns, rfl, hS, LamX.TabS.nil (hH _ List.mem_cons_self), fun _ => rfl⟩, fun base _ _ TB => ok_law T (by rw [hc]; exact TB _ List.mem_cons_self)⟩
  · rw [List.mem_singleton.mp hp]
    exact c.empty _ mN
  · rw [List.mem_singleton.mp hp]
    exact c.out _ mN
  · rw [List.mem_singleton.mp hp]
    exact PySem.W.codeHd_of_K X (c.hd _ mN)
end Rj
open PySem PySem.W PySem.Calls PyProof.Rows
theorem PySem.Challenge.cw_rankedjoins_k14_whole_lists_are_learnt_holds : PySem.Challenge.rw_rankedjoins_k14_whole_lists_are_learnt.Holds := by
  w_on; o_law
  refine HandSHeadRun.head_any (r := OpenLaw.row PySem.Challenge.rw_rankedjoins_k14_whole_lists_are_learnt) (q := view (OpenLaw.row PySem.Challenge.rw_rankedjoins_k14_whole_lists_are_learnt).prog [39]) (H := Rj.hk) (ob := Rj.ob) (M := 6000) (loose := Rj.loose) (d := HandSHeadRun.topDef (OpenLaw.row PySem.Challenge.rw_rankedjoins_k14_whole_lists_are_learnt).prog 39) (kwd := []) Rj.ob_eq
    (by kernel_rfl) (fun s => by kernel_rfl) Rj.run (by kernel_rfl) (by kernel_rfl) (by kernel_rfl) (by rfl) (by first | assumption | decide +kernel) (by decide +kernel) ⟨rfl, rfl, rfl, rfl, rfl, by decide +kernel⟩ ?hw ?hc
  case hw => w_witness2
  case hc =>
    refine LamX.walk_ofTsE (l := PySem.Challenge.rw_rankedjoins_k14_whole_lists_are_learnt) (n := 63) (k := 9) (x := "_law_script") (CX := fun _ => L2.CX0) rfl (by decide) (by kernel_rfl) ⟨rfl, by decide, by decide⟩ ?F (fun _ _ _ _ _ z => z)
    intro w mg fa h Y G hmg0
    obtain ⟨K, KX, c⟩ := Y
    have hmg : mg ("law" : PySem.Str) = some (.ref fa) := by
      have e : (HandSHeadRun.topDef (OpenLaw.row PySem.Challenge.rw_rankedjoins_k14_whole_lists_are_learnt).prog 39).name = ("law" : PySem.Str) := by kernel_rfl
      rw [← e]
      exact hmg0
    exact ⟨K, KX, Rj.law_at KX G hmg c⟩
end
