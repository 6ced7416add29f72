import PyProof.Rows.All
import Wide.All
import OpenK.AllK
import Wide.FinOn
import HandS.ForMost
import HandS.Conv
import HandS.DictComp
import HandS.IsInst
import HandS.Rev
import HandS.SetFor
import HandS.Zip
import HandS.Walk
import HandS.Codes
import KE.GoesMore
import KE.DatumOrd
import KE.KIndexOf
import PySem.Challenge.RW_chipfloor_k51_whole_tight_rows
set_option Elab.async false
set_option linter.all false
set_option maxRecDepth 100000
set_option maxHeartbeats 4000000
/-! The mathematics of least gaps: passes, their fixed point, what is tight. No program in sight. -/
namespace G51
abbrev Rule := Int × Int × Int
/-- the place of x -/
def pl (L : List Int) (x : Int) : Int := L.getD x.toNat 0
def step (L : List Int) (r : Rule) : List Int := L.set r.2.1.toNat (max (pl L r.2.1) (pl L r.1 + r.2.2))
def pass (rs : List Rule) (L : List Int) : List Int := rs.foldl step L
def P (rs : List Rule) (n : Nat) : Nat → List Int
  | 0 => List.replicate n 0
  | t + 1 => pass rs (P rs n t)
def ROk (n : Nat) (r : Rule) : Prop := 0 ≤ r.1 ∧ r.1 < n ∧ 0 ≤ r.2.1 ∧ r.2.1 < n ∧ -100 ≤ r.2.2 ∧ r.2.2 ≤ 100
def RsOk (n : Nat) (rs : List Rule) : Prop := ∀ r ∈ rs, ROk n r
/-- L is the least places: a fixed point met within n turns -/
def Low (rs : List Rule) (n : Nat) (L : List Int) : Prop := ∃ t, t ≤ n ∧ P rs n t = L ∧ pass rs L = L
theorem step_len (L : List Int) (r : Rule) : (step L r).length = L.length := List.length_set ..
theorem pass_len (rs : List Rule) : ∀ L : List Int, (pass rs L).length = L.length := by
  induction rs with
  | nil => intro L; rfl
  | cons r rs ih =>
    intro L
    show (pass rs (step L r)).length = L.length
    rw [ih, step_len]
theorem P_len (rs : List Rule) (n : Nat) : ∀ t, (P rs n t).length = n
  | 0 => List.length_replicate
  | t + 1 => by
    show (pass rs (P rs n t)).length = n
    rw [pass_len, P_len rs n t]
theorem pl_get {L : List Int} {x : Int} (h0 : 0 ≤ x) (h1 : x < L.length) : L[x.toNat]? = some (pl L x) := by
  have h : x.toNat < L.length := by omega
  unfold pl
  rw [List.getD_eq_getElem?_getD, List.getElem?_eq_getElem h]
  rfl
theorem pl_of {L : List Int} {x v : Int} (h : L[x.toNat]? = some v) : pl L x = v := by
  unfold pl
  rw [List.getD_eq_getElem?_getD, h]
  rfl
theorem pl_mem {L : List Int} {x : Int} (h0 : 0 ≤ x) (h1 : x < L.length) : pl L x ∈ L := List.mem_of_getElem? (pl_get h0 h1)
theorem mem_pl {L : List Int} {v : Int} (h : v ∈ L) : ∃ x : Int, 0 ≤ x ∧ x < L.length ∧ pl L x = v := by
  obtain ⟨i, hi⟩ := List.mem_iff_getElem?.mp h
  have hlt := (List.getElem?_eq_some_iff.mp hi).1
  refine ⟨(i : Int), by omega, by omega, pl_of ?_⟩
  rw [Int.toNat_natCast]
  exact hi
theorem pl_step {L : List Int} {r : Rule} (h : r.2.1.toNat < L.length) (x : Int) : pl (step L r) x = if x.toNat = r.2.1.toNat then max (pl L r.2.1) (pl L r.1 + r.2.2) else pl L x := by
  unfold pl step
  simp only [List.getD_eq_getElem?_getD, List.getElem?_set]
  by_cases e : x.toNat = r.2.1.toNat
  · rw [if_pos e, if_pos e.symm, if_pos h]
    rfl
  · rw [if_neg e, if_neg (fun z => e z.symm)]
/-- sums -/
theorem sum_set' {l : List Int} {j : Nat} {z y : Int} (h : l[j]? = some z) : (l.set j y).sum = l.sum - z + y := by
  induction l generalizing j with
  | nil => simp at h
  | cons b t ih =>
    cases j with
    | zero =>
      have hz : b = z := by simpa using h
      simp only [List.set_cons_zero, List.sum_cons, hz]
      omega
    | succ k =>
      have step := ih (j := k) (by simpa using h)
      simp only [List.set_cons_succ, List.sum_cons, step]
      omega
theorem set_same {l : List Int} {j : Nat} {z : Int} (h : l[j]? = some z) : l.set j z = l := by
  apply List.ext_getElem?
  intro i
  rw [List.getElem?_set]
  by_cases e : j = i
  · subst e
    rw [if_pos rfl, if_pos (List.getElem?_eq_some_iff.mp h).1, h]
  · rw [if_neg e]
theorem step_sum {L : List Int} {r : Rule} (h0 : 0 ≤ r.2.1) (h : r.2.1 < L.length) : (step L r).sum = L.sum + (max (pl L r.2.1) (pl L r.1 + r.2.2) - pl L r.2.1) := by
  unfold step
  rw [sum_set' (pl_get h0 h)]
  omega
theorem step_up {L : List Int} {r : Rule} (h0 : 0 ≤ r.2.1) (h : r.2.1 < L.length) : L.sum ≤ (step L r).sum := by
  rw [step_sum h0 h]
  omega
theorem step_new {L : List Int} {r : Rule} (h : pl L r.2.1 < pl L r.1 + r.2.2) : step L r = L.set r.2.1.toNat (pl L r.1 + r.2.2) := by
  unfold step
  rw [show max (pl L r.2.1) (pl L r.1 + r.2.2) = pl L r.1 + r.2.2 by omega]
theorem step_old {L : List Int} {r : Rule} (h0 : 0 ≤ r.2.1) (h1 : r.2.1 < L.length) (h : ¬ pl L r.2.1 < pl L r.1 + r.2.2) : step L r = L := by
  unfold step
  rw [show max (pl L r.2.1) (pl L r.1 + r.2.2) = pl L r.2.1 by omega]
  exact set_same (pl_get h0 h1)
theorem pass_up {n : Nat} {rs : List Rule} : ∀ {L : List Int}, L.length = n → RsOk n rs → L.sum ≤ (pass rs L).sum := by
  induction rs with
  | nil => intro L _ _; exact Int.le_refl _
  | cons r rs ih =>
    intro L hl hr
    obtain ⟨_, _, a, b, _, _⟩ := hr r List.mem_cons_self
    have h1 := step_up (L := L) (r := r) a (by omega)
    have h2 := ih (L := step L r) (by rw [step_len, hl]) (fun q hq => hr q (List.mem_cons_of_mem _ hq))
    show L.sum ≤ (pass rs (step L r)).sum
    omega
/-- at a fixed point every rule is obeyed -/
theorem fix_obeys {n : Nat} {rs : List Rule} : ∀ {L : List Int}, L.length = n → RsOk n rs → pass rs L = L → ∀ r ∈ rs, pl L r.1 + r.2.2 ≤ pl L r.2.1 := by
  induction rs with
  | nil => intro L _ _ _ r hr; cases hr
  | cons q rs ih =>
    intro L hl hr hf
    obtain ⟨_, _, a, b, _, _⟩ := hr q List.mem_cons_self
    have hr' : RsOk n rs := fun q hq => hr q (List.mem_cons_of_mem _ hq)
    have h2 := pass_up (n := n) (L := step L q) (by rw [step_len, hl]) hr'
    have hf' : pass rs (step L q) = L := hf
    have hs := step_sum (L := L) (r := q) a (by omega)
    rw [hf'] at h2
    have hq : ¬ pl L q.2.1 < pl L q.1 + q.2.2 := by omega
    have e : step L q = L := step_old a (by omega) hq
    rw [e] at hf'
    intro r hr1
    rcases List.mem_cons.mp hr1 with z | z
    · subst z
      omega
    · exact ih hl hr' hf' r z
/-- what obeys all rules lies above every pass -/
theorem pass_below {n : Nat} {rs : List Rule} (F : Int → Int) (hF : ∀ r ∈ rs, F r.1 + r.2.2 ≤ F r.2.1) : ∀ {L : List Int}, L.length = n → RsOk n rs → (∀ x : Int, 0 ≤ x → x < n → pl L x ≤ F x) →
    ∀ x : Int, 0 ≤ x → x < n → pl (pass rs L) x ≤ F x := by
  induction rs with
  | nil => intro L _ _ h; exact h
  | cons q rs ih =>
    intro L hl hr h
    obtain ⟨c, d, a, b, _, _⟩ := hr q List.mem_cons_self
    refine ih (fun r hr => hF r (List.mem_cons_of_mem _ hr)) (L := step L q) (by rw [step_len, hl]) (fun q hq => hr q (List.mem_cons_of_mem _ hq)) fun x h0 h1 => ?_
    rw [pl_step (by omega)]
    have hq := hF q List.mem_cons_self
    have h2 := h q.1 c d
    have h3 := h q.2.1 a b
    by_cases e : x.toNat = q.2.1.toNat
    · have e2 : x = q.2.1 := by omega
      rw [if_pos e, e2]
      omega
    · rw [if_neg e]
      exact h x h0 h1
theorem pass_nn {n : Nat} {rs : List Rule} : ∀ {L : List Int}, L.length = n → RsOk n rs → (∀ x : Int, 0 ≤ x → x < n → 0 ≤ pl L x) → ∀ x : Int, 0 ≤ x → x < n → 0 ≤ pl (pass rs L) x := by
  induction rs with
  | nil => intro L _ _ h; exact h
  | cons q rs ih =>
    intro L hl hr h
    obtain ⟨c, d, a, b, _, _⟩ := hr q List.mem_cons_self
    refine ih (L := step L q) (by rw [step_len, hl]) (fun q hq => hr q (List.mem_cons_of_mem _ hq)) fun x h0 h1 => ?_
    rw [pl_step (by omega)]
    have h3 := h q.2.1 a b
    by_cases e : x.toNat = q.2.1.toNat
    · rw [if_pos e]
      omega
    · rw [if_neg e]
      exact h x h0 h1
theorem pl_zero (n : Nat) (x : Int) : pl (List.replicate n 0) x = 0 := by
  unfold pl
  rw [List.getD_eq_getElem?_getD, List.getElem?_replicate]
  split <;> rfl
theorem P_nn {n : Nat} {rs : List Rule} (hr : RsOk n rs) : ∀ (t : Nat) (x : Int), 0 ≤ x → x < n → 0 ≤ pl (P rs n t) x
  | 0, x, _, _ => by
    show 0 ≤ pl (List.replicate n 0) x
    rw [pl_zero]
    exact Int.le_refl _
  | t + 1, x, h0, h1 => pass_nn (P_len rs n t) hr (P_nn hr t) x h0 h1
theorem P_below {n : Nat} {rs : List Rule} (hr : RsOk n rs) (F : Int → Int) (h0 : ∀ x : Int, 0 ≤ x → x < n → 0 ≤ F x) (hF : ∀ r ∈ rs, F r.1 + r.2.2 ≤ F r.2.1) : ∀ (t : Nat) (x : Int), 0 ≤ x → x < n → pl (P rs n t) x ≤ F x
  | 0, x, a, b => by
    show pl (List.replicate n 0) x ≤ F x
    rw [pl_zero]
    exact h0 x a b
  | t + 1, x, a, b => pass_below F hF (P_len rs n t) hr (P_below hr F h0 hF t) x a b
/-- what holds the zeros and is closed under tight rules holds everything -/
theorem reach {n : Nat} {rs : List Rule} {L : List Int} (hr : RsOk n rs) (hL : Low rs n L) (S : Int → Prop) (hz : ∀ x : Int, 0 ≤ x → x < n → pl L x = 0 → S x)
    (hc : ∀ r ∈ rs, S r.1 → pl L r.1 + r.2.2 = pl L r.2.1 → S r.2.1) : ∀ x : Int, 0 ≤ x → x < n → S x := by
  obtain ⟨t, ht, e, hf⟩ := hL
  have hlen : L.length = n := by
    rw [← e]
    exact P_len rs n t
  have ob := fix_obeys hlen hr hf
  classical
  have nn : ∀ x : Int, 0 ≤ x → x < n → 0 ≤ pl L x := by
    rw [← e]
    exact P_nn hr t
  have below := P_below hr (fun x => if S x then pl L x else pl L x - 1) (fun x a b => by
    have h1 := nn x a b
    show 0 ≤ if S x then pl L x else pl L x - 1
    by_cases s : S x
    · rw [if_pos s]
      exact h1
    · rw [if_neg s]
      have h2 : pl L x ≠ 0 := fun z => s (hz x a b z)
      omega) (fun r hr1 => by
    have h1 := ob r hr1
    show (if S r.1 then pl L r.1 else pl L r.1 - 1) + r.2.2 ≤ if S r.2.1 then pl L r.2.1 else pl L r.2.1 - 1
    by_cases s : S r.1
    · rw [if_pos s]
      by_cases s2 : S r.2.1
      · rw [if_pos s2]
        exact h1
      · rw [if_neg s2]
        have h2 : pl L r.1 + r.2.2 ≠ pl L r.2.1 := fun z => s2 (hc r hr1 s z)
        omega
    · rw [if_neg s]
      by_cases s2 : S r.2.1
      · rw [if_pos s2]
        omega
      · rw [if_neg s2]
        omega) t
  rw [e] at below
  intro x a b
  have h := below x a b
  by_cases s : S x
  · exact s
  · exfalso
    have h' : pl L x ≤ if S x then pl L x else pl L x - 1 := h
    rw [if_neg s] at h'
    omega
/-- fixed points agree -/
theorem P_stay {rs : List Rule} {n t : Nat} (h : pass rs (P rs n t) = P rs n t) : ∀ k, P rs n (t + k) = P rs n t
  | 0 => rfl
  | k + 1 => by
    show pass rs (P rs n (t + k)) = P rs n t
    rw [P_stay h k, h]
theorem low_eq {rs : List Rule} {n : Nat} {L : List Int} (h : Low rs n L) {t : Nat} (ht : pass rs (P rs n t) = P rs n t) : P rs n t = L := by
  obtain ⟨u, _, e, hf⟩ := h
  rw [← e] at hf ⊢
  rcases Nat.le_total t u with z | z
  · have := P_stay ht (u - t)
    rw [show t + (u - t) = u by omega] at this
    exact this.symm
  · have := P_stay hf (t - u)
    rw [show u + (t - u) = t by omega] at this
    exact this
theorem Low.len {rs : List Rule} {n : Nat} {L : List Int} (h : Low rs n L) : L.length = n := by
  obtain ⟨t, _, e, _⟩ := h
  rw [← e]
  exact P_len rs n t
/-- partial passes -/
theorem pass_more {rs : List Rule} {i : Nat} {r : Rule} (h : rs[i]? = some r) (L : List Int) : pass (rs.take (i + 1)) L = step (pass (rs.take i) L) r := by
  unfold pass
  rw [List.take_add_one, h, List.foldl_append]
  rfl
/-! ### what the search has met: things with the thing before them, in the order in which they were met -/
abbrev PL := List (Int × Option Int)
def keys (ps : PL) : List Int := ps.map (·.1)
def Tight (rs : List Rule) (L : List Int) (a b : Int) : Prop := ∃ g, (a, b, g) ∈ rs ∧ pl L a + g = pl L b
structure QI (n : Nat) (rs : List Rule) (L : List Int) (ps : PL) : Prop where
  nd : (keys ps).Nodup
  rng : ∀ x ∈ keys ps, 0 ≤ x ∧ x < n
  zero : ∀ x : Int, 0 ≤ x → x < n → pl L x = 0 → x ∈ keys ps
  ok : ∀ (i : Nat) (x : Int) (o : Option Int), ps[i]? = some (x, o) → (o = none ∧ pl L x = 0) ∨ ∃ y, o = some y ∧ Tight rs L y x ∧ ∃ j, j < i ∧ (keys ps)[j]? = some y
def Done (rs : List Rule) (L : List Int) (ps : PL) (k : Nat) : Prop := ∀ (j : Nat) (y : Int), j < k → (keys ps)[j]? = some y → ∀ r ∈ rs, r.1 = y → pl L y + r.2.2 = pl L r.2.1 → r.2.1 ∈ keys ps
def Part (rs : List Rule) (L : List Int) (ps : PL) (y : Int) (m : Nat) : Prop := ∀ r ∈ rs.take m, r.1 = y → pl L y + r.2.2 = pl L r.2.1 → r.2.1 ∈ keys ps
theorem keys_more (ps : PL) (x : Int) (o : Option Int) : keys (ps ++ [(x, o)]) = keys ps ++ [x] := by
  unfold keys
  rw [List.map_append]
  rfl
theorem keys_len (ps : PL) : (keys ps).length = ps.length := List.length_map ..
theorem get_mono {l : List Int} {i : Nat} {x : Int} (h : l[i]? = some x) (y : Int) : (l ++ [y])[i]? = some x := by
  have hi := (List.getElem?_eq_some_iff.mp h).1
  rw [List.getElem?_append_left hi, h]
theorem QI.more {n : Nat} {rs : List Rule} {L : List Int} {ps : PL} {x y : Int} {k : Nat} (h : QI n rs L ps) (hx : x ∉ keys ps) (h0 : 0 ≤ x) (h1 : x < n) (hy : (keys ps)[k]? = some y) (ht : Tight rs L y x) :
    QI n rs L (ps ++ [(x, some y)]) := by
  refine ⟨?_, ?_, ?_, ?_⟩
  · rw [keys_more, List.nodup_append]
    refine ⟨h.nd, by simp, fun a ha b hb => ?_⟩
    have e : b = x := by simpa using hb
    subst e
    exact fun z => hx (z ▸ ha)
  · rw [keys_more]
    intro z hz
    rcases List.mem_append.mp hz with z1 | z1
    · exact h.rng z z1
    · have e : z = x := by simpa using z1
      subst e
      exact ⟨h0, h1⟩
  · rw [keys_more]
    intro z a b c
    exact List.mem_append_left _ (h.zero z a b c)
  · rw [keys_more]
    intro i z o hi
    by_cases hlt : i < ps.length
    · rw [List.getElem?_append_left hlt] at hi
      rcases h.ok i z o hi with c | ⟨w, e, t, j, hj, hw⟩
      · exact .inl c
      · exact .inr ⟨w, e, t, j, hj, get_mono hw x⟩
    · have hi2 := (List.getElem?_eq_some_iff.mp hi).1
      rw [List.length_append, List.length_singleton] at hi2
      have ei : i = ps.length := by omega
      subst ei
      rw [List.getElem?_append_right (Nat.le_refl _), Nat.sub_self] at hi
      have hi3 : (x, some y) = (z, o) := Option.some.inj hi
      cases hi3
      have hk := (List.getElem?_eq_some_iff.mp hy).1
      rw [keys_len] at hk
      exact .inr ⟨y, rfl, ht, k, hk, get_mono hy x⟩
theorem Done.more {rs : List Rule} {L : List Int} {ps : PL} {k : Nat} (h : Done rs L ps k) (hk : k ≤ ps.length) (x : Int) (o : Option Int) : Done rs L (ps ++ [(x, o)]) k := by
  intro j y hj hy r hr e t
  rw [keys_more] at hy ⊢
  rw [List.getElem?_append_left (by rw [keys_len]; omega)] at hy
  exact List.mem_append_left _ (h j y hj hy r hr e t)
theorem Part.more {rs : List Rule} {L : List Int} {ps : PL} {y : Int} {m : Nat} (h : Part rs L ps y m) (x : Int) (o : Option Int) : Part rs L (ps ++ [(x, o)]) y m := by
  intro r hr e t
  rw [keys_more]
  exact List.mem_append_left _ (h r hr e t)
theorem Part.next {rs : List Rule} {L : List Int} {ps : PL} {y : Int} {m : Nat} {r : Rule} (h : Part rs L ps y m) (hr : rs[m]? = some r) (hn : r.1 = y → pl L y + r.2.2 = pl L r.2.1 → r.2.1 ∈ keys ps) : Part rs L ps y (m + 1) := by
  intro q hq e t
  rw [List.take_add_one, hr] at hq
  rcases List.mem_append.mp hq with z | z
  · exact h q z e t
  · have z1 : q = r := by simpa using z
    subst z1
    exact hn e t
theorem Part.zero (rs : List Rule) (L : List Int) (ps : PL) (y : Int) : Part rs L ps y 0 := fun r hr => by
  simp at hr
theorem Done.next {rs : List Rule} {L : List Int} {ps : PL} {k : Nat} {y : Int} (h : Done rs L ps k) (hy : (keys ps)[k]? = some y) (hp : Part rs L ps y rs.length) : Done rs L ps (k + 1) := by
  intro j z hj hz r hr e t
  by_cases hjk : j < k
  · exact h j z hjk hz r hr e t
  · have e2 : j = k := by omega
    subst e2
    rw [hy] at hz
    cases hz
    exact hp r (by rw [List.take_length]; exact hr) e t
theorem QI.len {n : Nat} {rs : List Rule} {L : List Int} {ps : PL} (h : QI n rs L ps) : ps.length ≤ n := by
  have h1 := List.Nodup.length_le_of_subset (l₂ := (List.range n).map fun i : Nat => (i : Int)) h.nd fun x hx => by
    obtain ⟨a, b⟩ := h.rng x hx
    exact List.mem_map.mpr ⟨x.toNat, List.mem_range.mpr (by omega), by omega⟩
  rw [keys_len, List.length_map, List.length_range] at h1
  exact h1
theorem QI.all {n : Nat} {rs : List Rule} {L : List Int} {ps : PL} (h : QI n rs L ps) (hr : RsOk n rs) (hL : Low rs n L) (hd : Done rs L ps ps.length) : ∀ x : Int, 0 ≤ x → x < n → x ∈ keys ps :=
  reach hr hL (fun x => x ∈ keys ps) h.zero fun r hr1 hs ht => by
    obtain ⟨j, hj⟩ := List.mem_iff_getElem?.mp hs
    have hlt := (List.getElem?_eq_some_iff.mp hj).1
    rw [keys_len] at hlt
    exact hd j r.1 hlt hj r hr1 rfl ht
/-- the zeros below i -/
def zeros (L : List Int) (i : Nat) : List Int := ((List.range i).map fun k : Nat => (k : Int)).filter fun x => decide (pl L x = 0)
theorem zeros_succ (L : List Int) (i : Nat) : zeros L (i + 1) = zeros L i ++ if pl L (i : Int) = 0 then [(i : Int)] else [] := by
  unfold zeros
  rw [List.range_succ, List.map_append, List.filter_append]
  congr 1
  show List.filter (fun x => decide (pl L x = 0)) [(i : Int)] = _
  by_cases e : pl L (i : Int) = 0
  · rw [if_pos e, List.filter_cons, if_pos (decide_eq_true e)]
    rfl
  · rw [if_neg e, List.filter_cons, if_neg (by simpa using e)]
    rfl
theorem mem_zeros {L : List Int} {i : Nat} {x : Int} : x ∈ zeros L i ↔ (0 ≤ x ∧ x < i) ∧ pl L x = 0 := by
  unfold zeros
  rw [List.mem_filter, List.mem_map]
  constructor
  · rintro ⟨⟨k, hk, rfl⟩, h⟩
    have := List.mem_range.mp hk
    exact ⟨⟨by omega, by omega⟩, of_decide_eq_true h⟩
  · rintro ⟨⟨h0, h1⟩, h⟩
    exact ⟨⟨x.toNat, List.mem_range.mpr (by omega), by omega⟩, decide_eq_true h⟩
theorem zeros_nodup (L : List Int) (i : Nat) : (zeros L i).Nodup := by
  induction i with
  | zero => exact List.nodup_nil
  | succ i ih =>
    rw [zeros_succ, List.nodup_append]
    refine ⟨ih, by split <;> simp, fun a ha b hb => ?_⟩
    have h1 := (mem_zeros.mp ha).1
    have h2 : b = i := by
      split at hb
      · simpa using hb
      · cases hb
    omega
theorem zeros_len (L : List Int) (i : Nat) : (zeros L i).length ≤ i := by
  unfold zeros
  refine Nat.le_trans (List.length_filter_le _ _) ?_
  rw [List.length_map, List.length_range]
  exact Nat.le_refl _
def start (l : List Int) : PL := l.map fun x => (x, none)
theorem keys_start (l : List Int) : keys (start l) = l := by
  unfold keys start
  rw [List.map_map]
  exact List.map_id _
theorem QI.start {n : Nat} (rs : List Rule) (L : List Int) : QI n rs L (start (zeros L n)) := by
  refine ⟨?_, ?_, ?_, ?_⟩
  · rw [keys_start]
    exact zeros_nodup L n
  · rw [keys_start]
    exact fun x hx => (mem_zeros.mp hx).1
  · rw [keys_start]
    exact fun x a b c => mem_zeros.mpr ⟨⟨a, b⟩, c⟩
  · intro i x o h
    unfold G51.start at h
    rw [List.getElem?_map] at h
    cases e : (zeros L n)[i]? with
    | none =>
      rw [e] at h
      cases h
    | some z =>
      rw [e] at h
      have h' : (z, none) = (x, o) := Option.some.inj h
      cases h'
      exact .inl ⟨rfl, (mem_zeros.mp (List.mem_of_getElem? e)).2⟩
theorem Done.zero (rs : List Rule) (L : List Int) (ps : PL) : Done rs L ps 0 := fun j y hj => absurd hj (Nat.not_lt_zero j)
/-! ### the way back -/
def rk (ps : PL) (x : Int) : Nat := (keys ps).idxOf x
theorem rk_at {ps : PL} (nd : (keys ps).Nodup) {j : Nat} {y : Int} (h : (keys ps)[j]? = some y) : rk ps y = j := by
  obtain ⟨hj, e⟩ := List.getElem?_eq_some_iff.mp h
  unfold rk
  rw [← e]
  exact nd.idxOf_getElem j hj
/-- what a thing's entry says -/
theorem QI.entry {n : Nat} {rs : List Rule} {L : List Int} {ps : PL} (h : QI n rs L ps) {x : Int} (hx : x ∈ keys ps) :
    ∃ o, (x, o) ∈ ps ∧ ((o = none ∧ pl L x = 0) ∨ ∃ y, o = some y ∧ Tight rs L y x ∧ y ∈ keys ps ∧ rk ps y < rk ps x) := by
  obtain ⟨i, hi⟩ := List.mem_iff_getElem?.mp hx
  have hi' := hi
  unfold keys at hi'
  rw [List.getElem?_map] at hi'
  cases e : ps[i]? with
  | none =>
    rw [e] at hi'
    cases hi'
  | some p =>
    rw [e] at hi'
    have e2 : p.1 = x := Option.some.inj hi'
    obtain ⟨a, o⟩ := p
    have e3 : a = x := e2
    subst e3
    refine ⟨o, List.mem_of_getElem? e, ?_⟩
    rcases h.ok i a o e with c | ⟨y, e4, t, j, hj, hy⟩
    · exact .inl c
    · exact .inr ⟨y, e4, t, List.mem_of_getElem? hy, by rw [rk_at h.nd hy, rk_at h.nd hi]; exact hj⟩
structure Back (n : Nat) (rs : List Rule) (L : List Int) (ps : PL) (x0 : Int) (fs : List Int) : Prop where
  first : fs[0]? = some x0
  mem : ∀ x ∈ fs, x ∈ keys ps
  down : fs.Pairwise fun a b => rk ps b < rk ps a
  adj : ∀ (k : Nat) (a b : Int), fs[k]? = some b → fs[k + 1]? = some a → Tight rs L a b
theorem Back.one {n : Nat} {rs : List Rule} {L : List Int} {ps : PL} {x0 : Int} (h : x0 ∈ keys ps) : Back n rs L ps x0 [x0] :=
  ⟨rfl, fun x hx => by have e : x = x0 := by simpa using hx
                       subst e; exact h, List.pairwise_singleton _ _, fun k a b _ h2 => by simp at h2⟩
theorem Back.more {n : Nat} {rs : List Rule} {L : List Int} {ps : PL} {x0 : Int} {fs : List Int} {x y : Int} (h : Back n rs L ps x0 fs) (hx : fs[fs.length - 1]? = some x) (hy : y ∈ keys ps) (ht : Tight rs L y x) (hr : rk ps y < rk ps x) :
    Back n rs L ps x0 (fs ++ [y]) := by
  have h0 := (List.getElem?_eq_some_iff.mp h.first).1
  refine ⟨?_, ?_, ?_, ?_⟩
  · rw [List.getElem?_append_left h0]
    exact h.first
  · intro z hz
    rcases List.mem_append.mp hz with z1 | z1
    · exact h.mem z z1
    · have e : z = y := by simpa using z1
      subst e
      exact hy
  · rw [List.pairwise_append]
    refine ⟨h.down, List.pairwise_singleton _ _, fun a ha b hb => ?_⟩
    have e : b = y := by simpa using hb
    subst e
    obtain ⟨i, hi⟩ := List.mem_iff_getElem?.mp ha
    obtain ⟨hil, ei⟩ := List.getElem?_eq_some_iff.mp hi
    obtain ⟨hxl, ex⟩ := List.getElem?_eq_some_iff.mp hx
    by_cases hlt : i < fs.length - 1
    · have := List.pairwise_iff_getElem.mp h.down i (fs.length - 1) hil hxl hlt
      rw [ei, ex] at this
      omega
    · have e2 : i = fs.length - 1 := by omega
      subst e2
      rw [hx] at hi
      cases hi
      exact hr
  · intro k a b h1 h2
    by_cases hlt : k + 1 < fs.length
    · rw [List.getElem?_append_left (by omega)] at h1
      rw [List.getElem?_append_left hlt] at h2
      exact h.adj k a b h1 h2
    · have hl := (List.getElem?_eq_some_iff.mp h2).1
      rw [List.length_append, List.length_singleton] at hl
      have e : k + 1 = fs.length := by omega
      rw [e, List.getElem?_append_right (Nat.le_refl _), Nat.sub_self] at h2
      have e2 : y = a := Option.some.inj h2
      subst e2
      rw [List.getElem?_append_left (by omega)] at h1
      have e3 : fs.length - 1 = k := by omega
      rw [e3, h1] at hx
      cases hx
      exact ht
theorem Back.nodup {n : Nat} {rs : List Rule} {L : List Int} {ps : PL} {x0 : Int} {fs : List Int} (h : Back n rs L ps x0 fs) : fs.Nodup :=
  h.down.imp fun {a b} hab e => by
    subst e
    exact absurd hab (Nat.lt_irrefl _)
theorem Back.len {n : Nat} {rs : List Rule} {L : List Int} {ps : PL} {x0 : Int} {fs : List Int} (h : Back n rs L ps x0 fs) : fs.length ≤ ps.length := by
  rw [← keys_len]
  exact h.nodup.length_le_of_subset fun x hx => h.mem x hx
/-- what tight_row hands back -/
structure Good (n : Nat) (rs : List Rule) (L out : List Int) : Prop where
  pos : 0 < out.length
  few : out.length ≤ n
  rng : ∀ x ∈ out, 0 ≤ x ∧ x < n
  nd : out.Nodup
  head : ∀ x, out[0]? = some x → pl L x = 0
  last : ∀ x, out[out.length - 1]? = some x → ∀ y ∈ L, y ≤ pl L x
  adj : ∀ (k : Nat) (a b : Int), out[k]? = some a → out[k + 1]? = some b → Tight rs L a b
theorem Back.good {n : Nat} {rs : List Rule} {L : List Int} {ps : PL} {x0 z : Int} {fs : List Int} (q : QI n rs L ps) (h : Back n rs L ps x0 fs) (h0 : ∀ y ∈ L, y ≤ pl L x0) (hz : fs[fs.length - 1]? = some z) (hz0 : pl L z = 0) : Good n rs L fs.reverse := by
  have h1 := (List.getElem?_eq_some_iff.mp h.first).1
  refine ⟨?_, ?_, ?_, ?_, ?_, ?_, ?_⟩
  · rw [List.length_reverse]
    exact h1
  · rw [List.length_reverse]
    exact Nat.le_trans h.len q.len
  · intro x hx
    exact q.rng x (h.mem x (List.mem_reverse.mp hx))
  · unfold List.Nodup
    rw [List.pairwise_reverse]
    exact h.nodup.imp fun hab e => hab e.symm
  · intro x hx
    rw [List.getElem?_reverse h1, Nat.sub_zero, hz] at hx
    cases hx
    exact hz0
  · intro x hx
    rw [List.length_reverse, List.getElem?_reverse (by omega), Nat.sub_self, h.first] at hx
    cases hx
    exact h0
  · intro k a b ha hb
    have hkl := (List.getElem?_eq_some_iff.mp hb).1
    rw [List.length_reverse] at hkl
    rw [List.getElem?_reverse (by omega)] at ha
    rw [List.getElem?_reverse hkl] at hb
    refine h.adj (fs.length - 1 - (k + 1)) a b hb ?_
    rw [show fs.length - 1 - (k + 1) + 1 = fs.length - 1 - k by omega]
    exact ha
end G51
/-! Rules of my own over the hand layer: tuples that are known to the object, their index and max, enumerate over a tuple, len(set(tuple)), a dict comprehension given to a name. -/
namespace G51
open PySem PySem.Spec PyProof.Rows L2
section
variable {X : Cx}
/-! ### tuple(list), the new tuple known to the object: it has no dict of its own -/
/-- the tuple at p, of which it is known that it has no own dict -/
def TupF (H : Hp) (p : Addr) (ys : List V) : Prop := ∃ o : Obj, H p = some (.frz o (.tup ys)) ∧ o.dict = none
theorem TupF.seq {K : PySem.W.Frag} {H : Hp} {p : Addr} {ys : List V} (h : TupF H p ys) : SqT K H p ys :=
  let ⟨o, e, _⟩ := h
  .inl (.inr ⟨o, e⟩)
def rTupF (K : PySem.W.Frag) : List V → Hp → VK → Prop := fun vs H Q => ∃ a ys, vs = [.ref a] ∧ SqL K H a ys ∧ ∀ (q : Addr) (o : Obj), H q = none → o.dict = none → Q (.ref q) (upd H q (.frz o (.tup ys)))
theorem cr_tupF : CallR X (.type "tuple") (rTupF X.K) := fun pins s σ H vs us Q I rel want => by
  obtain ⟨a, ys, rfl, hq, give⟩ := want
  obtain ⟨u1, rfl, r1⟩ := vals1 rel
  cases r1
  obtain ⟨items, rv, plain, short⟩ := I.list hq
  have len := rv.length
  refine call_tuple_list plain.isList (fun g keep => ?_) (by rw [List.size_toArray]; omega)
  have J : Inv X pins σ H { s with heap := g } := I.kept (t' := s.toks) keep
  have ob : (g.push { cls := .type "tuple", data := .seq items.toArray }).get? g.objs.size = some { cls := .type "tuple", data := .seq items.toArray } := Heap.get?_push_size _ rfl
  refine ⟨.ref g.objs.size, _, J.laid (t' := s.toks) (o := .frz { cls := .type "tuple", data := .seq items.toArray } (.tup ys)) (fun _ _ z => Heap.get?_push_of_some _ z) (Nat.le_refl _) ?_, rfl, give _ _ J.fresh rfl⟩
  exact ⟨ob, short, items, rv, ⟨_, ob, rfl, _, rfl⟩⟩
/-! ### t.index(x): t such a tuple of ints, x one of them -/
def tTix (to : TE) (t : TA) : TE := fun σ H Q => to σ H fun v H1 => ∃ (p : Addr) (ns : List Int), v = .ref p ∧ TupF H1 p (ns.map V.int) ∧ t σ H1 fun xs H2 => ∃ k : Int, xs = [.int k] ∧ TupF H2 p (ns.map V.int) ∧ k ∈ ns ∧ Q (.int (ns.idxOf k : Nat)) H2
theorem pe_tix {o e : Expr} {to : TE} {t : TA} {apos cpos : Pos} (ho : PE X o to) (ha : PA X [e] t) (see : M1 X o "index" apos e cpos := by exact ⟨rfl, rfl, rfl, rfl⟩) :
    PE X (.Call (.Attribute o "index" apos) [e] [] cpos) (tTix to t) := by
  constructor
  intro pins s σ H Q I want
  refine wpAny_Call_method_late see.base see.few see.line see.trees (thn (ho.run pins s σ H _ I want) ?_)
  rintro v s1 ⟨x, H1, J, rx, p, ns, rfl, ⟨ob, hob, hdict⟩, rest⟩
  cases rx
  obtain ⟨there, ht⟩ : s1.heap.get? p = some ob ∧ ObjOk X.prog X.w H1 s1.heap p (.tup (ns.map V.int)) := J.hok p _ hob
  obtain ⟨_, its0, rv0, o2, there2, hcls, _⟩ := ht
  have same : ob = o2 := Option.some.inj (there.symm.trans there2)
  refine ⟨"tuple", _, PySem.F.plainAttrs_tuple, PySem.F.slot_tuple_index, PySem.F.type_tuple_index, ⟨o2, there2, hcls⟩, fun a ea => ?_, ?_⟩
  · cases ea
    exact ⟨ob, there, hdict⟩
  · have args := ha.run cpos pins s1 σ H1 _ J rest
    rw [see.trees] at args
    refine Calls.callWith_builtin (by rfl) (Calls.evalArgs_plain (thn args ?_))
    rintro us s2 ⟨xs, H2, J2, rxs, k, rfl, tf, hk, done⟩
    obtain ⟨u1, rfl, tk, rfl⟩ := vals1 rxs
    obtain ⟨items, rv, it, _⟩ := J2.tuple (tf.seq (K := X.K))
    exact SeqAt.tuple_index_ints it (Vals.ints rv) hk ⟨.int (ns.idxOf k : Nat), H2, J2.tok _, ⟨_, rfl⟩, done⟩
/-! ### max(t), t a tuple of ints -/
theorem holdAll_ints {h : Heap} : ∀ {ns : List Int} {us : List Value}, Vals (ns.map V.int) us → PySem.W.HoldAll h us ns
  | [], _, .nil => ⟨_, .nil⟩
  | n :: ns, _, .cons (b := b) r rest => by
    obtain ⟨t, e⟩ : ∃ t, b = Value.int n t := r
    subst e
    obtain ⟨as, q⟩ := holdAll_ints (h := h) rest
    exact ⟨_, .cons (.int n t) q⟩
theorem maxOf_ge (x : Int) : ∀ xs : List Int, ∀ y ∈ x :: xs, y ≤ PySem.W.maxOf x xs := by
  intro xs
  induction xs generalizing x with
  | nil =>
    intro y hy
    have e : y = x := by simpa using hy
    subst e
    exact Int.le_refl _
  | cons z zs ih =>
    intro y hy
    have e : PySem.W.maxOf x (z :: zs) = PySem.W.maxOf (if PySem.W.DatumOrd.lt x z = true then z else x) zs := rfl
    rw [e]
    have lt : PySem.W.DatumOrd.lt x z = decide (x < z) := rfl
    rw [lt]
    by_cases c : x < z
    · rw [if_pos (decide_eq_true c)]
      rcases List.mem_cons.mp hy with q | q
      · subst q
        have := ih z z List.mem_cons_self
        omega
      · exact ih z y q
    · rw [if_neg (by simpa using c)]
      rcases List.mem_cons.mp hy with q | q
      · subst q
        exact ih y y List.mem_cons_self
      · rcases List.mem_cons.mp q with q2 | q2
        · subst q2
          have := ih x x List.mem_cons_self
          omega
        · exact ih x y (List.mem_cons_of_mem _ q2)
def rMaxT (K : PySem.W.Frag) : List V → Hp → VK → Prop := fun vs H Q => ∃ (a : Addr) (ns : List Int), vs = [.ref a] ∧ SqT K H a (ns.map V.int) ∧ 0 < ns.length ∧ ∀ m : Int, m ∈ ns → (∀ y ∈ ns, y ≤ m) → Q (.int m) H
theorem cr_maxT (hc : X.calm = true) (hu : X.A.units + 1 < cLine) : CallR X (.builtin "max") (rMaxT X.K) := fun pins s σ H vs us Q I rel want => by
  obtain ⟨a, ns, rfl, hq, pos, give⟩ := want
  obtain ⟨u1, rfl, r1⟩ := vals1 rel
  cases r1
  obtain ⟨items, rv, it, _⟩ := I.tuple hq
  cases ns with
  | nil => exact absurd pos (Nat.lt_irrefl 0)
  | cons n rest =>
    refine PySem.W.max_tuple_datum (x := n) (xs := rest) (I.ok.hd hc) it (by simpa using holdAll_ints (h := s.heap) rv) hu fun i v g tk hi hold keep => ?_
    have gi : items[i]? = some v := by simpa using hi
    obtain ⟨as, rd⟩ := hold
    obtain ⟨y, hy⟩ : ∃ y, ((n :: rest).map V.int)[i]? = some y := by
      cases e : ((n :: rest).map V.int)[i]? with
      | some y => exact ⟨y, rfl⟩
      | none =>
        have := rv.none_of e
        rw [this] at gi
        cases gi
    obtain ⟨v2, gv, rel2⟩ := rv.get hy
    have ev : v2 = v := Option.some.inj (gv.symm.trans gi)
    subst ev
    rw [List.getElem?_map] at hy
    cases e3 : (n :: rest)[i]? with
    | none =>
      rw [e3] at hy
      cases hy
    | some k =>
      rw [e3] at hy
      have ek : V.int k = y := Option.some.inj hy
      subst ek
      obtain ⟨t, rfl⟩ := rel2
      have em : k = PySem.W.maxOf n rest := by
        have rd' : Reads g (.int k t) (.int (PySem.W.maxOf n rest)) as := rd
        cases rd'
        rfl
      refine ⟨.int k, H, I.kept keep, ⟨t, rfl⟩, give k (List.mem_of_getElem? e3) fun y hy2 => ?_⟩
      rw [em]
      exact maxOf_ge n rest y hy2
/-! ### len(set(t)), t a tuple of ints all unlike -/
theorem size_of_set {w : World} {h : Heap} {a : Addr} {ns : List Int} {c : Nat} (hn : ns.Nodup) (r : SetR w h a (fun j => decide (j ∈ ns)) c) : c = ns.length := by
  obtain ⟨o, es, ep, t, _, _, _, _, nd, mem, _, _, hc, _⟩ := r
  have e1 : ns.length ≤ (es.toList.map keyOf).length := hn.length_le_of_subset fun k hk => (mem k).mp (decide_eq_true hk)
  have e2 : (es.toList.map keyOf).length ≤ ns.length := nd.length_le_of_subset fun k hk => of_decide_eq_true ((mem k).mpr hk)
  rw [List.length_map] at e1 e2
  have e3 : es.toList.length = es.size := Array.length_toList
  omega
def tLenSetT (K : PySem.W.Frag) (ta : TE) : TE := fun σ H Q => ta σ H fun x H1 => ∃ (p : Addr) (ns : List Int), x = .ref p ∧ SqT K H1 p (ns.map V.int) ∧ ns.Nodup ∧ ns.length ≤ 1000 ∧ Q (.int (ns.length : Nat)) H1
theorem pe_lenSetT {a : Expr} {ta : TE} {p p2 q pos : Pos} (hc : X.calm = true) (hg : Gl X "len") (hm : X.mg "len" = none) (hg2 : Gl X "set") (hm2 : X.mg "set" = none) (ha : PE X a ta)
    (na : starEach [a] X.env = (false, eval a X.env) :: starEach [] X.env := by rfl) : PE X (.Call (.Name "len" p) [.Call (.Name "set" p2) [a] [] q] [] pos) (tLenSetT X.K ta) := by
  constructor
  intro pins s σ H Q I want
  have inner : wpAny (model X.prog X.w) X.A (eval (.Call (.Name "set" p2) [a] [] q) X.env) (fun v s2 => ∃ (ns : List Int) (o : Obj) (es : Array (Int × Value)) (ep : Nat) (t : SetTable) (l : Addr) (H1 : Hp), v = .ref l ∧ s2.heap.get? l = some o ∧ o.ExactSet ∧ o.data = .set es ep t ∧ t.fits es.size = true ∧ es.size = ns.length ∧ ns.length ≤ 1000 ∧ Inv X pins σ H1 s2 ∧ Q (.int (ns.length : Nat)) H1) X.xe s := by
    refine Call_ (ld_blt I hg2 hm2 boot_set (PyProof.Rows.callWith_type1 (PyProof.Rows.args_cons (thn (ha.run pins s σ H _ I want) ?_) na) na rfl))
    rintro v s1 ⟨x, H1, J, rx, l, ns, rfl, hq, nd, few, done⟩
    cases rx
    obtain ⟨items, rv, it, _⟩ := J.tuple hq
    refine PyProof.Rows.args_nil (call_set_tupI ns (J.ok.hd hc) it (by simpa using Vals.ints rv) (by unfold scanBound; omega) fun g tk c hr _ keep => ?_)
    have hcn := size_of_set nd hr
    obtain ⟨o, es, ep, t, ho, ex, hd, _, _, _, _, fits, hn, _⟩ := hr
    exact ⟨ns, o, es, ep, t, _, H1, rfl, ho, ex, hd, fits, by omega, few, J.kept keep, done⟩
  refine Call_ (ld_blt I hg hm boot_len (PyProof.Rows.callWith_builtin1 (PyProof.Rows.args_cons (thn inner ?_) rfl) rfl rfl))
  rintro v s2 ⟨ns, o, es, ep, t, l, H1, rfl, ho, ex, hd, fits, hn, few, J, done⟩
  exact PyProof.Rows.args_nil (call_len_set ho ex hd fits (by omega) ⟨.int (ns.length : Nat), H1, J.tok _, ⟨_, by rw [hn]⟩, done⟩)
/-! ### name = {k: v for ..} on one line, the name a local -/
/-- what holds of every block that such a comprehension may open -/
abbrev InBlk (X : Cx) (scope : Scope) (p : Cx → Prop) : Prop := ∀ (t : Shared) (G : Hp) (B : Addr) (cells : List (Str × Addr)) (own : List Addr), p (X.blk t G scope (compEnvC scope cells B X.env) own)
theorem ps_setDc {i : Nat} {y : Str} {py : Pos} {kx vx tg iter : Expr} {ifs : List Expr} {scope : Scope} {own : List (Str × Nat)} {pos spos : Pos} {wi : TI} {g : TG} {tt : TT} {tk tv : TE} (calm : X.calm = true) (nd : X.N.Nodup) (hy : X.N[i]? = some y)
    (loc : X.env.scope.names.lookup y = some .local) (sw : swapsWith (.DictComp kx vx [⟨tg, iter, ifs, 0⟩] scope pos) (some (.Name y py)) spos.line X.env = pure true) (hi : PI X tg iter wi) (blk : BlkOk X.N X.env.scope scope own)
    (aim : InBlk X scope fun Y => PG Y tg g) (tests : InBlk X scope fun Y => PTs Y ifs tt) (key : InBlk X scope fun Y => PE Y kx tk) (val : InBlk X scope fun Y => PE Y vx tv) (plain : ∀ x, foldedSetIterable iter X.env x = pure x := by intro _; rfl) :
    PS X (.Assign [.Name y py] (.DictComp kx vx [⟨tg, iter, ifs, 0⟩] scope pos) spos) (tAsg (tDc wi g tt tk tv (own.map (·.2))) (gName i)) := by
  constructor
  intro pins s σ H D I want
  rw [exec_Assign_Name_used y py _ spos sw]
  apply wpAny_bind
  apply wpAny_standAt
  apply wpAny_bind
  show wpAny _ X.A (do let _ ← comprehension (.DictComp kx vx [⟨tg, iter, ifs, 0⟩] scope pos) scope X.env (firstIterPos [⟨tg, iter, ifs, 0⟩] pos) newDict false (eval iter X.env) (some (assign (.Name y py) X.env))) _ _ s
  have want2 : tDc wi g tt tk tv (own.map (·.2)) σ H (fun x H1 => gName i x σ H1 D.nx) := want
  refine wpAny_bind (thn (dc_core (Qf := fun _ z => SP X pins D .next z) calm nd I hi blk aim tests key val plain want2 ?_) fun _ _ z => wpAny_pure (wpAny_pure z))
  intro L C s2 m H2 J q ns fp
  refine wpAny_assign_Name (x := y) (store_ok2 (v := V.ref L) J nd hy (.inl loc) rfl (fun s3 J3 hh => ?_) (.inr loc))
  obtain ⟨a, but, ha⟩ := hh
  obtain ⟨f0, f1, f2, f3, f4, f5⟩ := fp
  have apart : C ≠ a := fun e => ha.elim (fun z => f1 (e.trans z)) fun z => f4 y a z e.symm
  refine ⟨m, ns.sameBut but apart, fun g4 but4 => ⟨_, H2, J3.turned (t' := s3.toks) (fun b o hb e => (but4.2 b hb).trans e) f0 f1 f3 f4 f5, q⟩⟩
theorem swD_true {kx vx : Expr} {gs : List Comprehension} {scope : Scope} {pos py : Pos} {y : Str} {l : Nat} {env : Env} (hk : env.scope.kind = .function) (hy : env.scope.names.lookup y = some .local) (hl : (py.line == pos.line) = true)
    (ha : (scope.names.any fun (n, k) => n == y && (k == .local || k == .cell)) = false) : swapsWith (.DictComp kx vx gs scope pos) (some (.Name y py)) l env = pure true := by
  have k1 : env.kindOf y = some .local := hy
  have k2 : env.blockKind = .function := by
    unfold Env.blockKind
    rw [hk]
    rfl
  unfold swapsWith
  simp only [k2, k1, ha, Expr.pos, hl]
  rfl
/-- a turn of such a comprehension: from the item x, to what is wanted behind the turn -/
def dcTurn (g : TG) (tt : TT) (tk tv : TE) (vs : List Nat) (σ : L2.St) (D : Addr) (x : V) (H : Hp) (Go : Hp → Prop) : Prop :=
  g x (wipe σ vs) H fun ρ H2 => wipe ρ vs = wipe σ vs ∧
    tt ρ H2 fun yes H3 => if yes = true then (tk ρ H3 fun y H4 =>
        tv ρ H4 fun z H5 => ∃ kvs k, y = kV k ∧ H5 D = some (.dK kvs) ∧
          kvs.length < sizeLine ∧ Go (upd H5 D (.dK (putK kvs k z))))
      else Go H3
/-- .. over a list that stays -/
theorem dc_listI {K : PySem.W.Frag} {a : Addr} {xs : List V} {g : TG} {tt : TT} {tk tv : TE} {vs : List Nat} {σ : L2.St} {H1 : Hp} {D : Addr} {Qd : Hp → Prop} (Pv : Nat → Hp → Prop) (h0 : Pv 0 (upd H1 D (.dK [])))
    (hl : ∀ i H, i ≤ xs.length → Pv i H → SqL K H a xs)
    (turn : ∀ i x H, xs[i]? = some x → Pv i H → dcTurn g tt tk tv vs σ D x H (Pv (i + 1)))
    (hd : ∀ H, Pv xs.length H → Qd H) :
    ∃ W : Nat → Nat → Hp → Prop, (∃ m, W 0 m (upd H1 D (.dK []))) ∧
      ∀ i m H, W i m H → ((Itl K a).stop i H ∧ Qd H) ∨
        ((Itl K a).go i H ∧ ∃ Go : Hp → Prop, (∀ G, Go G → ∃ less, less < m ∧ W (i + 1) less G) ∧
          ∀ x G, (Itl K a).yld i H x G → dcTurn g tt tk tv vs σ D x G Go) := by
  refine ⟨fun i m H => i + m = xs.length ∧ Pv i H, ⟨xs.length, Nat.zero_add _, h0⟩, fun i m H w => ?_⟩
  obtain ⟨em, pv⟩ := w
  have q := hl i H (by omega) pv
  by_cases lt : i < xs.length
  · refine .inr ⟨⟨xs, xs[i], q, List.getElem?_eq_getElem lt⟩, Pv (i + 1), fun H' p' => ⟨m - 1, by omega, by omega, p'⟩, fun x H' y => ?_⟩
    obtain ⟨e, at'⟩ := y
    subst e
    exact turn i x _ (at' xs q) pv
  · obtain rfl : i = xs.length := by omega
    exact .inl ⟨⟨xs, q, Nat.le_refl _⟩, hd H pv⟩
end
/-! ### enumerate(t), t a tuple -/
/-- a tuple's iterator at its start -/
abbrev tIt (l : Addr) : Obj := { cls := .type "tuple_iterator", data := .fields #[.ref l, .int 0 0] }
/-- an enumeration over the iterator at it, at its start -/
abbrev eOb (it : Addr) : Obj := { cls := .type "enumerate", data := .fields #[.none, .bool false, .ref it, rawInt 0, .none, .none] }
set_option maxHeartbeats 4000000 in
theorem meets_enumT (l : Addr) (items : Array Value) : Meets (Builtin.«enumerate.__new__» ⟨[.type "enumerate", .ref l], []⟩)
    (fun _ R s => s.heap.IsTuple l items ∧ R (.ok (.ret (.ref (s.heap.push (tIt l)).objs.size))) { s with heap := (s.heap.push (tIt l)).push (eOb s.heap.objs.size) }) := .of_wp fun prog w A R s want => by
  obtain ⟨hp, g, d, tk, os⟩ := s
  obtain ⟨isT, done⟩ := want
  have isT' : Heap.IsTuple (Shared.heap ⟨hp, g, d, tk, os⟩) l items := isT
  have hsub := sub_enumerate
  obtain ⟨⟨c0, dd, dt, sl⟩, hl, e1, n, e2⟩ := isT
  simp only at e1 e2
  subst e1 e2
  wp_walk using AutoSeq1.wpAny_loadPart' hl
  refine wpAny_stack_any fun st => wpAny_pure ?_
  split
  · rename_i c _ _ _ _ _
    cases (c == Value.type "enumerate") <;> (wp_walk using AutoSeq1.wpAny_loadPart' hl, wpAny_pyIter_tuple isT'; exact ⟨_, rfl, done⟩)
  · wp_walk using AutoSeq1.wpAny_loadPart' hl, wpAny_pyIter_tuple isT'
    exact ⟨_, rfl, done⟩
theorem call_enumT {prog : Program} {w : World} {A : Around} {E : Value → Shared → Prop} {s : Shared} {l : Addr} {items : Array Value} {Q : Value → Shared → Prop} (hT : s.heap.IsTuple l items)
    (give : ∀ g, IsEnum g (s.heap.objs.size + 1) s.heap.objs.size 0 .none → g.IsTupleIter s.heap.objs.size l 0 → (∀ b o, s.heap.get? b = some o → g.get? b = some o) → Q (.ref (s.heap.objs.size + 1)) { s with heap := g }) :
    wpAny (model prog w) A (call (Value.type "enumerate") [Value.ref l]) Q E s := by
  have sz : (s.heap.push (tIt l)).objs.size = s.heap.objs.size + 1 := Heap.size_push ..
  have at1 : ((s.heap.push (tIt l)).push (eOb s.heap.objs.size)).get? (s.heap.objs.size + 1) = some (eOb s.heap.objs.size) := by
    rw [← sz]
    exact Heap.get?_push_size _ rfl
  refine callType_new F.called_enumerate (by decide) (F.typeCall_enumerate_1 _) (F.newCall_enumerate_1 _) (fun ob => F.args_object_init_2 ob _) F.entry_enumerate_new (meets_enumT l items) ⟨hT, ?_⟩
  show _ ∧ _
  rw [sz]
  exact ⟨⟨_, at1, rfl⟩, give _ at1 ⟨_, Heap.get?_push_of_some _ (Heap.get?_push_size _ rfl), rfl, rfl⟩ fun b o z => Heap.get?_push_of_some _ (Heap.get?_push_of_some _ z)⟩
/-- the tuple at a at each turn: its item, in a new pair with the turn's number -/
def IteT (K : PySem.W.Frag) (a : Addr) : It where
  go i H := ∃ (xs : List V) (x : V), SqT K H a xs ∧ xs[i]? = some x
  yld i H v H' := ∃ T x, v = .ref T ∧ H T = none ∧ H' = upd H T (.tup [.int (i : Nat), x]) ∧ ∀ xs, SqT K H a xs → xs[i]? = some x
  stop i H := ∃ xs : List V, SqT K H a xs ∧ xs.length = i
theorem turn_enumT {P : Program} {w : World} {K : PySem.W.Frag} {elts : List Expr} {kk : Nat} {tpos : Pos} (a e it : Addr) (hne : e ≠ it) (hea : e ≠ a) (hia : a ≠ it) :
    Turn P w K (.Tuple elts kk tpos) (IteT K a) [e, it] e (fun i h => (∃ old, IsEnum h e it ((i : Nat) : Int) old) ∧ h.IsTupleIter it a i) where
  mem := List.mem_cons_self
  obj i h st b hb := by
    obtain ⟨⟨old, he⟩, o, ho, _, hd⟩ := st
    rcases List.mem_cons.mp hb with z | z
    · subst z
      exact ⟨_, he, fun v q => nomatch q⟩
    · have z2 : b = it := by simpa using z
      subst z2
      exact ⟨o, ho, fun v q => by rw [hd] at q; cases q⟩
  keep i h h' st k := by
    obtain ⟨⟨old, he⟩, hi⟩ := st
    exact ⟨⟨old, k e (by simp) _ he⟩, hi.at fun o q => k it (by simp) o q⟩
  item X hP hw hK hc i pins s σ H E I hf st hg := by
    subst hP hw hK
    obtain ⟨⟨old, he⟩, hit⟩ := st
    obtain ⟨xs, x, hq, hx⟩ := hg
    obtain ⟨items, rv, isT, _⟩ := I.tuple hq
    obtain ⟨u, hu, ru⟩ := rv.get hx
    have el : e < s.heap.objs.size := Heap.lt_size he
    have il : it < s.heap.objs.size := by
      obtain ⟨_, q, _⟩ := hit
      exact Heap.lt_size q
    have lt : i < items.toArray.size := by
      rw [List.size_toArray]
      exact (List.getElem?_eq_some_iff.mp hu).1
    refine wpAny_pyNext_enum_itemD (Draws.tuple (A := X.A.in1) (show X.A.in1.handled = none from I.ok.hd hc) it a hia items.toArray) he ⟨hit, isT⟩ lt hne (by simp [hne, hea]) ?_
    intro y g tk py out st2 gT _ keep
    have ey : y = u := Option.some.inj (py.symm.trans (by simpa using hu))
    subst ey
    refine ⟨_, rfl, wpAny_letOwnedTupleGo_enum (s := { s with heap := g, toks := tk + 1 }) out fun g2 he2 but => ?_⟩
    have gT2 : g2.get? s.heap.objs.size = some { cls := .type "tuple", data := .seq #[.int i tk, y] } := (but.2 _ (Nat.ne_of_gt el)).trans gT
    have J : Inv X pins σ (upd H s.heap.objs.size (.tup [.int (i : Nat), x])) { s with heap := g2, toks := tk + 1 } := by
      refine I.turnedNew (ch := [e, it]) (fun b o hb q => ?_) hf (Nat.le_refl _) ⟨by show 2 ≤ sizeLine; decide, [.int i tk, y], .cons ⟨_, rfl⟩ (.cons ru .nil), _, gT2, rfl, _, rfl⟩
      have n1 : b ≠ e := fun z => hb (by simp [z])
      have n2 : b ≠ it := fun z => hb (by simp [z])
      exact (but.2 b n1).trans (keep b o n1 n2 q)
    refine ⟨.ref s.heap.objs.size, _, J, rfl, ⟨_, x, rfl, I.fresh, rfl, fun zs hz => by rw [I.tuple_inj hz hq]; exact hx⟩, ⟨⟨y, ?_⟩, st2.1.at fun o q => (but.2 it (Ne.symm hne)).trans q⟩, fun b hb => ?_⟩
    · show IsEnum g2 e it (((i + 1 : Nat)) : Int) y
      rw [show (((i + 1 : Nat)) : Int) = (i : Int) + 1 by omega]
      exact he2
    · have small : b < s.heap.objs.size := by
        rcases List.mem_cons.mp hb with z | z
        · rw [z]
          exact el
        · rw [show b = it by simpa using z]
          exact il
      rw [upd_ne (Nat.ne_of_lt small)]
      exact (hf b hb).1
  done X hP hw hK hc i pins s σ H E I hf st hg := by
    subst hP hw hK
    obtain ⟨⟨old, he⟩, hit⟩ := st
    obtain ⟨xs, hq, hx⟩ := hg
    obtain ⟨items, rv, isT, _⟩ := I.tuple hq
    obtain ⟨f0, f1, f2, f3, f4, f5⟩ := hf it (by simp)
    have len := rv.length
    have full : i = items.toArray.size := by
      rw [List.size_toArray]
      omega
    subst full
    exact wpAny_pyNext_enum_endD (Draws.tuple (A := X.A.in1) (show X.A.in1.handled = none from I.ok.hd hc) it a hia items.toArray) he ⟨hit, isT⟩ fun g but => ⟨rfl, I.turned (t' := s.toks) (fun b o hb q => but b o hb q) f0 f1 f3 f4 f5⟩
  self A i s Q E st h := by
    obtain ⟨⟨_, he⟩, _⟩ := st
    exact wpAny_pyIter_enum he h
def iEnumT (K : PySem.W.Frag) (ta : TA) : TI := fun σ H R => ta σ H fun vs H1 => ∃ a xs, vs = [.ref a] ∧ SqT K H1 a xs ∧ R (IteT K a) H1
section
variable {X : Cx}
theorem pi_enumT {e : Expr} {ta : TA} {p pos tpos : Pos} {elts : List Expr} {kk : Nat} (hg : Gl X "enumerate") (hm : X.mg "enumerate" = none) (ha : PA X [e] ta) (hs : starEach [e] X.env = [(false, eval e X.env)] := by rfl) :
    PI X (.Tuple elts kk tpos) (.Call (.Name "enumerate" p) [e] [] pos) (iEnumT X.K ta) := by
  constructor
  intro pins s σ H R I want
  refine Call_ (ld_blt I hg hm boot_enumerate (PyProof.Rows.callWith_type1 (thn (ha.run pos pins s σ H _ I want) ?_) hs rfl))
  rintro us s1 ⟨vs, H1, J, rel, a, xs, rfl, hq, rest⟩
  obtain ⟨u1, rfl, r1⟩ := vals1 rel
  cases r1
  obtain ⟨items, rv, isT, _⟩ := J.tuple hq
  have la : a < s1.heap.objs.size := isT.lt
  refine call_enumT isT fun g he hit keep => wpAny_pyIter_enum he ?_
  refine ⟨s1.heap.objs.size + 1, [s1.heap.objs.size + 1, s1.heap.objs.size], _, _, H1, rfl, J.kept (t' := s1.toks) keep, turn_enumT a (s1.heap.objs.size + 1) s1.heap.objs.size (Nat.succ_ne_self _) (Nat.ne_of_gt (Nat.lt_succ_of_lt la)) (Nat.ne_of_lt la), ⟨⟨.none, he⟩, hit⟩, fun b hb => ?_, rest⟩
  have big : s1.heap.objs.size ≤ b := by
    rcases List.mem_cons.mp hb with z | z
    · rw [z]
      exact Nat.le_succ _
    · rw [show b = s1.heap.objs.size by simpa using z]
      exact Nat.le_refl _
  exact J.fpOk big (J.hok.fresh big)
theorem walk_enumT {K : PySem.W.Frag} {a : Addr} {xs : List V} : Walk (IteT K a) xs.length (fun H => SqT K H a xs) (YPair (fun i => some (.int (i : Nat))) (fun i => xs[i]?)) where
  goes i H hi q := ⟨xs, xs[i], q, List.getElem?_eq_getElem hi⟩
  stops H q := ⟨xs, q, rfl⟩
  yields i H v H' _ q y := by
    obtain ⟨T, x, h1, h2, h3, h4⟩ := y
    exact ⟨T, V.int ((i : Nat) : Int), x, h1, h2, h3, rfl, h4 _ q⟩
end
end G51
namespace G51
open PySem PySem.Spec PyProof.Rows L2
/-! ### the text -/
def topS (i : Nat) : Stmt := PySem.Challenge.pw_chipfloor_k51_whole_tight_rows.main.body.getD i (.Pass ⟨0, 0, 0, 0⟩)
abbrev sIsInt : Stmt := topS 1
abbrev sIsIn : Stmt := topS 2
abbrev sIsList : Stmt := topS 3
abbrev sNeed : Stmt := topS 13
abbrev sLowest : Stmt := topS 14
abbrev sLeft : Stmt := topS 15
abbrev sTight : Stmt := topS 16
abbrev sTaken : Stmt := topS 18
abbrev sRules : Stmt := topS 19
abbrev sLeast : Stmt := topS 20
abbrev sLaw : Stmt := topS 21
theorem scIsInt : FnScope ["value"] ["value"] (defScope sIsInt) := ⟨rfl, rfl, rfl, by decide +kernel, rfl, by decide +kernel, by decide +kernel⟩
theorem scIsIn : FnScope ["value", "least", "most"] ["value", "least", "most"] (defScope sIsIn) := ⟨rfl, rfl, rfl, by decide +kernel, rfl, by decide +kernel, by decide +kernel⟩
theorem scIsList : FnScope ["value", "least", "most"] ["value", "least", "most"] (defScope sIsList) := ⟨rfl, rfl, rfl, by decide +kernel, rfl, by decide +kernel, by decide +kernel⟩
theorem scNeed : FnScope ["many", "rules", "index", "rule", "one"] ["many", "rules"] (defScope sNeed) := ⟨rfl, rfl, rfl, by decide +kernel, rfl, by decide +kernel, by decide +kernel⟩
theorem scLowest : FnScope ["many", "rules", "places", "turn", "is_new", "one", "other", "gap"] ["many", "rules"] (defScope sLowest) := ⟨rfl, rfl, rfl, by decide +kernel, rfl, by decide +kernel, by decide +kernel⟩
theorem scLeft : FnScope ["many", "rules", "found"] ["many", "rules"] (defScope sLeft) := ⟨rfl, rfl, rfl, by decide +kernel, rfl, by decide +kernel, by decide +kernel⟩
theorem scTight : FnScope ["many", "rules", "places", "one", "queue", "at", "before", "here", "other", "gap", "found"] ["many", "rules"] (defScope sTight) := ⟨rfl, rfl, rfl, by decide +kernel, rfl, by decide +kernel, by decide +kernel⟩
theorem scTaken : FnScope ["_law_row", "_law_many", "_law_found", "_law_cell"] ["_law_row", "_law_many"] (defScope sTaken) := ⟨rfl, rfl, rfl, by decide +kernel, rfl, by decide +kernel, by decide +kernel⟩
theorem scRules : FnScope ["_law_row", "_law_most", "_law_many", "_law_found", "_law_turn", "_law_one", "_law_other", "_law_gap"] ["_law_row", "_law_most"] (defScope sRules) := ⟨rfl, rfl, rfl, by decide +kernel, rfl, by decide +kernel, by decide +kernel⟩
theorem scLeast : FnScope ["_law_many", "_law_rules_here", "_law_places", "_law_turn", "_law_before", "_law_one", "_law_other", "_law_gap"] ["_law_many", "_law_rules_here"] (defScope sLeast) := ⟨rfl, rfl, rfl, by decide +kernel, rfl, by decide +kernel, by decide +kernel⟩
theorem scLaw : FnScope ["_law_script", "_law_row", "_law_turn", "_law_many", "_law_rules_here", "_law_low", "_law_found", "_law_at", "_law_one", "_law_other", "_law_rule"] ["_law_script"] (defScope sLaw) := ⟨rfl, rfl, rfl, by decide +kernel, rfl, by decide +kernel, by decide +kernel⟩
/-! ### what is told of the heap -/
/-- the three numbers of a rule -/
def ruleV (r : Rule) : List V := [.int r.1, .int r.2.1, .int r.2.2]
/-- at p a tuple of the rules' tuples -/
def RulesAt (H : Hp) (p : Addr) (rs : List Rule) : Prop := ∃ qs : List Addr, H p = some (.tup (qs.map V.ref)) ∧ qs.length = rs.length ∧ ∀ (i : Nat) (q : Addr) (r : Rule), qs[i]? = some q → rs[i]? = some r → H q = some (.tup (ruleV r))
/-- tuples stay -/
def Tups (H H' : Hp) : Prop := ∀ b xs, H b = some (.tup xs) → H' b = some (.tup xs)
theorem Tups.of {H H' : Hp} (h : Same H H') : Tups H H' := fun b xs e => h b _ e
theorem Tups.trans {H H1 H2 : Hp} (a : Tups H H1) (b : Tups H1 H2) : Tups H H2 := fun c xs e => b c xs (a c xs e)
theorem Tups.new {H : Hp} {p : Addr} {o : HO} (h : H p = none) : Tups H (upd H p o) := fun b xs e => by
  rw [upd_ne (ne_of_none e h)]
  exact e
theorem Tups.lst {H : Hp} {p : Addr} {xs ys : List V} (h : H p = some (.lst xs)) : Tups H (upd H p (.lst ys)) := fun b zs e => by
  rw [upd_ne (ne_of e h (by intro z; cases z))]
  exact e
theorem Tups.dk {H : Hp} {p : Addr} {xs ys : List (Key × V)} (h : H p = some (.dK xs)) : Tups H (upd H p (.dK ys)) := fun b zs e => by
  rw [upd_ne (ne_of e h (by intro z; cases z))]
  exact e
theorem RulesAt.keep {H H' : Hp} {p : Addr} {rs : List Rule} (h : RulesAt H p rs) (k : Tups H H') : RulesAt H' p rs := by
  obtain ⟨qs, e, l, f⟩ := h
  exact ⟨qs, k _ _ e, l, fun i q r a b => k _ _ (f i q r a b)⟩
theorem same_new {H : Hp} {p : Addr} {o : HO} (h : H p = none) : Same H (upd H p o) := fun b x e => by
  rw [upd_ne (ne_of_none e h)]
  exact e
/-- a change at p, which the older heap had not -/
theorem Same.over {H H1 : Hp} {p : Addr} {o : HO} (h : Same H H1) (n : H p = none) : Same H (upd H1 p o) := fun b x e => by
  rw [upd_ne (ne_of_none e n)]
  exact h b x e
/-! ### promises -/
def spIsInt : Sp := fun vs H Q _ => ∃ n : Int, vs = [.int n] ∧ Q (.bl true) H
def spIsIn : Sp := fun vs H Q _ => ∃ v lo hi : Int, vs = [.int v, .int lo, .int hi] ∧ lo ≤ v ∧ v ≤ hi ∧ Q (.bl true) H
def spIsList : Sp := fun vs H Q _ => ∃ (p : Addr) (xs : List V) (lo hi : Int), vs = [.ref p, .int lo, .int hi] ∧ H p = some (.tup xs) ∧ lo ≤ xs.length ∧ xs.length ≤ hi ∧ Q (.bl true) H
/-- good arguments: a number of things, rules -/
structure Args (vs : List V) (H : Hp) (n : Nat) (rs : List Rule) (p : Addr) : Prop where
  eq : vs = [.int (n : Nat), .ref p]
  pos : 1 ≤ n
  few : n ≤ 10
  at' : RulesAt H p rs
  len : rs.length ≤ 40
  ok : RsOk n rs
theorem Args.two {vs : List V} {H : Hp} {n : Nat} {rs : List Rule} {p : Addr} (a : Args vs H n rs p) : vs.length = 2 := by
  rw [a.eq]
  rfl
def spNeed : Sp := fun vs H Q _ => ∃ n rs p, Args vs H n rs p ∧ ∀ H', Same H H' → Q .non H'
def spLowest : Sp := fun vs H Q _ => ∃ n rs p L, Args vs H n rs p ∧ Low rs n L ∧ ∀ H' q, Same H H' → H q = none → H' q = some (.lst (L.map V.int)) → Q (.ref q) H'
def spLeft : Sp := fun vs H Q _ => ∃ n rs p L, Args vs H n rs p ∧ Low rs n L ∧ ∀ H' q, Same H H' → H q = none → TupF H' q (L.map V.int) → Q (.ref q) H'
def spTight : Sp := fun vs H Q _ => ∃ n rs p L, Args vs H n rs p ∧ Low rs n L ∧ ∀ H' q out, Same H H' → H q = none → H' q = some (.tup (out.map V.int)) → Good n rs L out → Q (.ref q) H'
end G51
namespace G51
open PySem PySem.Spec PyProof.Rows L2
section
variable {P : Program} {w : World} {K : PySem.W.Frag} {mg : Str → Option Value} {base : Heap}
theorem bl_yes {c : Prop} [Decidable c] {Q : VK} {H : Hp} (hc : c) (q : Q (.bl true) H) : Q (.bl (decide c)) H := by
  rw [decide_eq_true hc]
  exact q
theorem ok_isInt {f : Addr} {fd : FuncData} (F : Fun K "is_integer" "is_integer" sIsInt f fd) (mi : mg "isinstance" = none) (mI : mg "int" = none) (mB : mg "bool" = none) : FnOk P w K mg base CX0 1 f fd ["value"] spIsInt := by
  refine F.ok scIsInt (fun vs H Q E h => ?_) (fun cdv A outer s H vs Q E hr h => ?_)
  · obtain ⟨n, rfl, _⟩ := h
    rfl
  · obtain ⟨n, rfl, q⟩ := h
    refine ⟨_, pss_one (ps_ret (pe_and (pe_callB call_isi (by rfl) mi (by decide +kernel) (pa_cons (pv 0) (pa_cons (pe_bltn (v := .ty "int") (by rfl) mI (by decide +kernel) rfl) pa_nil)))
      (pe_one (pe_not (pe_callB call_isi (by rfl) mi (by decide +kernel) (pa_cons (pv 0) (pa_cons (pe_bltn (v := .ty "bool") (by rfl) mB (by decide +kernel) rfl) pa_nil))))))), ?_⟩
    refine ⟨_, rfl, .int n, .ty "int", .type "int", .type "int", true, rfl, .ty _, .base (.int n), kit_ty (by decide +kernel), true, rfl, iteT ?_⟩
    exact ⟨_, rfl, .int n, .ty "bool", .type "int", .type "bool", false, rfl, .ty _, .base (.int n), kit_ty (by decide +kernel), false, rfl, q⟩
theorem ok_isIn {f fI : Addr} {fd fdI : FuncData} (F : Fun K "is_in" "is_in" sIsIn f fd) (FI : Fun K "is_integer" "is_integer" sIsInt fI fdI) (bI : Binds K fdI ["value"] []) (gI : mg "is_integer" = some (.ref fI))
    (GI : FnOk P w K mg base CX0 1 fI fdI ["value"] spIsInt) : FnOk P w K mg base CX0 2 f fd ["value", "least", "most"] spIsIn := by
  refine F.ok scIsIn (fun vs H Q E h => ?_) (fun cdv A outer s H vs Q E hr h => ?_)
  · obtain ⟨_, _, _, rfl, _⟩ := h
    rfl
  · obtain ⟨v, lo, hi, rfl, h1, h2, q⟩ := h
    refine ⟨_, pss_one (ps_ret (pe_and (pe_call GI hr (by rfl) gI FI.kp bI .nil pass0 (pa_cons (pv 0) pa_nil)) (pe_one (pe_chain op_le op_le (pv 1) (pv 0) (pv 2))))), ?_⟩
    refine ⟨_, rfl, v, rfl, true, rfl, iteT ?_⟩
    refine ⟨_, rfl, _, rfl, _, _, rfl, rfl, _, rfl, ?_⟩
    rw [decide_eq_true h1]
    exact iteT ⟨_, rfl, _, _, rfl, rfl, bl_yes h2 q⟩
theorem ok_isList {f : Addr} {fd : FuncData} (F : Fun K "is_list" "is_list" sIsList f fd) (mi : mg "isinstance" = none) (mT : mg "tuple" = none) (ml : mg "len" = none) : FnOk P w K mg base CX0 1 f fd ["value", "least", "most"] spIsList := by
  refine F.ok scIsList (fun vs H Q E h => ?_) (fun cdv A outer s H vs Q E hr h => ?_)
  · obtain ⟨_, _, _, _, rfl, _⟩ := h
    rfl
  · obtain ⟨p, xs, lo, hi, rfl, hp, h1, h2, q⟩ := h
    refine ⟨_, pss_one (ps_ret (pe_and (pe_callB call_isi (by rfl) mi (by decide +kernel) (pa_cons (pv 0) (pa_cons (pe_bltn (v := .ty "tuple") (by rfl) mT (by decide +kernel) rfl) pa_nil)))
      (pe_one (pe_chain op_le op_le (pv 1) (pe_callB call_len_seq (by rfl) ml PySem.boot_len (pa_cons (pv 0) pa_nil)) (pv 2))))), ?_⟩
    refine ⟨_, rfl, .ref p, .ty "tuple", .type "tuple", .type "tuple", true, rfl, .ty _, .base (.tup hp), kit_ty (by decide +kernel), true, rfl, iteT ?_⟩
    refine ⟨_, rfl, _, rfl, p, xs, rfl, .inr (SqT.of hp), _, _, rfl, rfl, _, rfl, ?_⟩
    rw [decide_eq_true h1]
    exact iteT ⟨_, rfl, _, _, rfl, rfl, bl_yes h2 q⟩
/-- what need_gaps calls and reads -/
structure NeedTxt (P : Program) (w : World) (K : PySem.W.Frag) (mg : Str → Option Value) (base : Heap) (fN fL : Addr) (fdN fdL : FuncData) : Prop where
  gN : mg "is_in" = some (.ref fN)
  kN : PySem.W.keepIn K (.ref fN) = true
  bN : Binds K fdN ["value", "least", "most"] []
  oN : FnOk P w K mg base CX0 2 fN fdN ["value", "least", "most"] spIsIn
  gL : mg "is_list" = some (.ref fL)
  kL : PySem.W.keepIn K (.ref fL) = true
  bL : Binds K fdL ["value", "least", "most"] []
  oL : FnOk P w K mg base CX0 1 fL fdL ["value", "least", "most"] spIsList
  m1 : ∃ t, mg "MOST_THINGS" = some (.int 10 t)
  m2 : ∃ t, mg "MOST_GAPS" = some (.int 40 t)
  m3 : ∃ t, mg "MOST_GAP" = some (.int 100 t)
  mE : mg "enumerate" = none
  mA : mg "all" = none
theorem all_true (n : Nat) : (List.replicate n true).all id = true := by
  induction n with
  | zero => rfl
  | succ n ih => exact ih
theorem rep_more {α : Type} (x : α) (n : Nat) : List.replicate n x ++ [x] = List.replicate (n + 1) x := by
  induction n with
  | zero => rfl
  | succ n ih =>
    show x :: (List.replicate n x ++ [x]) = _
    rw [ih]
    rfl
theorem ok_need {f fN fL : Addr} {fd fdN fdL : FuncData} (F : Fun K "need_gaps" "need_gaps" sNeed f fd) (T : NeedTxt P w K mg base fN fL fdN fdL) : FnOk P w K mg base CX0 3 f fd ["many", "rules"] spNeed := by
  obtain ⟨gN, kN, bN, oN, gL, kL, bL, oL, ⟨t1, m1⟩, ⟨t2, m2⟩, ⟨t3, m3⟩, mE, mA⟩ := T
  refine F.ok scNeed (fun vs H Q E h => ?_) (fun cdv A outer s H vs Q E hr h => ?_)
  · obtain ⟨_, _, _, a, _⟩ := h
    exact a.two
  · obtain ⟨n, rs, p, ⟨rfl, pos, few, hat, len, ok⟩, q⟩ := h
    have hr1 := hr.mono (show 1 ≤ 2 by decide)
    refine ⟨_, pss_cons (ps_if (pt_not (pt_val (pe_call oN hr (by rfl) gN kN bN .nil pass0 (pa_cons (pv 0) (pa_cons pe_int (pa_cons (pe_glob (v := .int 10) (by rfl) m1 ⟨_, rfl⟩) pa_nil)))))) (pss_one ps_never) pss_nil)
      (pss_cons (ps_if (pt_not (pt_val (pe_call oL hr1 (by rfl) gL kL bL .nil pass0 (pa_cons (pv 1) (pa_cons pe_int (pa_cons (pe_glob (v := .int 40) (by rfl) m2 ⟨_, rfl⟩) pa_nil)))))) (pss_one ps_never) pss_nil)
      (pss_one (ps_for PassesOwn.never rfl (pi_enumT (by rfl) mE (pa_cons (pv 1) pa_nil)) (pg_tup rfl (pgs_cons (pg_name (i := 2) scNeed.nd rfl (.inl rfl)) (pgs_cons (pg_name (i := 3) scNeed.nd rfl (.inl rfl)) pgs_nil)))
        (pss_cons (ps_if (PW.pt (pw_or (pt_not (pt_val (pe_call oL hr1 (by rfl) gL kL bL .nil pass0 (pa_cons (pv 3) (pa_cons pe_int (pa_cons pe_int pa_nil))))))
            (pw_or1 (pt_not (pt_val (pe_callB (cr_all rfl) (by rfl) mA (by decide +kernel) (pa_cons
              (pe_lc (own := [("one", 4)]) (g := gName 4) (tt := tYes) rfl scNeed.nd (pi_tup (pe_slice sl_tup (pv 3) po_none (po_some pe_int)))
                (blkOk_by (N := ["many", "rules", "index", "rule", "one"]) (sc := defScope sNeed) (by decide +kernel)) (fun _ _ _ _ _ => pg_name (i := 4) scNeed.nd rfl (.inl rfl)) (fun _ _ _ _ _ => pts_nil)
                (fun _ _ _ _ _ => pe_call oN hr (by rfl) gN kN bN .nil pass0 (pa_cons (pv 4) (pa_cons pe_int (pa_cons (pe_op op_sub (pv 0) pe_int) pa_nil))))) pa_nil)))))))
            (pss_one ps_never) pss_nil)
        (pss_one (ps_if (pt_not (pt_val (pe_call oN hr (by rfl) gN kN bN .nil pass0 (pa_cons (pe_ix ix_tup (pv 3) pe_int (fun _ _ => rfl)) (pa_cons (pe_un un_neg (pe_glob (v := .int 100) (by rfl) m3 ⟨_, rfl⟩)) (pa_cons (pe_glob (v := .int 100) (by rfl) m3 ⟨_, rfl⟩) pa_nil)))))) (pss_one ps_never) pss_nil)))))), ?_⟩
    -- is_in(many, 1, MOST_THINGS), is_list(rules, 0, MOST_GAPS)
    obtain ⟨qs, hp, lq, hq⟩ := id hat
    refine ⟨_, rfl, (n : Int), 1, 10, rfl, by omega, by omega, true, rfl, iteF ?_⟩
    refine ⟨_, rfl, p, qs.map V.ref, 0, 40, rfl, hp, by omega, by rw [List.length_map]; omega, true, rfl, iteF ?_⟩
    -- the loop
    refine ⟨_, rfl, p, qs.map V.ref, rfl, SqT.of hp, for_it (walk_enumT (K := K) (a := p) (xs := qs.map V.ref)) (fun i σ H' => ∃ y2 y3, σ = [some (.int n), some (.ref p), y2, y3, none] ∧ Same H H') ⟨none, none, rfl, Same.refl H⟩ (fun i σ H' _ hP => ?_) (fun i x σ H1 H2 hi hP hY => ?_) (fun σ H' hP => ?_)⟩
    · obtain ⟨_, _, _, sm⟩ := hP
      exact SqT.of (sm _ _ hp)
    · obtain ⟨y2, y3, rfl, sm⟩ := hP
      obtain ⟨T, x1, x2, rfl, nT, rfl, e1, e2⟩ := hY
      cases e1
      rw [List.length_map] at hi
      have hir : i < rs.length := by omega
      have e2 : (qs.map V.ref)[i]? = some x2 := e2
      rw [List.getElem?_map, List.getElem?_eq_getElem hi] at e2
      have e3 : V.ref qs[i] = x2 := Option.some.inj e2
      subst e3
      have sm2 : Same H (upd H1 T (.tup [.int (i : Nat), .ref qs[i]])) := sm.trans (same_new nT)
      have hr0 : H qs[i] = some (.tup (ruleV rs[i])) := hq i _ _ (List.getElem?_eq_getElem hi) (List.getElem?_eq_getElem hir)
      obtain ⟨o1, o2, o3, o4, o5, o6⟩ := ok rs[i] (List.getElem_mem hir)
      refine ⟨T, _, rfl, .inl (.inl upd_same), rfl, _, _, rfl, _, _, rfl, rfl, ?_⟩
      -- is_list(rule, 3, 3)
      refine ⟨_, rfl, qs[i], ruleV rs[i], 3, 3, rfl, sm2 _ _ hr0, (show (3 : Int) ≤ ((3 : Nat) : Int) by decide), (show ((3 : Nat) : Int) ≤ 3 by decide), true, rfl, iteF ?_⟩
      -- all([is_in(one, 0, many - 1) for one in rule[:2]])
      refine ⟨_, rfl, 2, rfl, qs[i], ruleV rs[i], rfl, SqT.of (sm2 _ _ hr0), (show ¬ (HT.sIx 3 0 none = 0 ∧ HT.sIx 3 3 (some 2) = 3) by decide), fun c nc => ?_⟩
      have sm3 := sm2.trans (same_new (o := .tup (cutV (ruleV rs[i]) none (some 2))) nc)
      refine ⟨c, rfl, ⟨_, SqT.of upd_same⟩, fun D nD => ?_⟩
      refine lc_tup (K := K) (a := c) (xs := [.int rs[i].1, .int rs[i].2.1]) (fun j H' => H' D = some (.lst (List.replicate j (V.bl true))) ∧ H' c = some (.tup [.int rs[i].1, .int rs[i].2.1]) ∧ Same H H')
        ⟨upd_same, ?_, sm3.trans (same_new nD)⟩ (fun j H' _ hP => SqT.of hP.2.1) (fun j x H' hj hP => ?_) (fun H' hP => ?_)
      · have ncD : c ≠ D := fun e => by
          rw [← e, upd_same] at nD
          cases nD
        rw [upd_ne ncD]
        exact upd_same
      · obtain ⟨hD, hc, sm4⟩ := hP
        have hx : ∃ v : Int, x = .int v ∧ 0 ≤ v ∧ v < n := by
          match j, hj with
          | 0, hj => exact ⟨rs[i].1, (Option.some.inj hj).symm, o1, o2⟩
          | 1, hj => exact ⟨rs[i].2.1, (Option.some.inj hj).symm, o3, o4⟩
          | j + 2, hj => simp at hj
        obtain ⟨v, rfl, v0, v1⟩ := hx
        refine ⟨rfl, ?_⟩
        refine ⟨_, rfl, _, rfl, _, _, rfl, rfl, v, 0, (n : Int) - 1, rfl, v0, by omega, _, hD, ?_, ?_⟩
        · have hj2 := (List.getElem?_eq_some_iff.mp hj).1
          rw [List.length_replicate]
          exact small1000 (by simp at hj2; omega)
        · rw [rep_more]
          have ncD : c ≠ D := ne_of hc hD (by intro z; cases z)
          refine ⟨upd_same, ?_, ?_⟩
          · rw [upd_ne ncD]
            exact hc
          · have nDH : H D = none := sm3.free nD
            exact Same.over sm4 nDH
      · obtain ⟨hD, hc, sm4⟩ := hP
        refine ⟨D, List.replicate 2 true, rfl, SqL.of (by rw [List.map_replicate]; exact hD), true, rfl, iteF ?_⟩
        -- is_in(rule[2], -MOST_GAP, MOST_GAP)
        refine ⟨_, rfl, qs[i], ruleV rs[i], 2, .int rs[i].2.2, rfl, rfl, SqT.of (sm4 _ _ hr0), atI_nat (j := 2) rfl, 100, rfl, rs[i].2.2, -100, 100, rfl, o5, o6, true, rfl, iteF ?_⟩
        exact ⟨_, _, rfl, sm4⟩
    · obtain ⟨_, _, _, sm⟩ := hP
      exact q H' sm
end
end G51
namespace G51
open PySem PySem.Spec PyProof.Rows L2
/-! ### == of lists and tuples of ints, of a list of rules -/
abbrev dI (ns : List Int) : List PyData := ns.map PyData.int
theorem lay_dI : ∀ ns : List Int, PyData.canLayAll0 (dI ns) = true
  | [] => by simp only [List.map, PyData.canLayAll0]
  | n :: r => by
    have ih := lay_dI r
    simp only [List.map, PyData.canLayAll0, PyData.canLay0] at ih ⊢
    simp [ih]
theorem depth_dI : ∀ ns : List Int, PyData.depthAll (dI ns) = 0
  | [] => by simp only [List.map, PyData.depthAll]
  | n :: r => by
    have ih := depth_dI r
    simp only [List.map, PyData.depthAll, PyData.depth] at ih ⊢
    rw [ih]
    rfl
theorem shaped_tI (ns : List Int) : SeqAt.shaped (.tuple (dI ns)) = true := by
  unfold SeqAt.shaped
  simp only [PyData.canLay0, PyData.depth, lay_dI, depth_dI]
  decide
theorem shaped_lI (ns : List Int) : SeqAt.shaped (.list (dI ns)) = true := by
  unfold SeqAt.shaped
  simp only [PyData.canLay0, PyData.depth, lay_dI, depth_dI]
  decide
theorem eqv_dI : ∀ ns ms : List Int, PyData.eqvAll (dI ns) (dI ms) = decide (ns = ms)
  | [], [] => by simp [PyData.eqvAll]
  | [], m :: ms => by simp [PyData.eqvAll]
  | n :: ns, [] => by simp [PyData.eqvAll]
  | n :: ns, m :: ms => by
    have ih := eqv_dI ns ms
    simp only [List.map, PyData.eqvAll, PyData.eqv] at ih ⊢
    rw [ih, Bool.eq_iff_iff]
    simp
theorem eqv_lI (ns ms : List Int) : PyData.eqv (.list (dI ns)) (.list (dI ms)) = decide (ns = ms) := by
  simp only [PyData.eqv]
  exact eqv_dI ns ms
theorem eqv_tI (ns ms : List Int) : PyData.eqv (.tuple (dI ns)) (.tuple (dI ms)) = decide (ns = ms) := by
  simp only [PyData.eqv]
  exact eqv_dI ns ms
theorem dpAll_ints {K : PySem.W.Frag} {H : Hp} : ∀ ns : List Int, DpAll K H (ns.map V.int) (dI ns)
  | [] => .nil
  | n :: r => .cons (.int n) (dpAll_ints r)
theorem dp_list {K : PySem.W.Frag} {H : Hp} {a : Addr} {ns : List Int} (h : SqL K H a (ns.map V.int)) : Dp K H (.ref a) (.list (dI ns)) := .lst h (dpAll_ints ns)
theorem dp_tup {K : PySem.W.Frag} {H : Hp} {a : Addr} {ns : List Int} (h : SqT K H a (ns.map V.int)) : Dp K H (.ref a) (.tuple (dI ns)) := .tup h (dpAll_ints ns)
/-- data of a list of rules' tuples -/
def dR (r : Rule) : PyData := .tuple (dI [r.1, r.2.1, r.2.2])
theorem lay_dR : ∀ rs : List Rule, PyData.canLayAll0 (rs.map dR) = true
  | [] => by simp only [List.map, PyData.canLayAll0]
  | r :: rs => by
    have ih := lay_dR rs
    have h1 : PyData.canLay0 (dR r) = true := by
      unfold dR
      simp only [PyData.canLay0]
      exact lay_dI _
    simp only [List.map, PyData.canLayAll0] at ih ⊢
    simp [ih, h1]
theorem depth_dR : ∀ rs : List Rule, PyData.depthAll (rs.map dR) ≤ 1
  | [] => by
    simp only [List.map, PyData.depthAll]
    omega
  | r :: rs => by
    have ih := depth_dR rs
    have h1 : PyData.depth (dR r) = 1 := by
      unfold dR
      simp only [PyData.depth]
      rw [depth_dI]
    simp only [List.map, PyData.depthAll] at ih ⊢
    rw [h1]
    omega
theorem shaped_lR (rs : List Rule) : SeqAt.shaped (.list (rs.map dR)) = true := by
  unfold SeqAt.shaped
  have h := depth_dR rs
  have e1 : PyData.canLay0 (.list (rs.map dR)) = true := by
    simp only [PyData.canLay0]
    exact lay_dR rs
  have e2 : PyData.depth (.list (rs.map dR)) ≤ 64 := by
    simp only [PyData.depth]
    omega
  rw [e1, decide_eq_true e2]
  rfl
theorem eqv_nil (ds : List PyData) : PyData.eqv (.list ds) (.list []) = ds.isEmpty := by
  cases ds with
  | nil => simp [PyData.eqv, PyData.eqvAll]
  | cons d r => simp [PyData.eqv, PyData.eqvAll]
/-! ### places -/
theorem at_pl {L : List Int} {x : Int} (h0 : 0 ≤ x) (h1 : x < L.length) : atI (L.map V.int) x = some (.int (pl L x)) := by
  have e : x = ((x.toNat : Nat) : Int) := by omega
  have g : (L.map V.int)[x.toNat]? = some (.int (pl L x)) := by
    rw [List.getElem?_map, pl_get h0 h1]
    rfl
  rw [e]
  have := atI_nat g
  rw [← e] at this ⊢
  exact this
theorem ix_pl {L : List Int} {x : Int} (h0 : 0 ≤ x) (h1 : x < L.length) : ixN (L.map V.int).length x = some x.toNat := by
  unfold ixN
  rw [if_pos h0, List.length_map, if_pos h1]
theorem rep_zero (n : Nat) : (List.replicate ((n : Int)).toNat [V.int 0]).flatten = (List.replicate n (0 : Int)).map V.int := by
  rw [Int.toNat_natCast]
  induction n with
  | zero => rfl
  | succ n ih =>
    rw [List.replicate_succ, List.flatten_cons, ih, List.replicate_succ]
    rfl
end G51
namespace G51
open PySem PySem.Spec PyProof.Rows L2
section
variable {P : Program} {w : World} {K : PySem.W.Frag} {mg : Str → Option Value} {base : Heap}
theorem qs_get {qs : List Addr} {rs : List Rule} {m : Nat} {x : V} (lq : qs.length = rs.length) (hx : (qs.map V.ref)[m]? = some x) : ∃ q r, x = .ref q ∧ qs[m]? = some q ∧ rs[m]? = some r := by
  rw [List.getElem?_map] at hx
  cases e : qs[m]? with
  | none =>
    rw [e] at hx
    cases hx
  | some q =>
    rw [e] at hx
    have hlt := (List.getElem?_eq_some_iff.mp e).1
    exact ⟨q, rs[m]'(by omega), (Option.some.inj hx).symm, rfl, List.getElem?_eq_getElem (by omega)⟩
theorem pass_take_len {rs : List Rule} {n m i : Nat} : (pass (rs.take m) (G51.P rs n i)).length = n := by
  rw [pass_len, P_len]
theorem ok_lowest {f : Addr} {fd : FuncData} (F : Fun K "lowest" "lowest" sLowest f fd) (mR : mg "range" = none) : FnOk P w K mg base CX0 1 f fd ["many", "rules"] spLowest := by
  refine F.ok scLowest (fun vs H Q E h => ?_) (fun cdv A outer s H vs Q E hr h => ?_)
  · obtain ⟨_, _, _, _, a, _⟩ := h
    exact a.two
  · obtain ⟨n, rs, p, L, ⟨rfl, pos, few, hat, len, ok⟩, low, q⟩ := h
    refine ⟨_, pss_cons (ps_set (i := 2) scLowest.nd rfl (.inl rfl) (pe_op op_rep (pe_lst (pa_cons pe_int pa_nil)) (pv 0)))
      (pss_cons (ps_for PassesOwn.never rfl (pi_range1 (by rfl) mR (pa_cons (pe_op op_add (pv 0) pe_int) pa_nil)) (pg_name (i := 3) scLowest.nd rfl (.inl rfl))
        (pss_cons (ps_set (i := 4) scLowest.nd rfl (.inl rfl) pe_bl)
        (pss_cons (ps_for PassesOwn.never rfl (pi_tup (pv 1)) (pg_tup rfl (pgs_cons (pg_name (i := 5) scLowest.nd rfl (.inl rfl)) (pgs_cons (pg_name (i := 6) scLowest.nd rfl (.inl rfl)) (pgs_cons (pg_name (i := 7) scLowest.nd rfl (.inl rfl)) pgs_nil))))
          (pss_one (ps_if (pt_cmpR op_lt (pe_ix ix_list (pv 2) (pv 6) (fun _ _ => rfl)) (pe_op op_add (pe_ix ix_list (pv 2) (pv 5) (fun _ _ => rfl)) (pv 7)) (nomark _))
            (pss_one (ps_asg (pe_tup (pa_cons (pe_op op_add (pe_ix ix_list (pv 2) (pv 5) (fun _ _ => rfl)) (pv 7)) (pa_cons pe_bl pa_nil)))
              (pg_tup rfl (pgs_cons (pg_sub (pv 2) (pv 6) set_list) (pgs_cons (pg_name (i := 4) scLowest.nd rfl (.inl rfl)) pgs_nil)))))
            pss_nil)))
        (pss_one (ps_if (pt_not (pt_val (pv 4))) (pss_one (ps_ret (pv 2))) pss_nil)))))
      (pss_one ps_never)), ?_⟩
    obtain ⟨qs, hp, lq, hq⟩ := id hat
    -- places = [0] * many
    refine ⟨by show 1 ≤ sizeLine; decide, fun z nz => ?_⟩
    refine ⟨_, rfl, z, n, [V.int 0], rfl, rfl, upd_same, by omega, by omega, ?_, fun pA nA => ?_⟩
    · rw [Int.toNat_natCast]
      have : sizeLine = 16777216 := sizeLine_eq
      show 1 * n ≤ sizeLine
      omega
    have nH : H pA = none := (same_new nz).free nA
    -- for turn in range(many + 1)
    refine ⟨_, rfl, _, _, rfl, rfl, (n : Int) + 1, rfl, by omega, by omega, ?_⟩
    rw [rep_zero]
    refine for_range (lo := 0) (n := ((n : Int) + 1).toNat) (fun i σ H' => ∃ y3 y4 y5 y6 y7, σ = [some (.int n), some (.ref p), some (.ref pA), y3, y4, y5, y6, y7] ∧ Same H H' ∧ H' pA = some (.lst ((G51.P rs n i).map V.int)) ∧ ∀ j, j < i → ¬ pass rs (G51.P rs n j) = G51.P rs n j)
      ⟨none, none, none, none, none, rfl, (same_new nz).trans (same_new nA), upd_same, fun j hj => absurd hj (Nat.not_lt_zero j)⟩ (fun i σ H' hi hP => ?_) (fun σ H' hP => ?_)
    · obtain ⟨y3, y4, y5, y6, y7, rfl, sm, hA, hno⟩ := hP
      -- is_new = False, the rules
      refine ⟨_, rfl, p, rfl, ⟨_, SqT.of (sm _ _ hp)⟩, for_tup (K := K) (a := p) (xs := qs.map V.ref)
        (fun m σ H2 => ∃ (b : Bool) (y5 y6 y7 : Option V), σ = [some (.int n), some (.ref p), some (.ref pA), some (.int (0 + i)), some (.bl b), y5, y6, y7] ∧ Same H H2 ∧ H2 pA = some (.lst ((pass (rs.take m) (G51.P rs n i)).map V.int)) ∧
          (b = true → (G51.P rs n i).sum < (pass (rs.take m) (G51.P rs n i)).sum) ∧ (b = false → pass (rs.take m) (G51.P rs n i) = G51.P rs n i))
        ⟨false, y5, y6, y7, rfl, sm, hA, (fun e => Bool.noConfusion e), fun _ => rfl⟩ (fun m σ H2 _ hP2 => ?_) (fun m x σ H2 hx hP2 => ?_) (fun σ H2 hP2 => ?_)⟩
      · obtain ⟨_, _, _, _, _, sm2, _⟩ := hP2
        exact SqT.of (sm2 _ _ hp)
      · obtain ⟨b, z5, z6, z7, rfl, sm2, hA2, hb1, hb2⟩ := hP2
        obtain ⟨a, r, rfl, ha, hrm⟩ := qs_get lq hx
        obtain ⟨o1, o2, o3, o4, o5, o6⟩ := ok r (List.mem_of_getElem? hrm)
        have hT : H2 a = some (.tup (ruleV r)) := sm2 _ _ (hq m a r ha hrm)
        have hlen : (pass (rs.take m) (G51.P rs n i)).length = n := pass_take_len
        have pm := pass_more hrm (G51.P rs n i)
        generalize hC : pass (rs.take m) (G51.P rs n i) = C at *
        refine ⟨a, ruleV r, rfl, SqT.of hT, rfl, _, _, rfl, _, _, rfl, _, _, rfl, rfl, ?_⟩
        refine ⟨_, rfl, _, rfl, pA, _, r.2.1, _, rfl, rfl, SqL.of hA2, at_pl o3 (by omega), _, rfl, _, rfl, pA, _, r.1, _, rfl, rfl, SqL.of hA2, at_pl o1 (by omega), _, rfl, _, _, rfl, rfl, _, _, rfl, rfl, _, rfl, ite2 (fun c => ?_) (fun c => ?_)⟩
        · have c' : pl C r.2.1 < pl C r.1 + r.2.2 := of_decide_eq_true c
          refine ⟨_, rfl, _, rfl, pA, _, r.1, _, rfl, rfl, SqL.of hA2, at_pl o1 (by omega), _, rfl, _, _, rfl, rfl, by show 2 ≤ sizeLine; decide, fun T nT => ?_⟩
          have nTA : pA ≠ T := ne_of_none hA2 nT
          refine ⟨T, _, rfl, .inl (.inl upd_same), rfl, _, _, rfl, ?_⟩
          refine ⟨_, rfl, _, rfl, pA, C.map V.int, r.2.1, r.2.1.toNat, rfl, rfl, by rw [upd_ne nTA]; exact hA2, ix_pl o3 (by omega), _, _, rfl, rfl, ?_⟩
          refine ⟨true, _, _, _, rfl, Same.over (Same.over sm2 (sm2.free nT)) nH, ?_, fun _ => ?_, fun e => Bool.noConfusion e⟩
          · rw [upd_same, pm, step_new c', ← List.map_set]
          · rw [pm, step_sum o3 (by omega)]
            rw [← hC] at hb1 hb2
            have up := pass_up (n := n) (rs := rs.take m) (L := G51.P rs n i) (P_len rs n i) (fun r hr => ok r (List.mem_of_mem_take hr))
            rw [hC] at up
            omega
        · have c' : ¬ pl C r.2.1 < pl C r.1 + r.2.2 := of_decide_eq_false (by simpa using c)
          have e := step_old o3 (by omega) c'
          refine ⟨b, _, _, _, rfl, sm2, ?_, ?_, ?_⟩
          · rw [pm, e]
            exact hA2
          · rw [pm, e]
            exact hb1
          · rw [pm, e]
            exact hb2
      · obtain ⟨b, z5, z6, z7, rfl, sm2, hA2, hb1, hb2⟩ := hP2
        rw [List.length_map, lq, List.take_length] at hA2 hb1 hb2
        refine ⟨_, rfl, b, rfl, ite2 (fun c => ?_) (fun c => ?_)⟩
        · have eb : b = false := by
            cases b
            · rfl
            · exact absurd c Bool.false_ne_true
          have fx := hb2 eb
          have e := low_eq low fx
          refine ⟨_, rfl, q H2 pA sm2 nH ?_⟩
          rw [hA2, fx, e]
        · have eb : b = true := by
            cases b
            · exact absurd rfl c
            · rfl
          refine ⟨_, _, _, _, _, rfl, sm2, hA2, fun j hj => ?_⟩
          by_cases hji : j < i
          · exact hno j hji
          · have e2 : j = i := by omega
            subst e2
            intro fx
            have := hb1 eb
            rw [fx] at this
            omega
    · -- the turns can't end so
      obtain ⟨y3, y4, y5, y6, y7, rfl, sm, hA, hno⟩ := hP
      obtain ⟨t, ht, e, fx⟩ := low
      rw [← e] at fx
      exact hno t (by omega) fx
end
end G51
namespace G51
open PySem PySem.Spec PyProof.Rows L2
/-- a def that is called: where its name stands, how it binds, its promise -/
structure Dn (P : Program) (w : World) (K : PySem.W.Frag) (mg : Str → Option Value) (base : Heap) (x : Str) (ps : List Str) (sp : Sp) (k : Nat) (f : Addr) (fd : FuncData) : Prop where
  g : mg x = some (.ref f)
  kp : PySem.W.keepIn K (.ref f) = true
  b : Binds K fd ps []
  o : FnOk P w K mg base CX0 k f fd ps sp
section
variable {P : Program} {w : World} {K : PySem.W.Frag} {mg : Str → Option Value} {base : Heap}
theorem ok_left {f fN fL : Addr} {fd fdN fdL : FuncData} (F : Fun K "leftmost" "leftmost" sLeft f fd) (N : Dn P w K mg base "need_gaps" ["many", "rules"] spNeed 3 fN fdN) (Lw : Dn P w K mg base "lowest" ["many", "rules"] spLowest 1 fL fdL)
    (mT : mg "tuple" = none) : FnOk P w K mg base CX0 4 f fd ["many", "rules"] spLeft := by
  refine F.ok scLeft (fun vs H Q E h => ?_) (fun cdv A outer s H vs Q E hr h => ?_)
  · obtain ⟨_, _, _, _, a, _⟩ := h
    exact a.two
  · obtain ⟨n, rs, p, L, ⟨rfl, pos, few, hat, len, ok⟩, low, q⟩ := h
    refine ⟨_, pss_cons (ps_expr (pe_call N.o hr (by rfl) N.g N.kp N.b .nil pass0 (pa_cons (pv 0) (pa_cons (pv 1) pa_nil))))
      (pss_cons (ps_set (i := 2) scLeft.nd rfl (.inl rfl) (pe_call Lw.o (hr.mono (by decide)) (by rfl) Lw.g Lw.kp Lw.b .nil pass0 (pa_cons (pv 0) (pa_cons (pv 1) pa_nil))))
      (pss_cons (ps_if (pt_cmpR op_isN (pv 2) pe_non (nomark _)) (pss_one ps_never) pss_nil)
      (pss_one (ps_ret (pe_callTy cr_tupF (by rfl) mT boot_tuple (pa_cons (pv 2) pa_nil)))))), ?_⟩
    refine ⟨_, rfl, _, rfl, n, rs, p, ⟨rfl, pos, few, hat, len, ok⟩, fun H1 s1 => ?_⟩
    refine ⟨_, rfl, _, rfl, n, rs, p, L, ⟨rfl, pos, few, hat.keep (Tups.of s1), len, ok⟩, low, fun H2 z s2 nz hz => ?_⟩
    have s3 := s1.trans s2
    refine ⟨_, rfl, rfl, _, rfl, iteF ?_⟩
    refine ⟨_, rfl, z, _, rfl, SqL.of hz, fun y o ny od => ?_⟩
    exact q _ _ (s3.trans (same_new ny)) (s3.free ny) ⟨o, upd_same, od⟩
/-- the least places that the law reckons by itself: found, or none -/
def spLeast : Sp := fun vs H Q _ => ∃ n rs p, Args vs H n rs p ∧ (∀ H', Same H H' → Q .non H') ∧ ∀ L H' q, Low rs n L → Same H H' → H q = none → H' q = some (.lst (L.map V.int)) → Q (.ref q) H'
theorem ok_least {f : Addr} {fd : FuncData} (F : Fun K "_law_least_places" "_law_least_places" sLeast f fd) (mR : mg "range" = none) (mL : mg "list" = none) (mM : mg "max" = none) :
    FnOk P w K mg base CX0 1 f fd ["_law_many", "_law_rules_here"] spLeast := by
  refine F.ok scLeast (fun vs H Q E h => ?_) (fun cdv A outer s H vs Q E hr h => ?_)
  · obtain ⟨_, _, _, a, _⟩ := h
    exact a.two
  · obtain ⟨n, rs, p, ⟨rfl, pos, few, hat, len, ok⟩, q0, q⟩ := h
    refine ⟨_, pss_cons (ps_set (i := 2) scLeast.nd rfl (.inl rfl) (pe_op op_rep (pe_lst (pa_cons pe_int pa_nil)) (pv 0)))
      (pss_cons (ps_for PassesOwn.never rfl (pi_range1 (by rfl) mR (pa_cons (pe_op op_add (pv 0) pe_int) pa_nil)) (pg_name (i := 3) scLeast.nd rfl (.inl rfl))
        (pss_cons (ps_set (i := 4) scLeast.nd rfl (.inl rfl) (pe_callTy call_list_of (by rfl) mL (by decide +kernel) (pa_cons (pv 2) pa_nil)))
        (pss_cons (ps_for PassesOwn.never rfl (pi_tup (pv 1)) (pg_tup rfl (pgs_cons (pg_name (i := 5) scLeast.nd rfl (.inl rfl)) (pgs_cons (pg_name (i := 6) scLeast.nd rfl (.inl rfl)) (pgs_cons (pg_name (i := 7) scLeast.nd rfl (.inl rfl)) pgs_nil))))
          (pss_one (ps_asg (pe_callB (call_max2 rfl) (by rfl) mM (by decide +kernel) (pa_cons (pe_ix ix_list (pv 2) (pv 6) (fun _ _ => rfl)) (pa_cons (pe_op op_add (pe_ix ix_list (pv 2) (pv 5) (fun _ _ => rfl)) (pv 7)) pa_nil)))
            (pg_sub (pv 2) (pv 6) set_list))))
        (pss_one (ps_if (pt_cmpR (op_eqD hr.units) (pv 4) (pv 2) (nomark _)) (pss_one (ps_ret (pv 2))) pss_nil)))))
      (pss_one (ps_ret pe_non))), ?_⟩
    obtain ⟨qs, hp, lq, hq⟩ := id hat
    refine ⟨by show 1 ≤ sizeLine; decide, fun z nz => ?_⟩
    refine ⟨_, rfl, z, n, [V.int 0], rfl, rfl, upd_same, by omega, by omega, ?_, fun pA nA => ?_⟩
    · rw [Int.toNat_natCast]
      have : sizeLine = 16777216 := sizeLine_eq
      show 1 * n ≤ sizeLine
      omega
    have nH : H pA = none := (same_new nz).free nA
    refine ⟨_, rfl, _, _, rfl, rfl, (n : Int) + 1, rfl, by omega, by omega, ?_⟩
    rw [rep_zero]
    refine for_range (lo := 0) (n := ((n : Int) + 1).toNat) (fun i σ H' => ∃ y3 y4 y5 y6 y7, σ = [some (.int n), some (.ref p), some (.ref pA), y3, y4, y5, y6, y7] ∧ Same H H' ∧ H' pA = some (.lst ((G51.P rs n i).map V.int)))
      ⟨none, none, none, none, none, rfl, (same_new nz).trans (same_new nA), upd_same⟩ (fun i σ H' hi hP => ?_) (fun σ H' hP => ?_)
    · obtain ⟨y3, y4, y5, y6, y7, rfl, sm, hA⟩ := hP
      -- before = list(places)
      refine ⟨_, rfl, pA, _, rfl, .inl (SqL.of hA), fun pB nB => ?_⟩
      have nBA : pA ≠ pB := ne_of_none hA nB
      have nHB : H pB = none := sm.free nB
      refine ⟨_, rfl, p, rfl, ⟨_, SqT.of ((sm.trans (same_new nB)) _ _ hp)⟩, for_tup (K := K) (a := p) (xs := qs.map V.ref)
        (fun m σ H2 => ∃ y5 y6 y7 : Option V, σ = [some (.int n), some (.ref p), some (.ref pA), some (.int (0 + i)), some (.ref pB), y5, y6, y7] ∧ Same H H2 ∧ H2 pA = some (.lst ((pass (rs.take m) (G51.P rs n i)).map V.int)) ∧ H2 pB = some (.lst ((G51.P rs n i).map V.int)))
        ⟨y5, y6, y7, rfl, sm.trans (same_new nB), ?_, upd_same⟩ (fun m σ H2 _ hP2 => ?_) (fun m x σ H2 hx hP2 => ?_) (fun σ H2 hP2 => ?_)⟩
      · rw [upd_ne nBA]
        exact hA
      · obtain ⟨_, _, _, _, sm2, _⟩ := hP2
        exact SqT.of (sm2 _ _ hp)
      · obtain ⟨z5, z6, z7, rfl, sm2, hA2, hB2⟩ := hP2
        obtain ⟨a, r, rfl, ha, hrm⟩ := qs_get lq hx
        obtain ⟨o1, o2, o3, o4, o5, o6⟩ := ok r (List.mem_of_getElem? hrm)
        have hT : H2 a = some (.tup (ruleV r)) := sm2 _ _ (hq m a r ha hrm)
        have hlen : (pass (rs.take m) (G51.P rs n i)).length = n := pass_take_len
        have pm := pass_more hrm (G51.P rs n i)
        generalize hC : pass (rs.take m) (G51.P rs n i) = C at *
        refine ⟨a, ruleV r, rfl, SqT.of hT, rfl, _, _, rfl, _, _, rfl, _, _, rfl, rfl, ?_⟩
        refine ⟨_, rfl, _, rfl, pA, _, r.2.1, _, rfl, rfl, SqL.of hA2, at_pl o3 (by omega), _, rfl, _, rfl, pA, _, r.1, _, rfl, rfl, SqL.of hA2, at_pl o1 (by omega), _, rfl, _, _, rfl, rfl, _, _, rfl, ?_⟩
        refine ⟨_, rfl, _, rfl, pA, C.map V.int, r.2.1, r.2.1.toNat, rfl, rfl, hA2, ix_pl o3 (by omega), ?_⟩
        refine ⟨_, _, _, rfl, Same.over sm2 nH, ?_, ?_⟩
        · rw [upd_same, pm]
          unfold step
          rw [List.map_set, show (if pl C r.1 + r.2.2 > pl C r.2.1 then pl C r.1 + r.2.2 else pl C r.2.1) = max (pl C r.2.1) (pl C r.1 + r.2.2) by split <;> omega]
        · rw [upd_ne nBA.symm]
          exact hB2
      · obtain ⟨z5, z6, z7, rfl, sm2, hA2, hB2⟩ := hP2
        rw [List.length_map, lq, List.take_length] at hA2
        refine ⟨_, rfl, _, rfl, _, _, dp_list (SqL.of hB2), dp_list (SqL.of hA2), shaped_lI _, shaped_lI _, _, rfl, ?_⟩
        rw [eqv_lI]
        refine ite2 (fun c => ?_) (fun c => ?_)
        · have fx : G51.P rs n i = pass rs (G51.P rs n i) := of_decide_eq_true c
          refine ⟨_, rfl, q (G51.P rs n i) H2 pA ⟨i, by omega, rfl, fx.symm⟩ sm2 nH ?_⟩
          rw [hA2, ← fx]
        · exact ⟨_, _, _, _, _, rfl, sm2, hA2⟩
    · obtain ⟨y3, y4, y5, y6, y7, rfl, sm, hA⟩ := hP
      exact q0 H' sm
end
end G51
namespace G51
open PySem PySem.Spec PyProof.Rows L2
/-! ### what the dict holds -/
def oV : Option Int → V
  | none => .non
  | some y => .int y
def kv (ps : PL) : List (Key × V) := ps.map fun x => (Sum.inl x.1, oV x.2)
theorem kv_len (ps : PL) : (kv ps).length = ps.length := List.length_map ..
theorem kv_none : ∀ {ps : PL} {x : Int}, x ∉ keys ps → valV (kv ps) (Sum.inl x : Key) = none
  | [], _, _ => rfl
  | (a, o) :: r, x, h => by
    have h1 : a ≠ x := fun e => h (by subst e; exact List.mem_cons_self)
    have h2 : x ∉ keys r := fun e => h (List.mem_cons_of_mem _ e)
    show valV ((Sum.inl a, oV o) :: kv r) (Sum.inl x : Key) = none
    rw [valV_neg (fun e => h1 (Sum.inl.inj e))]
    exact kv_none h2
theorem kv_some : ∀ {ps : PL} {x : Int} {o : Option Int}, (keys ps).Nodup → (x, o) ∈ ps → valV (kv ps) (Sum.inl x : Key) = some (oV o)
  | (a, b) :: r, x, o, nd, h => by
    have nd' : (a :: keys r).Nodup := nd
    obtain ⟨n1, n2⟩ := List.nodup_cons.mp nd'
    show valV ((Sum.inl a, oV b) :: kv r) (Sum.inl x : Key) = some (oV o)
    rcases List.mem_cons.mp h with e | e
    · cases e
      exact valV_pos rfl
    · have hx : x ∈ keys r := List.mem_map.mpr ⟨(x, o), e, rfl⟩
      have h1 : a ≠ x := fun z => n1 (z ▸ hx)
      rw [valV_neg (fun z => h1 (Sum.inl.inj z))]
      exact kv_some n2 e
theorem kv_put {ps : PL} {x : Int} {o : Option Int} (h : x ∉ keys ps) : putK (kv ps) (Sum.inl x) (oV o) = kv (ps ++ [(x, o)]) := by
  rw [putK_new _ (kv_none h)]
  unfold kv
  rw [List.map_append]
  rfl
theorem kv_in {ps : PL} {x : Int} : (valV (kv ps) (Sum.inl x : Key)).isSome = true → x ∈ keys ps := fun h => by
  by_cases c : x ∈ keys ps
  · exact c
  · rw [kv_none c] at h
    cases h
theorem at_end {xs : List V} {v : V} (h : xs[xs.length - 1]? = some v) : atI xs (-1) = some v := by
  have hl := (List.getElem?_eq_some_iff.mp h).1
  have e : ixN xs.length (-1) = some (xs.length - 1) := by
    unfold ixN
    rw [if_neg (by decide), if_pos (by omega)]
    congr 1
    omega
  unfold atI
  rw [e]
  exact h
theorem int_at {ns : List Int} {i : Nat} {x : Int} (h : ns[i]? = some x) : (ns.map V.int)[i]? = some (.int x) := by
  rw [List.getElem?_map, h]
  rfl
theorem TupF.over {H : Hp} {p q : Addr} {ys : List V} {o : HO} (h : TupF H p ys) (ne : p ≠ q) : TupF (upd H q o) p ys := by
  obtain ⟨ob, e, d⟩ := h
  exact ⟨ob, by rw [upd_ne ne]; exact e, d⟩
theorem TupF.new {H : Hp} {p q : Addr} {ys : List V} {o : HO} (h : TupF H p ys) (n : H q = none) : TupF (upd H q o) p ys := by
  obtain ⟨ob, e, d⟩ := id h
  exact h.over (ne_of_none e n)
theorem TupF.ne {H : Hp} {p q : Addr} {ys xs : List V} (h : TupF H p ys) (e : H q = some (.lst xs)) : p ≠ q := by
  obtain ⟨ob, e1, d⟩ := h
  exact ne_of e1 e (by intro z; cases z)
theorem TupF.ned {H : Hp} {p q : Addr} {ys : List V} {xs : List (Key × V)} (h : TupF H p ys) (e : H q = some (.dK xs)) : p ≠ q := by
  obtain ⟨ob, e1, d⟩ := h
  exact ne_of e1 e (by intro z; cases z)
/-- the heap of the search -/
structure Hs (H H' : Hp) (pP pQ pD : Addr) (L : List Int) (ps : PL) : Prop where
  sm : Same H H'
  P : TupF H' pP (L.map V.int)
  Q : H' pQ = some (.lst ((keys ps).map V.int))
  D : H' pD = some (.dK (kv ps))
theorem Hs.new {H H' : Hp} {pP pQ pD q : Addr} {L : List Int} {ps : PL} {o : HO} (h : Hs H H' pP pQ pD L ps) (n : H' q = none) : Hs H (upd H' q o) pP pQ pD L ps :=
  ⟨h.sm.trans (same_new n), h.P.new n, by rw [upd_ne (ne_of_none h.Q n)]; exact h.Q, by rw [upd_ne (ne_of_none h.D n)]; exact h.D⟩
section
variable {P : Program} {w : World} {K : PySem.W.Frag} {mg : Str → Option Value} {base : Heap}
theorem ok_tight {f fL : Addr} {fd fdL : FuncData} (F : Fun K "tight_row" "tight_row" sTight f fd) (Lf : Dn P w K mg base "leftmost" ["many", "rules"] spLeft 4 fL fdL)
    (mR : mg "range" = none) (ml : mg "len" = none) (mM : mg "max" = none) (mT : mg "tuple" = none) (mV : mg "reversed" = none) : FnOk P w K mg base CX0 5 f fd ["many", "rules"] spTight := by
  refine F.ok scTight (fun vs H Q E h => ?_) (fun cdv A outer s H vs Q E hr h => ?_)
  · obtain ⟨_, _, _, _, a, _⟩ := h
    exact a.two
  · obtain ⟨n, rs, p, L, ⟨rfl, pos, few, hat, len, ok⟩, low, q⟩ := h
    have hu := hu_of hr
    refine ⟨_, pss_cons (ps_set (i := 2) scTight.nd rfl (.inr rfl) (pe_call Lf.o hr (by rfl) Lf.g Lf.kp Lf.b .nil pass0 (pa_cons (pv 0) (pa_cons (pv 1) pa_nil))))
      (pss_cons (ps_par (i := 4) (j := 5) (by rfl) scTight.nd rfl rfl (by decide) rfl rfl (pa_cons
          (pe_lc (own := [("one", 3)]) (g := gName 3) (tt := tTest (tOp rEq (tOp (rIxT K) (tVar 2) (tVar 3)) (tC (.int 0)))) rfl scTight.nd (pi_range1 (by rfl) mR (pa_cons (pv 0) pa_nil))
            (blkOk_by (N := ["many", "rules", "places", "one", "queue", "at", "before", "here", "other", "gap", "found"]) (sc := defScope sTight) (by decide +kernel)) (fun _ _ _ _ _ => pg_name (i := 3) scTight.nd rfl (.inl rfl))
            (fun _ _ _ _ _ => pts_one (pt_cmpR op_eq (pe_ix ix_tup (pv 2) (pv 3) (fun _ _ => rfl)) pe_int (nomark _))) (fun _ _ _ _ _ => pv 3)) (pa_cons pe_int pa_nil)) (by rfl))
      (pss_cons (ps_setDc (i := 6) (own := [("one", 3)]) (g := gName 3) (tt := tYes) rfl scTight.nd rfl rfl (swD_true rfl rfl rfl (by decide +kernel)) (pi_list (pv 4))
            (blkOk_by (N := ["many", "rules", "places", "one", "queue", "at", "before", "here", "other", "gap", "found"]) (sc := defScope sTight) (by decide +kernel)) (fun _ _ _ _ _ => pg_name (i := 3) scTight.nd rfl (.inl rfl))
            (fun _ _ _ _ _ => pts_nil) (fun _ _ _ _ _ => pv 3) (fun _ _ _ _ _ => pe_non))
      (pss_cons (ps_while PassesOwn.never (pt_cmpR op_lt (pv 5) (pe_callB call_len_seq (by rfl) ml PySem.boot_len (pa_cons (pv 4) pa_nil)) (nomark _))
          (pss_cons (ps_par (i := 7) (j := 5) (by rfl) scTight.nd rfl rfl (by decide) rfl rfl (pa_cons (pe_ix ix_list (pv 4) (pv 5) (fun _ _ => rfl)) (pa_cons (pe_op op_add (pv 5) pe_int) pa_nil)) (by rfl))
          (pss_one (ps_for PassesOwn.never rfl (pi_tup (pv 1)) (pg_tup rfl (pgs_cons (pg_name (i := 3) scTight.nd rfl (.inl rfl)) (pgs_cons (pg_name (i := 8) scTight.nd rfl (.inl rfl)) (pgs_cons (pg_name (i := 9) scTight.nd rfl (.inl rfl)) pgs_nil))))
            (pss_one (ps_if (PW.pt (pw_and (pt_cmpR op_eq (pv 3) (pv 7) (nomark _)) (pw_and (pt_cmp (pc_dnotin hu (pv 8) (pv 6)))
                (pw_and1 (pt_cmpR op_eq (pe_op op_add (pe_ix ix_tup (pv 2) (pv 3) (fun _ _ => rfl)) (pv 9)) (pe_ix ix_tup (pv 2) (pv 8) (fun _ _ => rfl)) (nomark _))))))
              (pss_cons (ps_dput hu (pv 6) (pv 8) (pv 7) rfl) (pss_one (ps_expr (pe_bm PySem.F.plainAttrs_list PySem.F.slot_list_append PySem.F.type_list_append mt_append (pv 4) (pa_cons (pv 8) pa_nil)))))
              pss_nil))))))
      (pss_cons (ps_set (i := 10) scTight.nd rfl (.inl rfl) (pe_lst (pa_cons (pe_tix (pv 2) (pa_cons (pe_callB (cr_maxT rfl hu) (by rfl) mM (by decide +kernel) (pa_cons (pv 2) pa_nil)) pa_nil)) pa_nil)))
      (pss_cons (ps_while PassesOwn.never (pt_cmpR op_notN (pe_dget hu (pv 6) (pe_ix ix_list (pv 10) (pe_un un_neg pe_int) (fun _ _ => rfl)) (fun _ _ => rfl)) pe_non (nomark _))
          (pss_one (ps_expr (pe_bm PySem.F.plainAttrs_list PySem.F.slot_list_append PySem.F.type_list_append mt_append (pv 10) (pa_cons (pe_dget hu (pv 6) (pe_ix ix_list (pv 10) (pe_un un_neg pe_int) (fun _ _ => rfl)) (fun _ _ => rfl)) pa_nil)))))
      (pss_one (ps_ret (RT.pe_tupRev rfl (by rfl) mT (by rfl) mV (pv 10))))))))), ?_⟩
    obtain ⟨qs, hp, lq, hq⟩ := id hat
    have ll := low.len
    -- places = leftmost(many, rules)
    refine ⟨_, rfl, _, rfl, n, rs, p, L, ⟨rfl, pos, few, hat, len, ok⟩, low, fun H1 pP s1 nP hP => ?_⟩
    -- queue = [one for one in range(many) if places[one] == 0]
    refine ⟨_, rfl, n, rfl, by omega, by omega, fun pQ nQ => ?_⟩
    have nHQ : H pQ = none := s1.free nQ
    refine lc_range (lo := 0) (n := ((n : Nat) : Int).toNat) (fun i H' => Same H H' ∧ TupF H' pP (L.map V.int) ∧ H' pQ = some (.lst ((zeros L i).map V.int)))
      ⟨s1.trans (same_new nQ), hP.new nQ, upd_same⟩ (fun i H' hi hI => ?_) (fun H' hI => ?_)
    · obtain ⟨sm, tP, eQ⟩ := hI
      have hin : i < n := by omega
      have e0 : (0 : Int) + (i : Int) = (i : Int) := Int.zero_add _
      rw [e0]
      refine ⟨rfl, _, rfl, _, rfl, pP, _, (i : Int), _, rfl, rfl, tP.seq, at_pl (by omega) (by omega), rfl, _, rfl, ite2 (fun c => ?_) (fun c => ?_)⟩
      · have c' : pl L (i : Int) = 0 := V.int.inj (of_decide_eq_true c)
        refine ⟨_, rfl, _, eQ, ?_, Same.over sm nHQ, tP.over (tP.ne eQ), ?_⟩
        · rw [List.length_map]
          exact small1000 (Nat.le_trans (zeros_len L i) (by omega))
        · rw [upd_same, zeros_succ, if_pos c', List.map_append]
          rfl
      · have c' : ¬ pl L (i : Int) = 0 := fun e => c (by rw [e]; exact decide_eq_true rfl)
        refine ⟨sm, tP, ?_⟩
        rw [zeros_succ, if_neg c', List.append_nil]
        exact eQ
    obtain ⟨sm2, tP2, eQ2⟩ := hI
    rw [Int.toNat_natCast] at eQ2
    refine ⟨_, _, rfl, ?_⟩
    -- before = {one: None for one in queue}
    refine ⟨_, rfl, pQ, rfl, ⟨_, SqL.of eQ2⟩, fun pD nD => ?_⟩
    have nHD : H pD = none := sm2.free nD
    refine dc_listI (g := gName 3) (tt := tYes) (tk := tVar 3) (tv := tC .non) (vs := [3]) (K := K) (a := pQ) (xs := (zeros L n).map V.int) (fun i H2 => Same H H2 ∧ TupF H2 pP (L.map V.int) ∧ H2 pQ = some (.lst ((zeros L n).map V.int)) ∧ H2 pD = some (.dK (kv (G51.start ((zeros L n).take i)))))
      ⟨sm2.trans (same_new nD), tP2.new nD, ?_, upd_same⟩ (fun i H2 _ hI => SqL.of hI.2.2.1) (fun i x H2 hx hI => ?_) (fun H2 hI => ?_)
    · rw [upd_ne (ne_of_none eQ2 nD)]
      exact eQ2
    · obtain ⟨sm3, tP3, eQ3, eD3⟩ := hI
      rw [List.getElem?_map] at hx
      cases ex : (zeros L n)[i]? with
      | none =>
        rw [ex] at hx
        cases hx
      | some z =>
        rw [ex] at hx
        have hx' : V.int z = x := Option.some.inj hx
        subst hx'
        have tk : (zeros L n).take (i + 1) = (zeros L n).take i ++ [z] := by
          rw [List.take_add_one, ex]
          rfl
        have fresh : z ∉ keys (G51.start ((zeros L n).take i)) := by
          rw [keys_start]
          have nd := zeros_nodup L n
          have nd2 : ((zeros L n).take (i + 1)).Nodup := nd.sublist (List.take_sublist _ _)
          rw [tk, List.nodup_append] at nd2
          exact fun hm => nd2.2.2 z hm z (by simp) rfl
        refine ⟨rfl, _, rfl, _, Sum.inl z, rfl, eD3, ?_, Same.over sm3 nHD, tP3.over (tP3.ned eD3), ?_, ?_⟩
        · rw [kv_len]
          unfold G51.start
          rw [List.length_map, List.length_take]
          have := zeros_len L n
          exact small1000 (by omega)
        · rw [upd_ne (ne_of eQ3 eD3 (by intro z; cases z))]
          exact eQ3
        · rw [upd_same, show V.non = oV none from rfl, kv_put (o := none) fresh, tk]
          unfold G51.start
          rw [List.map_append]
          rfl
    obtain ⟨sm4, tP4, eQ4, eD4⟩ := hI
    rw [List.length_map, List.take_length] at eD4
    have hs0 : Hs H H2 pP pQ pD L (G51.start (zeros L n)) := ⟨sm4, tP4, by rw [keys_start]; exact eQ4, eD4⟩
    -- while at < len(queue)
    refine ⟨fun m σ H' => ∃ (k : Nat) (ps : PL) (y3 y7 y8 y9 : Option V), σ = [some (.int n), some (.ref p), some (.ref pP), y3, some (.ref pQ), some (.int (k : Nat)), some (.ref pD), y7, y8, y9, none] ∧ Hs H H' pP pQ pD L ps ∧ QI n rs L ps ∧ Done rs L ps k ∧ k ≤ ps.length ∧ m + k = n,
      ⟨n, 0, _, none, none, none, none, rfl, hs0, QI.start rs L, Done.zero rs L _, Nat.zero_le _, rfl⟩, fun m σ H' hW => ?_⟩
    obtain ⟨k, ps, y3, y7, y8, y9, rfl, hs, qi, dn, kl, em⟩ := hW
    have psn := qi.len
    refine ⟨_, rfl, _, rfl, pQ, _, rfl, .inl (SqL.of hs.Q), _, _, rfl, rfl, _, rfl, ite2 (fun c => ?_) (fun c => ?_)⟩
    · -- a turn
      have c' : (k : Int) < ((((keys ps).map V.int).length : Nat) : Int) := of_decide_eq_true c
      rw [List.length_map, keys_len] at c'
      have kl2 : k < ps.length := by omega
      obtain ⟨y, hy⟩ : ∃ y, (keys ps)[k]? = some y := ⟨_, List.getElem?_eq_getElem (by rw [keys_len]; exact kl2)⟩
      obtain ⟨yr0, yr1⟩ := qi.rng y (List.mem_of_getElem? hy)
      refine ⟨fun σ' H' => ∃ (ps : PL) (y3 y7 y8 y9 : Option V), σ' = [some (.int n), some (.ref p), some (.ref pP), y3, some (.ref pQ), some (.int ((k + 1 : Nat) : Int)), some (.ref pD), y7, y8, y9, none] ∧ Hs H H' pP pQ pD L ps ∧ QI n rs L ps ∧ Done rs L ps (k + 1) ∧ k + 1 ≤ ps.length, fun σ' H' hN => ?_, ?_⟩
      · obtain ⟨ps', z3, z7, z8, z9, e, a, b, c, d⟩ := hN
        exact ⟨m - 1, by omega, k + 1, ps', z3, z7, z8, z9, e, a, b, c, d, by omega⟩
      -- here, at = queue[at], at + 1
      refine ⟨_, rfl, _, rfl, pQ, _, (k : Int), .int y, rfl, rfl, SqL.of hs.Q, atI_nat (int_at hy), _, rfl, _, _, rfl, rfl, _, _, rfl, ?_⟩
      -- for one, other, gap in rules
      refine ⟨_, rfl, p, rfl, ⟨_, SqT.of (hs.sm _ _ hp)⟩, for_tup (K := K) (a := p) (xs := qs.map V.ref)
        (fun j σ H' => ∃ (ps : PL) (y3 y8 y9 : Option V), σ = [some (.int n), some (.ref p), some (.ref pP), y3, some (.ref pQ), some (.int ((k : Int) + 1)), some (.ref pD), some (.int y), y8, y9, none] ∧ Hs H H' pP pQ pD L ps ∧ QI n rs L ps ∧ Done rs L ps k ∧ (keys ps)[k]? = some y ∧ Part rs L ps y j)
        ⟨ps, y3, y8, y9, rfl, hs, qi, dn, hy, Part.zero rs L ps y⟩ (fun j σ H' _ hI => ?_) (fun j x σ H' hx hI => ?_) (fun σ H' hI => ?_)⟩
      · obtain ⟨_, _, _, _, _, hs', _⟩ := hI
        exact SqT.of (hs'.sm _ _ hp)
      · obtain ⟨ps, y3, y8, y9, rfl, hs, qi, dn, hy, pt⟩ := hI
        obtain ⟨a, r, rfl, ha, hrm⟩ := qs_get lq hx
        have hrm' := List.mem_of_getElem? hrm
        obtain ⟨o1, o2, o3, o4, o5, o6⟩ := ok r hrm'
        have hT : H' a = some (.tup (ruleV r)) := hs.sm _ _ (hq j a r ha hrm)
        refine ⟨a, ruleV r, rfl, SqT.of hT, rfl, _, _, rfl, _, _, rfl, _, _, rfl, rfl, ?_⟩
        refine ⟨_, rfl, _, rfl, rfl, _, rfl, ite2 (fun c1 => ?_) (fun c1 => iteF ?_)⟩
        · have c1' : r.1 = y := V.int.inj (of_decide_eq_true c1)
          refine ⟨_, rfl, _, rfl, pD, _, rfl, DGet.k (k := Sum.inl r.2.1) hs.D, _, rfl, ite2 (fun c2 => ?_) (fun c2 => iteF ?_)⟩
          · have c2' : r.2.1 ∉ keys ps := fun hm => by
              obtain ⟨o, ho, _⟩ := qi.entry hm
              rw [kv_some qi.nd ho] at c2
              cases c2
            refine ⟨_, rfl, _, rfl, pP, _, r.1, _, rfl, rfl, hs.P.seq, at_pl o1 (by omega), _, rfl, _, _, rfl, rfl, _, rfl, _, rfl, pP, _, r.2.1, _, rfl, rfl, hs.P.seq, at_pl o3 (by omega), rfl, _, rfl, ite2 (fun c3 => ?_) (fun c3 => ?_)⟩
            · have c3' : pl L r.1 + r.2.2 = pl L r.2.1 := V.int.inj (of_decide_eq_true c3)
              have qi2 : QI n rs L (ps ++ [(r.2.1, some y)]) := qi.more c2' o3 o4 hy ⟨r.2.2, by rw [← c1']; exact hrm', by rw [← c1']; exact c3'⟩
              have l1 : (kv ps).length < sizeLine := by
                rw [kv_len]
                have := qi.len
                exact small1000 (by omega)
              have neQD : pQ ≠ pD := ne_of hs.Q hs.D (by intro z; cases z)
              have eQ' : (upd H' pD (.dK (putK (kv ps) (Sum.inl r.2.1) (V.int y)))) pQ = some (.lst ((keys ps).map V.int)) := by
                rw [upd_ne neQD]
                exact hs.Q
              refine ⟨_, rfl, _, rfl, _, rfl, pD, _, rfl, DPut.k (k := Sum.inl r.2.1) hs.D l1, ?_⟩
              refine ⟨_, rfl, .inl ⟨rfl, _, SqL.of eQ'⟩, _, rfl, pQ, _, _, rfl, rfl, eQ', ?_, ?_⟩
              · rw [List.length_map, keys_len]
                rw [kv_len] at l1
                exact l1
              · refine ⟨ps ++ [(r.2.1, some y)], _, _, _, rfl, ⟨Same.over (Same.over hs.sm nHD) nHQ, (hs.P.over (hs.P.ned hs.D)).over (hs.P.ne hs.Q), ?_, ?_⟩, qi2, dn.more (by have := (List.getElem?_eq_some_iff.mp hy).1; rw [keys_len] at this; omega) _ _, ?_, ?_⟩
                · rw [upd_same, keys_more, List.map_append]
                  rfl
                · rw [upd_ne neQD.symm, upd_same, ← kv_put (o := some y) c2']
                  rfl
                · rw [keys_more]
                  exact get_mono hy _
                · refine (pt.more _ _).next hrm fun _ _ => ?_
                  rw [keys_more]
                  exact List.mem_append_right _ (by simp)
            · have c3' : ¬ pl L r.1 + r.2.2 = pl L r.2.1 := fun e => c3 (decide_eq_true (congrArg V.int e))
              exact ⟨ps, _, _, _, rfl, hs, qi, dn, hy, pt.next hrm fun e t => absurd (by rw [e]; exact t) c3'⟩
          · have c2' : r.2.1 ∈ keys ps := by
              refine kv_in ?_
              cases hv : (valV (kv ps) (Sum.inl r.2.1 : Key)).isSome with
              | true => rfl
              | false => exact absurd (by rw [hv]; rfl) c2
            exact ⟨ps, _, _, _, rfl, hs, qi, dn, hy, pt.next hrm fun _ _ => c2'⟩
        · have c1' : ¬ r.1 = y := fun e => c1 (by rw [e]; exact decide_eq_true rfl)
          exact ⟨ps, _, _, _, rfl, hs, qi, dn, hy, pt.next hrm fun e _ => absurd e c1'⟩
      · obtain ⟨ps, y3, y8, y9, rfl, hs, qi, dn, hy, pt⟩ := hI
        rw [List.length_map, lq] at pt
        have hk := (List.getElem?_eq_some_iff.mp hy).1
        rw [keys_len] at hk
        exact ⟨ps, _, _, _, _, rfl, hs, qi, dn.next hy pt, hk⟩
    · -- behind the search
      have c' : ¬ (k : Int) < ((((keys ps).map V.int).length : Nat) : Int) := fun z => c (decide_eq_true z)
      rw [List.length_map, keys_len] at c'
      have ek : k = ps.length := by omega
      subst ek
      have all := qi.all ok low dn
      -- found = [places.index(max(places))]
      refine ⟨_, rfl, pP, L, rfl, hs.P, _, rfl, pP, L, rfl, hs.P.seq, by omega, fun mx hmx hle => ⟨mx, rfl, hs.P, hmx, ?_⟩⟩
      have hix := List.idxOf_lt_length_iff.mpr hmx
      have hx0 : L[L.idxOf mx]? = some mx := by
        rw [List.getElem?_eq_getElem hix]
        exact congrArg some (List.getElem_idxOf hix)
      generalize hx0e : L.idxOf mx = x0 at *
      have hpl : pl L (x0 : Int) = mx := pl_of (by rw [Int.toNat_natCast]; exact hx0)
      have in0 := all (x0 : Int) (by omega) (by omega)
      refine ⟨by show 1 ≤ sizeLine; decide, fun pF nF => ?_⟩
      have nHF : H pF = none := hs.sm.free nF
      have nQF : pQ ≠ pF := ne_of_none hs.Q nF
      have hs2 := hs.new (o := .lst [V.int (x0 : Int)]) nF
      -- while before[found[-1]] is not None
      refine ⟨fun m σ H' => ∃ (fs : List Int), σ = [some (.int n), some (.ref p), some (.ref pP), y3, some (.ref pQ), some (.int (ps.length : Nat)), some (.ref pD), y7, y8, y9, some (.ref pF)] ∧ Hs H H' pP pQ pD L ps ∧ H' pF = some (.lst (fs.map V.int)) ∧ Back n rs L ps x0 fs ∧ m + fs.length = n,
        ⟨n - 1, [(x0 : Int)], rfl, hs2, upd_same, Back.one in0, by show n - 1 + 1 = n; omega⟩, fun m σ H' hW => ?_⟩
      obtain ⟨fs, rfl, hs, eF, bk, em⟩ := hW
      have hf0 := (List.getElem?_eq_some_iff.mp bk.first).1
      obtain ⟨z, hz⟩ : ∃ z, fs[fs.length - 1]? = some z := ⟨_, List.getElem?_eq_getElem (by omega)⟩
      have hz' : (fs.map V.int)[(fs.map V.int).length - 1]? = some (.int z) := by
        rw [List.length_map]
        exact int_at hz
      have zk := bk.mem z (List.mem_of_getElem? hz)
      obtain ⟨o, hzo, cases'⟩ := qi.entry zk
      have g : DGet H' pD (.int z) (some (oV o)) := by
        have := DGet.k (k := Sum.inl z) hs.D
        rw [kv_some qi.nd hzo] at this
        exact this
      refine ⟨_, rfl, _, rfl, 1, rfl, pF, _, -1, _, rfl, rfl, SqL.of eF, at_end hz', pD, _, rfl, g, rfl, _, rfl, ?_⟩
      rcases cases' with ⟨rfl, hz0⟩ | ⟨y, rfl, tg, yk, rky⟩
      · -- the end: a tuple backwards
        refine iteF ⟨_, rfl, pF, _, rfl, SqL.of eF, fun pR nR => ?_⟩
        refine q _ pR fs.reverse (hs.sm.trans (same_new nR)) (hs.sm.free nR) ?_ (bk.good qi (fun y hy => ?_) hz hz0)
        · rw [upd_same, List.map_reverse]
        · rw [hpl]
          exact hle y hy
      · have bk2 := bk.more hz yk tg rky
        have bl := bk2.len
        rw [List.length_append, List.length_singleton] at bl
        refine iteT ⟨fun σ' H' => ∃ (fs : List Int), σ' = [some (.int n), some (.ref p), some (.ref pP), y3, some (.ref pQ), some (.int (ps.length : Nat)), some (.ref pD), y7, y8, y9, some (.ref pF)] ∧ Hs H H' pP pQ pD L ps ∧ H' pF = some (.lst (fs.map V.int)) ∧ Back n rs L ps x0 fs ∧ (m - 1) + fs.length = n,
          fun σ' H' hN => ⟨m - 1, by omega, hN⟩, ?_⟩
        refine ⟨_, rfl, .inl ⟨rfl, _, SqL.of eF⟩, _, rfl, _, rfl, 1, rfl, pF, _, -1, _, rfl, rfl, SqL.of eF, at_end hz', pD, _, rfl, g, pF, _, _, rfl, rfl, eF, ?_, ?_⟩
        · rw [List.length_map]
          exact small1000 (by omega)
        · have n1 : pP ≠ pF := hs.P.ne eF
          have n2 : pQ ≠ pF := nQF
          have n3 : pD ≠ pF := (ne_of eF hs.D (by intro z; cases z)).symm
          refine ⟨fs ++ [y], rfl, ⟨Same.over hs.sm nHF, hs.P.over n1, by rw [upd_ne n2]; exact hs.Q, by rw [upd_ne n3]; exact hs.D⟩, ?_, bk2, ?_⟩
          · rw [upd_same, List.map_append]
            rfl
          · rw [List.length_append, List.length_singleton]
            omega
end
end G51
namespace G51
open PySem PySem.Spec PyProof.Rows L2
/-! ### the law's draws -/
/-- the script: known to the object, or an object of the module -/
def Scr (K : PySem.W.Frag) (H : Hp) (a : Addr) (ns : List Int) : Prop := (∃ o : Obj, H a = some (.frz o (.lst (ns.map V.int)))) ∨ ∀ H' : Hp, SqL K H' a (ns.map V.int)
theorem Scr.seq {K : PySem.W.Frag} {H : Hp} {a : Addr} {ns : List Int} (h : Scr K H a ns) : SqL K H a (ns.map V.int) := by
  rcases h with ⟨o, e⟩ | h
  · exact .inl (.inr ⟨o, e⟩)
  · exact h H
theorem Scr.of {K : PySem.W.Frag} {H : Hp} {a : Addr} {ns : List Int} (hO : Only H) (h : SqL K H a (ns.map V.int)) : Scr K H a ns := by
  rcases h with (e | ⟨o, e⟩) | h
  · rcases hO a with z | ⟨o, xs, z⟩
    · rw [e] at z
      cases z
    · rw [e] at z
      cases z
  · exact .inl ⟨o, e⟩
  · exact .inr fun _ => .inr h
theorem Scr.keep {K : PySem.W.Frag} {H H' : Hp} {a : Addr} {ns : List Int} (h : Scr K H a ns) (k : ∀ o, H a = some (.frz o (.lst (ns.map V.int))) → H' a = some (.frz o (.lst (ns.map V.int)))) : Scr K H' a ns := by
  rcases h with ⟨o, e⟩ | h
  · exact .inl ⟨o, k o e⟩
  · exact .inr h
theorem Scr.new {K : PySem.W.Frag} {H : Hp} {a p : Addr} {ns : List Int} {o : HO} (h : Scr K H a ns) (n : H p = none) : Scr K (upd H p o) a ns := h.keep fun ob e => by
  rw [upd_ne (ne_of_none e n)]
  exact e
theorem Scr.lst {K : PySem.W.Frag} {H : Hp} {a p : Addr} {ns : List Int} {xs : List V} {o : HO} (h : Scr K H a ns) (n : H p = some (.lst xs)) : Scr K (upd H p o) a ns := h.keep fun ob e => by
  rw [upd_ne (ne_of e n (by intro z; cases z))]
  exact e
/-- the row of the draws: the script, how many were taken, a mixed number, a great cell's rest -/
abbrev rowV (a : Addr) (i x c : Int) : List V := [.ref a, .int i, .int x, .int c]
def spTaken (K : PySem.W.Frag) : Sp := fun vs H Q _ => ∃ (r a : Addr) (ns : List Int) (i x c many : Int), vs = [.ref r, .int many] ∧ Scr K H a ns ∧ H r = some (.lst (rowV a i x c)) ∧ 0 ≤ i ∧ 0 ≤ x ∧ x < 2147483647 ∧ 1 ≤ many ∧ many ≤ 1000 ∧
  ∀ v i' x' c' : Int, 0 ≤ v → v < many → 0 ≤ i' → 0 ≤ x' → x' < 2147483647 → Q (.int v) (upd H r (.lst (rowV a i' x' c')))
section
variable {P : Program} {w : World} {K : PySem.W.Frag} {mg : Str → Option Value} {base : Heap}
theorem ok_taken {f : Addr} {fd : FuncData} (F : Fun K "_law_taken" "_law_taken" sTaken f fd) (mI : mg "int" = none) (ml : mg "len" = none) : FnOk P w K mg base CX0 1 f fd ["_law_row", "_law_many"] (spTaken K) := by
  refine F.ok scTaken (fun vs H Q E h => ?_) (fun cdv A outer s H vs Q E hr h => ?_)
  · obtain ⟨_, _, _, _, _, _, _, rfl, _⟩ := h
    rfl
  · obtain ⟨r, a, ns, i, x, c, many, rfl, hS, hR, hi, hx0, hx1, hm1, hm2, q⟩ := h
    refine ⟨_, pss_cons (ps_if (pt_cmpR op_gt (pe_ix ix_list (pv 0) pe_int (fun _ _ => rfl)) pe_int (nomark _))
        (pss_cons (ps_set (i := 2) scTaken.nd rfl (.inl rfl) (pe_op op_mod (pe_callTy call_int1 (by rfl) mI (by decide +kernel) (pa_cons (pe_ix ix_list (pv 0) pe_int (fun _ _ => rfl)) pa_nil)) (pv 1)))
        (pss_cons (ps_asg (pe_op op_fdivN (pe_ix ix_list (pv 0) pe_int (fun _ _ => rfl)) (pv 1)) (pg_sub (pv 0) pe_int set_list))
        (pss_one (ps_ret (pv 2))))) pss_nil)
      (pss_cons (ps_asg (pe_op op_add (pe_ix ix_list (pv 0) pe_int (fun _ _ => rfl)) pe_int) (pg_sub (pv 0) pe_int set_list))
      (pss_cons (ps_if (pt_cmpR op_gt (pe_ix ix_list (pv 0) pe_int (fun _ _ => rfl)) (pe_callB call_len_seq (by rfl) ml PySem.boot_len (pa_cons (pe_ix ix_list (pv 0) pe_int (fun _ _ => rfl)) pa_nil)) (nomark _))
        (pss_cons (ps_asg (pe_op op_mod (pe_callTy call_int1 (by rfl) mI (by decide +kernel) (pa_cons (pe_op op_add (pe_op op_mul (pe_ix ix_list (pv 0) pe_int (fun _ _ => rfl)) pe_int) pe_int) pa_nil)) pe_int) (pg_sub (pv 0) pe_int set_list))
        (pss_one (ps_ret (pe_op op_mod (pe_callTy call_int1 (by rfl) mI (by decide +kernel) (pa_cons (pe_op op_fdivN (pe_ix ix_list (pv 0) pe_int (fun _ _ => rfl)) pe_int) pa_nil)) (pv 1))))) pss_nil)
      (pss_cons (ps_set (i := 3) scTaken.nd rfl (.inl rfl) (pe_ix ix_list (pe_ix ix_list (pv 0) pe_int (fun _ _ => rfl)) (pe_op op_sub (pe_ix ix_list (pv 0) pe_int (fun _ _ => rfl)) pe_int) (fun _ _ => rfl)))
      (pss_cons (ps_asg (pe_op op_mod (pe_callTy call_int1 (by rfl) mI (by decide +kernel) (pa_cons (pe_op op_add (pe_op op_add (pe_op op_mul (pe_ix ix_list (pv 0) pe_int (fun _ _ => rfl)) pe_int) (pv 3)) pe_int) pa_nil)) pe_int) (pg_sub (pv 0) pe_int set_list))
      (pss_cons (ps_if (pt_cmpR op_ge (pv 3) (pe_op op_pow pe_int pe_int) (nomark _)) (pss_one (ps_asg (pe_op op_fdivN (pv 3) (pv 1)) (pg_sub (pv 0) pe_int set_list))) pss_nil)
      (pss_one (ps_ret (pe_op op_mod (pe_callTy call_int1 (by rfl) mI (by decide +kernel) (pa_cons (pv 3) pa_nil)) (pv 1))))))))), ?_⟩
    have seq : ∀ {H' : Hp} {i x c : Int}, H' r = some (.lst (rowV a i x c)) → SqL K H' r (rowV a i x c) := fun e => SqL.of e
    refine ⟨_, rfl, r, _, 3, _, rfl, rfl, seq hR, atI_nat (j := 3) rfl, _, _, rfl, rfl, _, rfl, ite2 (fun t => ?_) (fun t => ?_)⟩
    · -- a rest is there
      refine ⟨_, rfl, r, _, 3, _, rfl, rfl, seq hR, atI_nat (j := 3) rfl, .inl ⟨_, rfl, _, rfl, _, _, rfl, rfl, (by omega : (0 : Int) < many), ?_⟩⟩
      refine ⟨_, rfl, r, _, 3, _, rfl, rfl, seq hR, atI_nat (j := 3) rfl, _, rfl, _, _, rfl, rfl, ⟨by omega, by omega⟩, _, rfl, r, _, 3, 3, rfl, rfl, hR, rfl, ?_⟩
      exact ⟨_, rfl, q _ i x _ (Int.emod_nonneg _ (by omega)) (Int.emod_lt_of_pos _ (by omega)) hi hx0 hx1⟩
    · -- row[1] = row[1] + 1
      refine ⟨_, rfl, r, _, 1, _, rfl, rfl, seq hR, atI_nat (j := 1) rfl, _, _, rfl, rfl, _, rfl, r, _, 1, 1, rfl, rfl, hR, rfl, ?_⟩
      have hR1 : upd H r (.lst (rowV a (i + 1) x c)) r = some (.lst (rowV a (i + 1) x c)) := upd_same
      have hS1 : Scr K (upd H r (.lst (rowV a (i + 1) x c))) a ns := hS.lst hR
      refine ⟨_, rfl, r, _, 1, _, rfl, rfl, seq hR1, atI_nat (j := 1) rfl, _, rfl, r, _, 0, _, rfl, rfl, seq hR1, atI_nat (j := 0) rfl, a, _, rfl, .inl hS1.seq, _, _, rfl, rfl, _, rfl, ite2 (fun t2 => ?_) (fun t2 => ?_)⟩
      · -- the script is at its end
        refine ⟨_, rfl, r, _, 2, _, rfl, rfl, seq hR1, atI_nat (j := 2) rfl, _, _, rfl, rfl, .inl ⟨by omega, by omega⟩, _, _, rfl, rfl, .inl ⟨_, rfl, _, _, rfl, rfl, (by decide : (0 : Int) < 2147483647), _, rfl, r, _, 2, 2, rfl, rfl, hR1, rfl, ?_⟩⟩
        rw [upd_upd]
        have hR2 : ∀ z : Int, upd H r (.lst (rowV a (i + 1) z c)) r = some (.lst (rowV a (i + 1) z c)) := fun z => upd_same
        refine ⟨_, rfl, r, _, 2, _, rfl, rfl, seq (hR2 _), atI_nat (j := 2) rfl, _, _, rfl, rfl, ⟨by decide, by decide⟩, .inl ⟨_, rfl, _, rfl, _, _, rfl, rfl, (by omega : (0 : Int) < many), ?_⟩⟩
        exact q _ _ _ _ (Int.emod_nonneg _ (by omega)) (Int.emod_lt_of_pos _ (by omega)) (by omega) (Int.emod_nonneg _ (by decide)) (Int.emod_lt_of_pos _ (by decide))
      · -- a cell
        have t2' : ¬ ((((ns.map V.int).length : Nat) : Int) < i + 1) := fun z => t2 (decide_eq_true z)
        rw [List.length_map] at t2'
        obtain ⟨cell, hc⟩ : ∃ cell, ns[i.toNat]? = some cell := ⟨_, List.getElem?_eq_getElem (by omega)⟩
        have hat : atI (ns.map V.int) (i + 1 - 1) = some (.int cell) := at_of (j := i.toNat) (by omega) (int_at hc)
        refine ⟨_, rfl, r, _, 0, _, rfl, rfl, seq hR1, atI_nat (j := 0) rfl, _, rfl, r, _, 1, _, rfl, rfl, seq hR1, atI_nat (j := 1) rfl, _, _, rfl, rfl, a, _, _, _, rfl, rfl, hS1.seq, hat, ?_⟩
        refine ⟨_, rfl, r, _, 2, _, rfl, rfl, seq hR1, atI_nat (j := 2) rfl, _, _, rfl, rfl, .inl ⟨by omega, by omega⟩, _, rfl, _, _, rfl, rfl, _, _, rfl, rfl, .inl ⟨_, rfl, _, _, rfl, rfl, (by decide : (0 : Int) < 2147483647), _, rfl, r, _, 2, 2, rfl, rfl, hR1, rfl, ?_⟩⟩
        rw [upd_upd]
        have hR2 : ∀ z : Int, upd H r (.lst (rowV a (i + 1) z c)) r = some (.lst (rowV a (i + 1) z c)) := fun z => upd_same
        refine ⟨_, rfl, _, _, rfl, rfl, ⟨by decide, by decide, by decide⟩, _, _, rfl, rfl, _, rfl, ite2 (fun t3 => ?_) (fun t3 => ?_)⟩
        · refine ⟨_, rfl, _, rfl, _, _, rfl, rfl, ⟨by omega, by omega⟩, _, rfl, r, _, 3, 3, rfl, rfl, hR2 _, rfl, ?_⟩
          rw [upd_upd]
          refine ⟨_, rfl, .inl ⟨_, rfl, _, rfl, _, _, rfl, rfl, (by omega : (0 : Int) < many), ?_⟩⟩
          exact q _ _ _ _ (Int.emod_nonneg _ (by omega)) (Int.emod_lt_of_pos _ (by omega)) (by omega) (Int.emod_nonneg _ (by decide)) (Int.emod_lt_of_pos _ (by decide))
        · refine ⟨_, rfl, .inl ⟨_, rfl, _, rfl, _, _, rfl, rfl, (by omega : (0 : Int) < many), ?_⟩⟩
          exact q _ _ _ _ (Int.emod_nonneg _ (by omega)) (Int.emod_lt_of_pos _ (by omega)) (by omega) (Int.emod_nonneg _ (by decide)) (Int.emod_lt_of_pos _ (by decide))
end
end G51
namespace G51
open PySem PySem.Spec PyProof.Rows L2
/-! ### the law's rules -/
/-- between two draws: all but the row stands, the row holds some numbers -/
structure Rg (K : PySem.W.Frag) (H H' : Hp) (r a : Addr) (ns : List Int) : Prop where
  keep : ∀ b o, b ≠ r → H b = some o → H' b = some o
  scr : Scr K H' a ns
  row : ∃ i x c : Int, H' r = some (.lst (rowV a i x c)) ∧ 0 ≤ i ∧ 0 ≤ x ∧ x < 2147483647
theorem Rg.take {K : PySem.W.Frag} {H H' : Hp} {r a : Addr} {ns : List Int} {many : Int} {Q : VK} {E : XK} (g : Rg K H H' r a ns) (h1 : 1 ≤ many) (h2 : many ≤ 1000)
    (k : ∀ (v : Int) (H2 : Hp), 0 ≤ v → v < many → Rg K H H2 r a ns → (∀ b, b ≠ r → H2 b = H' b) → Q (.int v) H2) : spTaken K [.ref r, .int many] H' Q E := by
  obtain ⟨i, x, c, e, hi, hx0, hx1⟩ := g.row
  refine ⟨r, a, ns, i, x, c, many, rfl, g.scr, e, hi, hx0, hx1, h1, h2, fun v i' x' c' v0 v1 hi' hx0' hx1' => k v _ v0 v1 ⟨fun b o nb eb => ?_, g.scr.lst e, i', x', c', upd_same, hi', hx0', hx1'⟩ fun b nb => upd_ne nb⟩
  rw [upd_ne nb]
  exact g.keep b o nb eb
theorem Rg.new {K : PySem.W.Frag} {H H' : Hp} {r a p : Addr} {ns : List Int} {o : HO} (g : Rg K H H' r a ns) (n : H' p = none) : Rg K H (upd H' p o) r a ns := by
  obtain ⟨i, x, c, e, rest⟩ := g.row
  refine ⟨fun b ob nb eb => ?_, g.scr.new n, i, x, c, ?_, rest⟩
  · rw [upd_ne (ne_of_none (g.keep b ob nb eb) n)]
    exact g.keep b ob nb eb
  · rw [upd_ne (ne_of_none e n)]
    exact e
/-- a draw, as its callers see it -/
def spTake (K : PySem.W.Frag) : Sp := fun vs H Q _ => ∃ (r a : Addr) (ns : List Int) (many : Int) (H0 : Hp), vs = [.ref r, .int many] ∧ Rg K H0 H r a ns ∧ 1 ≤ many ∧ many ≤ 1000 ∧
  ∀ (v : Int) (H2 : Hp), 0 ≤ v → v < many → Rg K H0 H2 r a ns → (∀ b, b ≠ r → H2 b = H b) → Q (.int v) H2
theorem take_taken {K : PySem.W.Frag} (vs : List V) (H : Hp) (Q : VK) (E : XK) (h : spTake K vs H Q E) : spTaken K vs H Q E := by
  obtain ⟨r, a, ns, many, H0, rfl, g, h1, h2, k⟩ := h
  exact g.take h1 h2 k
/-- the rules so far, in the list at pF -/
structure Fd (H' : Hp) (r pF : Addr) (n : Nat) (rs : List Rule) : Prop where
  ne : pF ≠ r
  ex : ∃ qs : List Addr, H' pF = some (.lst (qs.map V.ref)) ∧ qs.length = rs.length ∧ ∀ (i : Nat) (q : Addr) (x : Rule), qs[i]? = some q → rs[i]? = some x → H' q = some (.tup (ruleV x))
  ok : RsOk n rs
theorem Fd.keep {H' H2 : Hp} {r pF : Addr} {n : Nat} {rs : List Rule} {ys : List V} (d : Fd H' r pF n rs) (e : H' r = some (.lst ys)) (k : ∀ b, b ≠ r → H2 b = H' b) : Fd H2 r pF n rs := by
  obtain ⟨qs, e1, l, f⟩ := d.ex
  refine ⟨d.ne, ⟨qs, by rw [k _ d.ne]; exact e1, l, fun i q x a b => ?_⟩, d.ok⟩
  have := f i q x a b
  rw [k q (ne_of this e (by intro z; cases z))]
  exact this
def spRules (K : PySem.W.Frag) : Sp := fun vs H Q _ => ∃ (r a : Addr) (ns : List Int), vs = [.ref r, .int 8] ∧ Rg K H H r a ns ∧
  ∀ (H' : Hp) (t p : Addr) (n : Nat) (rs : List Rule), Rg K H H' r a ns → H' t = some (.tup [.int (n : Nat), .ref p]) → RulesAt H' p rs → 1 ≤ n → n ≤ 8 → rs.length ≤ 12 → RsOk n rs → Q (.ref t) H'
/-- found.append((one, other, gap if one != other else 0 - gap)) -/
def tApp (K : PySem.W.Frag) : TS := tDrop (tBM K "list" rAppend (tVar 3) (tCons (tTup (tCons (tVar 5) (tCons (tVar 6) (tCons (tIf (tTest (tOp rNe (tVar 5) (tVar 6))) (tVar 7) (tOp (rI0 fun i j => .int (i - j)) (tC (.int 0)) (tVar 7))) tNil)))) tNil))
theorem app_ok {K : PySem.W.Frag} {H H' : Hp} {r a pF : Addr} {ns : List Int} {n : Nat} {rs : List Rule} {D : Ends} {y0 y1 y2 y4 : Option V} {one other gap : Int} (g : Rg K H H' r a ns) (d : Fd H' r pF n rs) (nH : H pF = none) (few : rs.length ≤ 900)
    (h1 : 0 ≤ one) (h2 : one < n) (h3 : 0 ≤ other) (h4 : other < n) (h5 : -100 ≤ gap) (h6 : gap ≤ 100)
    (k : ∀ H2 x, Rg K H H2 r a ns → Fd H2 r pF n (rs ++ [x]) → D.nx [y0, y1, y2, some (.ref pF), y4, some (.int one), some (.int other), some (.int gap)] H2) :
    tApp K D [y0, y1, y2, some (.ref pF), y4, some (.int one), some (.int other), some (.int gap)] H' := by
  obtain ⟨qs, e1, l, f⟩ := d.ex
  have fin : ∀ gp : Int, -100 ≤ gp → gp ≤ 100 → ∀ T, H' T = none → rAppend (.ref pF) [.ref T] (upd H' T (.tup [.int one, .int other, .int gp])) fun _ H1 => D.nx [y0, y1, y2, some (.ref pF), y4, some (.int one), some (.int other), some (.int gap)] H1 := fun gp g1 g2 T nT => by
    have nTF : pF ≠ T := ne_of_none e1 nT
    have e2 : upd H' T (.tup [.int one, .int other, .int gp]) pF = some (.lst (qs.map V.ref)) := by
      rw [upd_ne nTF]
      exact e1
    refine ⟨pF, _, _, rfl, rfl, e2, ?_, k _ (one, other, gp) ?_ ?_⟩
    · rw [List.length_map]
      exact small1000 (by omega)
    · have gn := g.new (o := .tup [.int one, .int other, .int gp]) nT
      obtain ⟨i, x, c, er, rest⟩ := gn.row
      refine ⟨fun b ob nb eb => ?_, gn.scr.lst e2, i, x, c, ?_, rest⟩
      · rw [upd_ne (ne_of_none eb nH)]
        exact gn.keep b ob nb eb
      · rw [upd_ne d.ne.symm]
        exact er
    · refine ⟨d.ne, ⟨qs ++ [T], ?_, ?_, fun i q x hq hx => ?_⟩, fun x hx => ?_⟩
      · rw [upd_same, List.map_append]
        rfl
      · rw [List.length_append, List.length_append, l]
        rfl
      · have hil := (List.getElem?_eq_some_iff.mp hq).1
        rw [List.length_append, List.length_singleton] at hil
        by_cases hi : i < qs.length
        · rw [List.getElem?_append_left hi] at hq
          rw [List.getElem?_append_left (by omega)] at hx
          have hqx := f i q x hq hx
          rw [upd_ne (ne_of hqx e1 (by intro z; cases z)), upd_ne (ne_of_none hqx nT)]
          exact hqx
        · have ei : i = qs.length := by omega
          subst ei
          rw [List.getElem?_append_right (Nat.le_refl _), Nat.sub_self] at hq
          rw [l, List.getElem?_append_right (Nat.le_refl _), Nat.sub_self] at hx
          have eq : T = q := Option.some.inj hq
          have ex : (one, other, gp) = x := Option.some.inj hx
          subst eq ex
          rw [upd_ne nTF.symm, upd_same]
          rfl
      · rcases List.mem_append.mp hx with z | z
        · exact d.ok x z
        · have e : x = (one, other, gp) := by simpa using z
          subst e
          exact ⟨h1, h2, h3, h4, g1, g2⟩
  refine ⟨_, rfl, .inl ⟨rfl, _, SqL.of e1⟩, _, rfl, _, rfl, _, rfl, _, rfl, rfl, _, rfl, ite2 (fun c => ?_) (fun c => ?_)⟩
  · exact ⟨_, rfl, by show 3 ≤ sizeLine; decide, fun T nT => fin gap h5 h6 T nT⟩
  · exact ⟨_, rfl, _, _, rfl, rfl, by show 3 ≤ sizeLine; decide, fun T nT => fin (0 - gap) (by omega) (by omega) T nT⟩
section
variable {P : Program} {w : World} {K : PySem.W.Frag} {mg : Str → Option Value} {base : Heap}
theorem ok_rules {f fT : Addr} {fd fdT : FuncData} (F : Fun K "_law_rules" "_law_rules" sRules f fd) (Tk : Dn P w K mg base "_law_taken" ["_law_row", "_law_many"] (spTake K) 1 fT fdT) (mR : mg "range" = none) (mT : mg "tuple" = none) :
    FnOk P w K mg base CX0 2 f fd ["_law_row", "_law_most"] (spRules K) := by
  refine F.ok scRules (fun vs H Q E h => ?_) (fun cdv A outer s H vs Q E hr h => ?_)
  · obtain ⟨_, _, _, rfl, _⟩ := h
    rfl
  · obtain ⟨r, a, ns, rfl, g0, q⟩ := h
    refine ⟨_, pss_cons (ps_par (i := 2) (j := 3) (by rfl) scRules.nd rfl rfl (by decide) rfl rfl (pa_cons (pe_op op_add pe_int (pe_call Tk.o hr (by rfl) Tk.g Tk.kp Tk.b .nil pass0 (pa_cons (pv 0) (pa_cons (pv 1) pa_nil)))) (pa_cons (pe_lst pa_nil) pa_nil)) (by rfl))
      (pss_cons (ps_for PassesOwn.never rfl (pi_range1 (by rfl) mR (pa_cons (pe_call Tk.o hr (by rfl) Tk.g Tk.kp Tk.b .nil pass0 (pa_cons (pv 0) (pa_cons pe_int pa_nil))) pa_nil)) (pg_name (i := 4) scRules.nd rfl (.inl rfl))
        (pss_cons (ps_par (i := 5) (j := 6) (by rfl) scRules.nd rfl rfl (by decide) rfl rfl (pa_cons (pe_call Tk.o hr (by rfl) Tk.g Tk.kp Tk.b .nil pass0 (pa_cons (pv 0) (pa_cons (pv 2) pa_nil))) (pa_cons (pe_call Tk.o hr (by rfl) Tk.g Tk.kp Tk.b .nil pass0 (pa_cons (pv 0) (pa_cons (pv 2) pa_nil))) pa_nil)) (by rfl))
        (pss_cons (ps_set (i := 7) scRules.nd rfl (.inl rfl) (pe_op op_add pe_int (pe_call Tk.o hr (by rfl) Tk.g Tk.kp Tk.b .nil pass0 (pa_cons (pv 0) (pa_cons pe_int pa_nil)))))
        (C8.pss_cut (ps_if (PW.pt (pw_and (pt_cmpR op_gt (pv 5) (pv 6) (nomark _)) (pw_and1 (pt_cmpR op_gt (pe_call Tk.o hr (by rfl) Tk.g Tk.kp Tk.b .nil pass0 (pa_cons (pv 0) (pa_cons pe_int pa_nil))) pe_int (nomark _)))))
            (pss_one (ps_set (i := 7) scRules.nd rfl (.inl rfl) (pe_op op_sub pe_int (pv 7)))) pss_nil)
        (pss_one (ps_if (PW.pt (pw_or (pt_cmpR op_lt (pv 5) (pv 6) (nomark _)) (pw_or1 (pt_cmpR op_eq (pe_call Tk.o hr (by rfl) Tk.g Tk.kp Tk.b .nil pass0 (pa_cons (pv 0) (pa_cons pe_int pa_nil))) pe_int (nomark _)))))
            (pss_one (ps_expr (pe_bm PySem.F.plainAttrs_list PySem.F.slot_list_append PySem.F.type_list_append mt_append (pv 3) (pa_cons (pe_tup (pa_cons (pv 5) (pa_cons (pv 6) (pa_cons (pe_ifExp (pt_cmpR op_ne (pv 5) (pv 6) (nomark _)) (pv 7) (pe_op op_sub pe_int (pv 7))) pa_nil)))) pa_nil))))
            pss_nil))))))
      (pss_one (ps_ret (pe_tup (pa_cons (pv 2) (pa_cons (pe_callTy call_tuple_of (by rfl) mT boot_tuple (pa_cons (pv 3) pa_nil)) pa_nil)))))), ?_⟩
    refine ⟨_, rfl, _, rfl, r, a, ns, 8, H, rfl, g0, by decide, by decide, fun v0 H1 v00 v01 g1 e1 => ?_⟩
    refine ⟨_, _, rfl, rfl, Nat.zero_le _, fun pF nF => ⟨_, _, rfl, ?_⟩⟩
    obtain ⟨n, hn⟩ : ∃ n : Nat, 1 + v0 = (n : Int) := ⟨(1 + v0).toNat, by omega⟩
    have neF : pF ≠ r := fun e => by
      obtain ⟨_, _, _, er, _⟩ := g1.row
      rw [← e, nF] at er
      cases er
    have nH : H pF = none := by
      cases z : H pF with
      | none => rfl
      | some o =>
        rw [g1.keep _ _ neF z] at nF
        cases nF
    have g2 := g1.new (o := .lst []) nF
    have d2 : Fd (upd H1 pF (.lst [])) r pF n [] := ⟨neF, ⟨[], upd_same, rfl, fun i q x h => by simp at h⟩, fun x hx => by cases hx⟩
    -- for turn in range(taken(row, 12))
    refine ⟨_, rfl, r, a, ns, 12, H, rfl, g2, by decide, by decide, fun v1 H2 v10 v11 g3 e3 => ⟨v1, rfl, by omega, by omega, ?_⟩⟩
    refine for_range (lo := 0) (n := v1.toNat) (fun i σ H' => ∃ (rs : List Rule) (y4 y5 y6 y7 : Option V), σ = [some (.ref r), some (.int 8), some (.int (n : Nat)), some (.ref pF), y4, y5, y6, y7] ∧ Rg K H H' r a ns ∧ Fd H' r pF n rs ∧ rs.length ≤ i)
      ⟨[], none, none, none, none, by rw [← hn]; rfl, g3, ?_, Nat.le_refl _⟩ (fun i σ H' hi hP => ?_) (fun σ H' hP => ?_)
    · obtain ⟨_, _, _, er, _⟩ := g2.row
      exact d2.keep er e3
    · obtain ⟨rs, y4, y5, y6, y7, rfl, g, d, lr⟩ := hP
      -- one, other
      refine ⟨_, rfl, _, rfl, r, a, ns, (n : Int), H, rfl, g, by omega, by omega, fun one Ha a0 a1 ga ea => ?_⟩
      have da : Fd Ha r pF n rs := by
        obtain ⟨_, _, _, er, _⟩ := g.row
        exact d.keep er ea
      refine ⟨_, rfl, _, rfl, r, a, ns, (n : Int), H, rfl, ga, by omega, by omega, fun other Hb b0 b1 gb eb => ⟨_, _, rfl, ?_⟩⟩
      have db : Fd Hb r pF n rs := by
        obtain ⟨_, _, _, er, _⟩ := ga.row
        exact da.keep er eb
      -- gap
      refine ⟨_, rfl, r, a, ns, 20, H, rfl, gb, by decide, by decide, fun gp Hc c0 c1 gc ec => ⟨_, _, rfl, rfl, ?_⟩⟩
      have dc : Fd Hc r pF n rs := by
        obtain ⟨_, _, _, er, _⟩ := gb.row
        exact db.keep er ec
      refine ⟨fun σ' H4 => ∃ gap : Int, -100 ≤ gap ∧ gap ≤ 100 ∧ σ' = [some (.ref r), some (.int 8), some (.int (n : Nat)), some (.ref pF), some (.int (0 + i)), some (.int one), some (.int other), some (.int gap)] ∧ Rg K H H4 r a ns ∧ Fd H4 r pF n rs, ?_, fun σ' H4 hM => ?_⟩
      · refine ⟨_, rfl, _, rfl, _, _, rfl, rfl, _, rfl, ite2 (fun c => ?_) (fun c => iteF ?_)⟩
        · refine ⟨_, rfl, r, a, ns, 4, H, rfl, gc, by decide, by decide, fun u Hd d0 d1 gd ed => ?_⟩
          have dd : Fd Hd r pF n rs := by
            obtain ⟨_, _, _, er, _⟩ := gc.row
            exact dc.keep er ed
          refine ⟨_, _, rfl, rfl, _, rfl, ite2 (fun c2 => ?_) (fun c2 => ?_)⟩
          · exact ⟨_, rfl, _, _, rfl, rfl, 0 - (1 + gp), by omega, by omega, rfl, gd, dd⟩
          · exact ⟨1 + gp, by omega, by omega, rfl, gd, dd⟩
        · exact ⟨1 + gp, by omega, by omega, rfl, gc, dc⟩
      · obtain ⟨gap, p0, p1, rfl, g4, d4⟩ := hM
        have app : ∀ H5, Rg K H H5 r a ns → Fd H5 r pF n rs → tApp K { nx := fun σ H' => ∃ (rs : List Rule) (y4 y5 y6 y7 : Option V), σ = [some (.ref r), some (.int 8), some (.int (n : Nat)), some (.ref pF), y4, y5, y6, y7] ∧ Rg K H H' r a ns ∧ Fd H' r pF n rs ∧ rs.length ≤ i + 1, rt := Q }
            [some (.ref r), some (.int 8), some (.int (n : Nat)), some (.ref pF), some (.int (0 + i)), some (.int one), some (.int other), some (.int gap)] H5 := fun H5 g5 d5 =>
          app_ok g5 d5 nH (by omega) a0 a1 b0 b1 p0 p1 fun H6 x g6 d6 => ⟨_, _, _, _, _, rfl, g6, d6, by rw [List.length_append, List.length_singleton]; omega⟩
        refine ⟨_, rfl, _, rfl, _, _, rfl, rfl, _, rfl, ite2 (fun c => iteT ?_) (fun c => ?_)⟩
        · exact app H4 g4 d4
        · refine ⟨_, rfl, r, a, ns, 2, H, rfl, g4, by decide, by decide, fun u He e0 e1 ge ee => ?_⟩
          have de : Fd He r pF n rs := by
            obtain ⟨_, _, _, er, _⟩ := g4.row
            exact d4.keep er ee
          refine ⟨rfl, _, rfl, ite2 (fun c2 => ?_) (fun c2 => ?_)⟩
          · exact app He ge de
          · exact ⟨rs, _, _, _, _, rfl, ge, de, by omega⟩
    · obtain ⟨rs, y4, y5, y6, y7, rfl, g, d, lr⟩ := hP
      obtain ⟨qs, e1, l, f⟩ := d.ex
      refine ⟨_, rfl, _, rfl, pF, _, rfl, .inl ⟨SqL.of e1, fun p np => ?_⟩⟩
      have g6 := g.new (o := .tup (qs.map V.ref)) np
      refine ⟨by show 2 ≤ sizeLine; decide, fun t nt => ?_⟩
      have k : Tups H' (upd (upd H' p (.tup (qs.map V.ref))) t (.tup [.int (n : Nat), .ref p])) := (Tups.new np).trans (Tups.new nt)
      refine q _ t p n rs (g6.new nt) upd_same ⟨qs, ?_, l, fun i q x hq hx => k _ _ (f i q x hq hx)⟩ (by omega) (by omega) (by omega) d.ok
      exact Tups.new nt _ _ upd_same
end
end G51
namespace G51
open PySem PySem.Spec PyProof.Rows L2
/-! ### the law -/
theorem Rg.self {K : PySem.W.Frag} {H H' : Hp} {r a : Addr} {ns : List Int} (g : Rg K H H' r a ns) : Rg K H' H' r a ns := ⟨fun _ _ _ e => e, g.scr, g.row⟩
theorem Rg.same {K : PySem.W.Frag} {H H' H2 : Hp} {r a : Addr} {ns : List Int} (g : Rg K H H' r a ns) (s : Same H' H2) : Rg K H2 H2 r a ns := by
  obtain ⟨i, x, c, e, rest⟩ := g.row
  exact ⟨fun _ _ _ e => e, g.scr.keep fun o eo => s _ _ eo, i, x, c, s _ _ e, rest⟩
theorem dpAll_rules {K : PySem.W.Frag} {H : Hp} : ∀ {qs : List Addr} {rs : List Rule}, qs.length = rs.length → (∀ (i : Nat) (q : Addr) (r : Rule), qs[i]? = some q → rs[i]? = some r → H q = some (.tup (ruleV r))) → DpAll K H (qs.map V.ref) (rs.map dR)
  | [], [], _, _ => .nil
  | q :: qs, r :: rs, hl, h => by
    refine .cons (dp_tup (ns := [r.1, r.2.1, r.2.2]) (SqT.of (h 0 q r rfl rfl))) (dpAll_rules (Nat.succ.inj hl) fun i q' r' a b => h (i + 1) q' r' a b)
  | [], _ :: _, hl, _ => by cases hl
  | _ :: _, [], hl, _ => by cases hl
def spLaw (K : PySem.W.Frag) : Sp := fun vs H Q _ => ∃ (a : Addr) (ns : List Int), vs = [.ref a] ∧ Scr K H a ns ∧ ∀ H', Q (.bl true) H'
/-- the test of the comprehension: rule[:2] == (one, other) and low[one] + rule[2] == low[other] -/
def tRule (K : PySem.W.Frag) : TT := tAnd (tTest (tOp (rEqD K) (tSl (rSlT K) (tVar 10) tNoPart (tPart (tC (.int 2)))) (tTup (tCons (tVar 8) (tCons (tVar 9) tNil)))))
  (tTest (tOp rEq (tOp (rI0 fun i j => .int (i + j)) (tOp (rIxL K) (tVar 5) (tVar 8)) (tOp (rIxT K) (tVar 10) (tC (.int 2)))) (tOp (rIxL K) (tVar 5) (tVar 9))))
section
variable {P : Program} {w : World} {K : PySem.W.Frag} {mg : Str → Option Value} {base : Heap}
theorem ok_law {f fR fS fT fL : Addr} {fd fdR fdS fdT fdL : FuncData} (F : Fun K "law" "law" sLaw f fd) (Ru : Dn P w K mg base "_law_rules" ["_law_row", "_law_most"] (spRules K) 2 fR fdR)
    (Ls : Dn P w K mg base "_law_least_places" ["_law_many", "_law_rules_here"] spLeast 1 fS fdS) (Ti : Dn P w K mg base "tight_row" ["many", "rules"] spTight 5 fT fdT) (Lf : Dn P w K mg base "leftmost" ["many", "rules"] spLeft 4 fL fdL)
    (mR : mg "range" = none) (mi : mg "isinstance" = none) (mT : mg "tuple" = none) (mM : mg "max" = none) (ml : mg "len" = none) (mS : mg "set" = none) : FnOk P w K mg base CX0 6 f fd ["_law_script"] (spLaw K) := by
  refine F.ok scLaw (fun vs H Q E h => ?_) (fun cdv A outer s H vs Q E hr h => ?_)
  · obtain ⟨_, _, rfl, _⟩ := h
    rfl
  · obtain ⟨a, ns, rfl, hS, q⟩ := h
    refine ⟨_, pss_cons (ps_set (i := 1) scLaw.nd rfl (.inl rfl) (pe_lst (pa_cons (pv 0) (pa_cons pe_int (pa_cons pe_int (pa_cons pe_int pa_nil))))))
      (pss_cons (ps_for PassesOwn.never rfl (pi_range1 (by rfl) mR (pa_cons pe_int pa_nil)) (pg_name (i := 2) scLaw.nd rfl (.inl rfl))
        (pss_cons (ps_asg (pe_call Ru.o (hr.mono (by decide)) (by rfl) Ru.g Ru.kp Ru.b .nil pass0 (pa_cons (pv 1) (pa_cons pe_int pa_nil))) (pg_tup rfl (pgs_cons (pg_name (i := 3) scLaw.nd rfl (.inl rfl)) (pgs_cons (pg_name (i := 4) scLaw.nd rfl (.inl rfl)) pgs_nil))))
        (pss_cons (ps_set (i := 5) scLaw.nd rfl (.inr rfl) (pe_call Ls.o (hr.mono (by decide)) (by rfl) Ls.g Ls.kp Ls.b .nil pass0 (pa_cons (pv 3) (pa_cons (pv 4) pa_nil))))
        (pss_one (ps_if (pt_cmpR op_notN (pv 5) pe_non (nomark _))
          (pss_cons (ps_set (i := 6) scLaw.nd rfl (.inl rfl) (pe_call Ti.o hr (by rfl) Ti.g Ti.kp Ti.b .nil pass0 (pa_cons (pv 3) (pa_cons (pv 4) pa_nil))))
          (pss_cons (ps_if (PW.pt (pw_or (pt_not (pt_val (pe_callB call_isi (by rfl) mi (by decide +kernel) (pa_cons (pv 6) (pa_cons (pe_bltn (v := .ty "tuple") (by rfl) mT (by decide +kernel) rfl) pa_nil)))))
              (pw_or (pt_cmpR op_ne (pe_ix ix_list (pv 5) (pe_ix ix_tup (pv 6) pe_int (fun _ _ => rfl)) (fun _ _ => rfl)) pe_int (nomark _))
              (pw_or (pt_cmpR op_ne (pe_ix ix_list (pv 5) (pe_ix ix_tup (pv 6) (pe_un un_neg pe_int) (fun _ _ => rfl)) (fun _ _ => rfl)) (pe_callB (cr_max rfl) (by rfl) mM (by decide +kernel) (pa_cons (pv 5) pa_nil)) (nomark _))
              (pw_or1 (pt_cmpR op_ne (pe_lenSetT rfl (by rfl) ml (by rfl) mS (pv 6)) (pe_callB call_len_seq (by rfl) ml PySem.boot_len (pa_cons (pv 6) pa_nil)) (nomark _)))))))
            (pss_one ps_never) pss_nil)
          (pss_cons (ps_for PassesOwn.never rfl (pi_range2 (by rfl) mR (pa_cons pe_int (pa_cons (pe_callB call_len_seq (by rfl) ml PySem.boot_len (pa_cons (pv 6) pa_nil)) pa_nil))) (pg_name (i := 7) scLaw.nd rfl (.inl rfl))
            (pss_cons (ps_asg (pe_tup (pa_cons (pe_ix ix_tup (pv 6) (pe_op op_sub (pv 7) pe_int) (fun _ _ => rfl)) (pa_cons (pe_ix ix_tup (pv 6) (pv 7) (fun _ _ => rfl)) pa_nil))) (pg_tup rfl (pgs_cons (pg_name (i := 8) scLaw.nd rfl (.inr rfl)) (pgs_cons (pg_name (i := 9) scLaw.nd rfl (.inr rfl)) pgs_nil))))
            (pss_one (ps_if (pt_cmpR (op_eqD hr.units)
                (pe_lc (own := [("_law_rule", 10)]) (g := gName 10) (tt := tRule K) rfl scLaw.nd (pi_tup (pv 4))
                  (blkOk_by (N := ["_law_script", "_law_row", "_law_turn", "_law_many", "_law_rules_here", "_law_low", "_law_found", "_law_at", "_law_one", "_law_other", "_law_rule"]) (sc := defScope sLaw) (by decide +kernel)) (fun _ _ _ _ _ => pg_name (i := 10) scLaw.nd rfl (.inl rfl))
                  (fun _ _ _ _ _ => pts_one (PW.pt (pw_and (pt_cmpR (op_eqD hr.units) (pe_slice sl_tup (pv 10) po_none (po_some pe_int)) (pe_tup (pa_cons (pv 8) (pa_cons (pv 9) pa_nil))) (nomark _))
                    (pw_and1 (pt_cmpR op_eq (pe_op op_add (pe_ix ix_list (pv 5) (pv 8) (fun _ _ => rfl)) (pe_ix ix_tup (pv 10) pe_int (fun _ _ => rfl))) (pe_ix ix_list (pv 5) (pv 9) (fun _ _ => rfl)) (nomark _))))))
                  (fun _ _ _ _ _ => pv 10)) (pe_lst pa_nil) (nomark _)) (pss_one ps_never) pss_nil))))
          (pss_one (ps_if (pt_cmpR (op_neD hr.units) (pe_call Lf.o (hr.mono (by decide)) (by rfl) Lf.g Lf.kp Lf.b .nil pass0 (pa_cons (pv 3) (pa_cons (pv 4) pa_nil))) (pe_callTy call_tuple_of (by rfl) mT boot_tuple (pa_cons (pv 5) pa_nil)) (nomark _)) (pss_one ps_never) pss_nil)))))
          pss_nil)))))
      (pss_one (ps_ret pe_bl))), ?_⟩
    -- row = [script, 0, 3851, 0]
    refine ⟨_, rfl, by show 4 ≤ sizeLine; decide, fun r nr => ?_⟩
    refine ⟨4, rfl, by decide, by decide, ?_⟩
    refine for_range (lo := 0) (n := 4) (fun i σ H' => ∃ y2 y3 y4 y5 y6 y7 y8 y9 y10 : Option V, σ = [some (.ref a), some (.ref r), y2, y3, y4, y5, y6, y7, y8, y9, y10] ∧ Rg K H' H' r a ns)
      ⟨none, none, none, none, none, none, none, none, none, rfl, fun _ _ _ e => e, hS.new nr, 0, 3851, 0, upd_same, by decide, by decide, by decide⟩ (fun i σ H0 hi hP => ?_) (fun σ H' hP => ?_)
    · obtain ⟨y2, y3, y4, y5, y6, y7, y8, y9, y10, rfl, g0⟩ := hP
      -- many, rules = _law_rules(row, 8)
      refine ⟨_, rfl, r, a, ns, rfl, g0, fun H1 t p n rs g1 ht hat n1 n8 l12 ok => ?_⟩
      refine ⟨t, _, rfl, .inl (.inl ht), rfl, _, _, rfl, _, _, rfl, rfl, ?_⟩
      -- low = _law_least_places(many, rules)
      refine ⟨_, rfl, _, rfl, n, rs, p, ⟨rfl, n1, by omega, hat, by omega, ok⟩, fun H2 s2 => ?_, fun L H2 pL low s2 nL eL => ?_⟩
      · -- None
        exact ⟨_, rfl, rfl, _, rfl, iteF ⟨_, _, _, _, _, _, _, _, _, rfl, g1.same s2⟩⟩
      · have ll := low.len
        refine ⟨_, rfl, rfl, _, rfl, iteT ?_⟩
        -- found = tight_row(many, rules)
        refine ⟨_, rfl, _, rfl, n, rs, p, L, ⟨rfl, n1, by omega, hat.keep (Tups.of s2), by omega, ok⟩, low, fun H3 pO out s3 nO eO gd => ?_⟩
        have eL3 : H3 pL = some (.lst (L.map V.int)) := s3 _ _ eL
        have hat3 : RulesAt H3 p rs := hat.keep (Tups.of (s2.trans s3))
        have gl := gd.pos
        have gf := gd.few
        obtain ⟨x0, hx0⟩ : ∃ x, out[0]? = some x := ⟨_, List.getElem?_eq_getElem gl⟩
        obtain ⟨xl, hxl⟩ : ∃ x, out[out.length - 1]? = some x := ⟨_, List.getElem?_eq_getElem (by omega)⟩
        obtain ⟨r00, r01⟩ := gd.rng x0 (List.mem_of_getElem? hx0)
        obtain ⟨rl0, rl1⟩ := gd.rng xl (List.mem_of_getElem? hxl)
        have hxl' : (out.map V.int)[(out.map V.int).length - 1]? = some (.int xl) := by
          rw [List.length_map]
          exact int_at hxl
        refine ⟨_, rfl, .ref pO, .ty "tuple", .type "tuple", .type "tuple", true, rfl, .ty _, .base (.tup eO), kit_ty (by decide +kernel), true, rfl, iteF ?_⟩
        refine ⟨_, rfl, _, rfl, pO, _, 0, _, rfl, rfl, SqT.of eO, atI_nat (j := 0) (int_at hx0), pL, _, x0, _, rfl, rfl, SqL.of eL3, at_pl r00 (by omega), rfl, _, rfl, iteNS (congrArg V.int (gd.head x0 hx0)) ?_⟩
        refine ⟨_, rfl, _, rfl, 1, rfl, pO, _, -1, _, rfl, rfl, SqT.of eO, at_end hxl', pL, _, xl, _, rfl, rfl, SqL.of eL3, at_pl rl0 (by omega), _, rfl, pL, L, rfl, SqL.of eL3, by omega, fun m hm hle => ⟨rfl, _, rfl, ?_⟩⟩
        refine iteNS (congrArg V.int (Int.le_antisymm (hle _ (pl_mem rl0 (by omega))) (gd.last xl hxl m hm))) ?_
        refine ⟨_, rfl, pO, out, rfl, SqT.of eO, gd.nd, by omega, _, rfl, pO, _, rfl, .inr (SqT.of eO), rfl, _, rfl, iteNS (by rw [List.length_map]) ?_⟩
        -- for at in range(1, len(found))
        refine ⟨_, rfl, pO, _, rfl, .inr (SqT.of eO), 1, _, rfl, ⟨by decide, by decide, by rw [List.length_map]; omega, by rw [List.length_map]; omega⟩, ?_⟩
        refine for_range (lo := 1) (n := ((((out.map V.int).length : Nat) : Int) - 1).toNat)
          (fun k σ H' => ∃ y7 y8 y9 y10 : Option V, σ = [some (.ref a), some (.ref r), some (.int (0 + i)), some (.int (n : Nat)), some (.ref p), some (.ref pL), some (.ref pO), y7, y8, y9, y10] ∧ Same H3 H')
          ⟨y7, y8, y9, y10, rfl, Same.refl H3⟩ (fun k σ H4 hk hP => ?_) (fun σ H4 hP => ?_)
        · obtain ⟨y7, y8, y9, y10, rfl, s4⟩ := hP
          rw [List.length_map] at hk
          have k1 : k + 1 < out.length := by omega
          obtain ⟨one, hone⟩ : ∃ x, out[k]? = some x := ⟨_, List.getElem?_eq_getElem (by omega)⟩
          obtain ⟨other, hother⟩ : ∃ x, out[k + 1]? = some x := ⟨_, List.getElem?_eq_getElem k1⟩
          obtain ⟨w00, w01⟩ := gd.rng one (List.mem_of_getElem? hone)
          obtain ⟨w10, w11⟩ := gd.rng other (List.mem_of_getElem? hother)
          obtain ⟨gp, hrule, htight⟩ := gd.adj k one other hone hother
          have eO4 := s4 _ _ eO
          -- one, other = found[at - 1], found[at]
          refine ⟨_, rfl, _, rfl, _, _, rfl, rfl, pO, _, _, _, rfl, rfl, SqT.of eO4, at_of (j := k) (by omega) (int_at hone), _, rfl, _, rfl, pO, _, _, _, rfl, rfl, SqT.of eO4, at_of (j := k + 1) (by omega) (int_at hother), by show 2 ≤ sizeLine; decide, fun T nT => ?_⟩
          refine ⟨T, _, rfl, .inl (.inl upd_same), rfl, _, _, rfl, _, _, rfl, rfl, ?_⟩
          have s5 : Same H3 (upd H4 T (.tup [.int one, .int other])) := s4.trans (same_new nT)
          generalize hH5 : upd H4 T (.tup [.int one, .int other]) = H5 at *
          obtain ⟨qs, hp, lq, hq⟩ := hat3
          -- the comprehension
          refine ⟨_, rfl, p, rfl, ⟨_, SqT.of (s5 _ _ hp)⟩, fun D nD => ?_⟩
          have nD3 : H3 D = none := s5.free nD
          refine lc_tup (K := K) (a := p) (xs := qs.map V.ref) (fun j H' => Same H3 H' ∧ ∃ (acc : List Addr) (ras : List Rule), H' D = some (.lst (acc.map V.ref)) ∧ acc.length = ras.length ∧
              (∀ (i : Nat) (q : Addr) (x : Rule), acc[i]? = some q → ras[i]? = some x → H' q = some (.tup (ruleV x))) ∧ acc.length ≤ j ∧ ((one, other, gp) ∈ rs.take j → acc ≠ []))
            ⟨s5.trans (same_new nD), [], [], upd_same, rfl, fun i q x h => by simp at h, Nat.le_refl _, fun h => by simp at h⟩ (fun j H' _ hI => SqT.of (hI.1 _ _ hp)) (fun j x H' hx hI => ?_) (fun H' hI => ?_)
          · obtain ⟨s6, acc, ras, eD, la, fa, lj, hin⟩ := hI
            obtain ⟨b, ru, rfl, hb, hrm⟩ := qs_get lq hx
            have hjl := (List.getElem?_eq_some_iff.mp hrm).1
            have hT : H' b = some (.tup (ruleV ru)) := s6 _ _ (hq j b ru hb hrm)
            have eL6 := s6 _ _ eL3
            obtain ⟨o1, o2, o3, o4, o5, o6⟩ := ok ru (List.mem_of_getElem? hrm)
            refine ⟨rfl, ?_⟩
            -- rule[:2] == (one, other)
            refine ⟨_, rfl, 2, rfl, b, ruleV ru, rfl, SqT.of hT, (show ¬ (HT.sIx 3 0 none = 0 ∧ HT.sIx 3 3 (some 2) = 3) by decide), fun c nc => ?_⟩
            have ec : upd H' c (.tup (cutV (ruleV ru) none (some 2))) c = some (.tup ([ru.1, ru.2.1].map V.int)) := upd_same
            refine ⟨_, rfl, _, rfl, by show 2 ≤ sizeLine; decide, fun T2 nT2 => ?_⟩
            have ec2 : upd (upd H' c (.tup (cutV (ruleV ru) none (some 2)))) T2 (.tup [.int one, .int other]) c = some (.tup ([ru.1, ru.2.1].map V.int)) := by
              rw [upd_ne (ne_of_none ec nT2)]
              exact ec
            have eT2 : upd (upd H' c (.tup (cutV (ruleV ru) none (some 2)))) T2 (.tup [.int one, .int other]) T2 = some (.tup ([one, other].map V.int)) := upd_same
            have s7 : Same H' (upd (upd H' c (.tup (cutV (ruleV ru) none (some 2)))) T2 (.tup [.int one, .int other])) := (same_new nc).trans (same_new nT2)
            generalize hH7 : upd (upd H' c (.tup (cutV (ruleV ru) none (some 2)))) T2 (.tup [.int one, .int other]) = H7 at *
            have eD7 := s7 _ _ eD
            have not_it : (one, other, gp) ≠ ru → Same H3 H7 ∧ ∃ (acc : List Addr) (ras : List Rule), H7 D = some (.lst (acc.map V.ref)) ∧ acc.length = ras.length ∧
              (∀ (i : Nat) (q : Addr) (x : Rule), acc[i]? = some q → ras[i]? = some x → H7 q = some (.tup (ruleV x))) ∧ acc.length ≤ j + 1 ∧ ((one, other, gp) ∈ rs.take (j + 1) → acc ≠ []) := fun hne => by
              refine ⟨s6.trans s7, acc, ras, eD7, la, fun i q x h1 h2 => s7 _ _ (fa i q x h1 h2), by omega, fun hm => ?_⟩
              rw [List.take_add_one, hrm] at hm
              rcases List.mem_append.mp hm with z | z
              · exact hin z
              · have z2 : (one, other, gp) = ru := by simpa using z
                exact absurd z2 hne
            refine ⟨_, _, dp_tup (SqT.of ec2), dp_tup (SqT.of eT2), shaped_tI _, shaped_tI _, _, rfl, ?_⟩
            rw [eqv_tI]
            refine ite2 (fun c1 => ?_) (fun c1 => ?_)
            · have c1' : [ru.1, ru.2.1] = [one, other] := of_decide_eq_true c1
              injection c1' with h1 h2
              injection h2 with h2 _
              refine ⟨_, rfl, _, rfl, pL, _, one, _, rfl, rfl, SqL.of (s7 _ _ eL6), at_pl w00 (by omega), _, rfl, b, ruleV ru, 2, _, rfl, rfl, SqT.of (s7 _ _ hT), atI_nat (j := 2) rfl, _, _, rfl, rfl, _, rfl, _, rfl, pL, _, other, _, rfl, rfl, SqL.of (s7 _ _ eL6), at_pl w10 (by omega), rfl, _, rfl, ite2 (fun c2 => ?_) (fun c2 => ?_)⟩
              · refine ⟨_, rfl, acc.map V.ref, eD7, ?_, Same.over (s6.trans s7) nD3, acc ++ [b], ras ++ [ru], ?_, ?_, fun i q x h1 h2 => ?_, ?_, fun _ => by simp⟩
                · rw [List.length_map]
                  exact small1000 (by omega)
                · rw [upd_same, List.map_append]
                  rfl
                · rw [List.length_append, List.length_append, la]
                  rfl
                · have key : H7 q = some (.tup (ruleV x)) := by
                    have hil := (List.getElem?_eq_some_iff.mp h1).1
                    rw [List.length_append, List.length_singleton] at hil
                    by_cases hi2 : i < acc.length
                    · rw [List.getElem?_append_left hi2] at h1
                      rw [List.getElem?_append_left (by omega)] at h2
                      exact s7 _ _ (fa i q x h1 h2)
                    · have ei : i = acc.length := by omega
                      subst ei
                      rw [List.getElem?_append_right (Nat.le_refl _), Nat.sub_self] at h1
                      rw [la, List.getElem?_append_right (Nat.le_refl _), Nat.sub_self] at h2
                      have e1 : b = q := Option.some.inj h1
                      have e2 : ru = x := Option.some.inj h2
                      subst e1 e2
                      exact s7 _ _ hT
                  rw [upd_ne (ne_of key eD7 (by intro z; cases z))]
                  exact key
                · rw [List.length_append, List.length_singleton]
                  omega
              · refine not_it fun e => c2 ?_
                rw [← e]
                exact decide_eq_true (congrArg V.int htight)
            · exact iteF (not_it fun e => c1 (by rw [← e]; exact decide_eq_true rfl))
          · obtain ⟨s6, acc, ras, eD, la, fa, lj, hin⟩ := hI
            rw [List.length_map, lq, List.take_length] at hin
            have ne := hin hrule
            -- .. == []
            refine ⟨Nat.zero_le _, fun E2 nE => ?_⟩
            have s8 : Same H' (upd H' E2 (.lst [])) := same_new nE
            refine ⟨.list (ras.map dR), .list [], .lst (SqL.of (s8 _ _ eD)) (dpAll_rules la fun i q x h1 h2 => s8 _ _ (fa i q x h1 h2)), .lst (SqL.of upd_same) .nil, shaped_lR ras, shaped_lI [], _, rfl, ?_⟩
            rw [eqv_nil]
            have ne2 : (ras.map dR).isEmpty = false := by
              cases ras with
              | nil =>
                cases acc with
                | nil => exact absurd rfl ne
                | cons _ _ => cases la
              | cons _ _ => rfl
            rw [ne2]
            exact iteF ⟨_, _, _, _, rfl, s6.trans s8⟩
        · obtain ⟨y7, y8, y9, y10, rfl, s4⟩ := hP
          -- leftmost(many, rules) != tuple(low)
          refine ⟨_, rfl, _, rfl, n, rs, p, L, ⟨rfl, n1, by omega, hat3.keep (Tups.of s4), by omega, ok⟩, low, fun H5 pM s5 nM tM => ?_⟩
          refine ⟨_, rfl, pL, _, rfl, .inl ⟨SqL.of (s5 _ _ (s4 _ _ eL3)), fun pZ nZ => ?_⟩⟩
          refine ⟨_, _, dp_tup (tM.new nZ).seq, dp_tup (SqT.of upd_same), shaped_tI _, shaped_tI _, _, rfl, ?_⟩
          rw [eqv_tI]
          refine iteNS rfl ⟨_, _, _, _, _, _, _, _, _, rfl, g1.same (s2.trans (s3.trans (s4.trans (s5.trans (same_new nZ)))))⟩
    · exact q H'
end
end G51
namespace G51
open PySem PySem.Spec PyProof.Rows L2
/-! ### what the top has written -/
theorem all_mk {l : PySem.W.OpenLaw} {w : World} {K : PySem.W.Frag} {h : Heap} {mg : Str → Option Value} {fa : Addr} (X : K.In h) (G : h.Ns mainGlobals mg) (hfa : mg "law" = some (.ref fa))
    {f1 f2 f3 f4 f5 f6 f7 f8 f9 f10 f11 : Addr} {od1 an1 od2 an2 od3 an3 od4 an4 od5 an5 od6 an6 od7 an7 od8 an8 od9 an9 od10 an10 od11 an11 : Option Addr} {sl1 sl2 sl3 sl4 sl5 sl6 sl7 sl8 sl9 sl10 sl11 : Array (Option Value)}
    {oc1 kV1 dc1 pm1 cd1 ct1 oc2 kV2 dc2 pm2 cd2 ct2 oc3 kV3 dc3 pm3 cd3 ct3 oc4 kV4 dc4 pm4 cd4 ct4 oc5 kV5 dc5 pm5 cd5 ct5 oc6 kV6 dc6 pm6 cd6 ct6 oc7 kV7 dc7 pm7 cd7 ct7 oc8 kV8 dc8 pm8 cd8 ct8 oc9 kV9 dc9 pm9 cd9 ct9 oc10 kV10 dc10 pm10 cd10 ct10 oc11 kV11 dc11 pm11 cd11 ct11 : Value} {t1 t2 t3 : Tok}
    (a1 : PySem.W.nsIn K mainGlobals "is_integer" = some (some (.ref f1))) (l1 : K.lookup f1 = some ⟨oc1, od1, .func (PySem.W.fnOf "is_integer" "is_integer" (defArgs sIsInt) (defBody sIsInt) (defScope sIsInt) .none kV1 dc1 pm1 an1 cd1 ct1), sl1⟩) (c1 : PySem.W.codeIn K cd1 "is_integer" = true) (k1 : PySem.W.keepIn K (.ref f1) = true)
    (a2 : PySem.W.nsIn K mainGlobals "is_in" = some (some (.ref f2))) (l2 : K.lookup f2 = some ⟨oc2, od2, .func (PySem.W.fnOf "is_in" "is_in" (defArgs sIsIn) (defBody sIsIn) (defScope sIsIn) .none kV2 dc2 pm2 an2 cd2 ct2), sl2⟩) (c2 : PySem.W.codeIn K cd2 "is_in" = true) (k2 : PySem.W.keepIn K (.ref f2) = true)
    (a3 : PySem.W.nsIn K mainGlobals "is_list" = some (some (.ref f3))) (l3 : K.lookup f3 = some ⟨oc3, od3, .func (PySem.W.fnOf "is_list" "is_list" (defArgs sIsList) (defBody sIsList) (defScope sIsList) .none kV3 dc3 pm3 an3 cd3 ct3), sl3⟩) (c3 : PySem.W.codeIn K cd3 "is_list" = true) (k3 : PySem.W.keepIn K (.ref f3) = true)
    (a4 : PySem.W.nsIn K mainGlobals "need_gaps" = some (some (.ref f4))) (l4 : K.lookup f4 = some ⟨oc4, od4, .func (PySem.W.fnOf "need_gaps" "need_gaps" (defArgs sNeed) (defBody sNeed) (defScope sNeed) .none kV4 dc4 pm4 an4 cd4 ct4), sl4⟩) (c4 : PySem.W.codeIn K cd4 "need_gaps" = true) (k4 : PySem.W.keepIn K (.ref f4) = true)
    (a5 : PySem.W.nsIn K mainGlobals "lowest" = some (some (.ref f5))) (l5 : K.lookup f5 = some ⟨oc5, od5, .func (PySem.W.fnOf "lowest" "lowest" (defArgs sLowest) (defBody sLowest) (defScope sLowest) .none kV5 dc5 pm5 an5 cd5 ct5), sl5⟩) (c5 : PySem.W.codeIn K cd5 "lowest" = true) (k5 : PySem.W.keepIn K (.ref f5) = true)
    (a6 : PySem.W.nsIn K mainGlobals "leftmost" = some (some (.ref f6))) (l6 : K.lookup f6 = some ⟨oc6, od6, .func (PySem.W.fnOf "leftmost" "leftmost" (defArgs sLeft) (defBody sLeft) (defScope sLeft) .none kV6 dc6 pm6 an6 cd6 ct6), sl6⟩) (c6 : PySem.W.codeIn K cd6 "leftmost" = true) (k6 : PySem.W.keepIn K (.ref f6) = true)
    (a7 : PySem.W.nsIn K mainGlobals "tight_row" = some (some (.ref f7))) (l7 : K.lookup f7 = some ⟨oc7, od7, .func (PySem.W.fnOf "tight_row" "tight_row" (defArgs sTight) (defBody sTight) (defScope sTight) .none kV7 dc7 pm7 an7 cd7 ct7), sl7⟩) (c7 : PySem.W.codeIn K cd7 "tight_row" = true) (k7 : PySem.W.keepIn K (.ref f7) = true)
    (a8 : PySem.W.nsIn K mainGlobals "_law_taken" = some (some (.ref f8))) (l8 : K.lookup f8 = some ⟨oc8, od8, .func (PySem.W.fnOf "_law_taken" "_law_taken" (defArgs sTaken) (defBody sTaken) (defScope sTaken) .none kV8 dc8 pm8 an8 cd8 ct8), sl8⟩) (c8 : PySem.W.codeIn K cd8 "_law_taken" = true) (k8 : PySem.W.keepIn K (.ref f8) = true)
    (a9 : PySem.W.nsIn K mainGlobals "_law_rules" = some (some (.ref f9))) (l9 : K.lookup f9 = some ⟨oc9, od9, .func (PySem.W.fnOf "_law_rules" "_law_rules" (defArgs sRules) (defBody sRules) (defScope sRules) .none kV9 dc9 pm9 an9 cd9 ct9), sl9⟩) (c9 : PySem.W.codeIn K cd9 "_law_rules" = true) (k9 : PySem.W.keepIn K (.ref f9) = true)
    (a10 : PySem.W.nsIn K mainGlobals "_law_least_places" = some (some (.ref f10))) (l10 : K.lookup f10 = some ⟨oc10, od10, .func (PySem.W.fnOf "_law_least_places" "_law_least_places" (defArgs sLeast) (defBody sLeast) (defScope sLeast) .none kV10 dc10 pm10 an10 cd10 ct10), sl10⟩) (c10 : PySem.W.codeIn K cd10 "_law_least_places" = true) (k10 : PySem.W.keepIn K (.ref f10) = true)
    (a11 : PySem.W.nsIn K mainGlobals "law" = some (some (.ref f11))) (l11 : K.lookup f11 = some ⟨oc11, od11, .func (PySem.W.fnOf "law" "law" (defArgs sLaw) (defBody sLaw) (defScope sLaw) .none kV11 dc11 pm11 an11 cd11 ct11), sl11⟩) (c11 : PySem.W.codeIn K cd11 "law" = true) (k11 : PySem.W.keepIn K (.ref f11) = true)
    (m1 : PySem.W.nsIn K mainGlobals "MOST_THINGS" = some (some (.int 10 t1)))
    (m2 : PySem.W.nsIn K mainGlobals "MOST_GAPS" = some (some (.int 40 t2)))
    (m3 : PySem.W.nsIn K mainGlobals "MOST_GAP" = some (some (.int 100 t3)))
    (z1 : PySem.W.nsIn K mainGlobals "isinstance" = some none) (z2 : PySem.W.nsIn K mainGlobals "int" = some none) (z3 : PySem.W.nsIn K mainGlobals "bool" = some none) (z4 : PySem.W.nsIn K mainGlobals "tuple" = some none) (z5 : PySem.W.nsIn K mainGlobals "len" = some none) (z6 : PySem.W.nsIn K mainGlobals "enumerate" = some none) (z7 : PySem.W.nsIn K mainGlobals "all" = some none) (z8 : PySem.W.nsIn K mainGlobals "range" = some none) (z9 : PySem.W.nsIn K mainGlobals "list" = some none) (z10 : PySem.W.nsIn K mainGlobals "max" = some none) (z11 : PySem.W.nsIn K mainGlobals "reversed" = some none) (z12 : PySem.W.nsIn K mainGlobals "set" = some none) :
    ∃ fd : FuncData, (∀ (s : Shared) (v : Value), BindsTo s fd ⟨[v], []⟩ [("_law_script", v)]) ∧ ∀ base : Heap, K.In base → base.Ns mainGlobals mg → FnOk l.prog w K mg base CX0 6 fa fd ["_law_script"] (spLaw K) := by
  have e := hfa.symm.trans (PySem.W.mg_of X G a11)
  cases e
  have F1 := fun_mk (st := sIsInt) l1 c1 k1
  have F2 := fun_mk (st := sIsIn) l2 c2 k2
  have F3 := fun_mk (st := sIsList) l3 c3 k3
  have F4 := fun_mk (st := sNeed) l4 c4 k4
  have F5 := fun_mk (st := sLowest) l5 c5 k5
  have F6 := fun_mk (st := sLeft) l6 c6 k6
  have F7 := fun_mk (st := sTight) l7 c7 k7
  have F8 := fun_mk (st := sTaken) l8 c8 k8
  have F9 := fun_mk (st := sRules) l9 c9 k9
  have F10 := fun_mk (st := sLeast) l10 c10 k10
  have F11 := fun_mk (st := sLaw) l11 c11 k11
  have b1 := F1.binds (ps := ["value"]) fun _ _ _ _ _ _ us hl => match us, hl with | [_], _ => rfl
  have b2 := F2.binds (ps := ["value", "least", "most"]) fun _ _ _ _ _ _ us hl => match us, hl with | [_, _, _], _ => rfl
  have b3 := F3.binds (ps := ["value", "least", "most"]) fun _ _ _ _ _ _ us hl => match us, hl with | [_, _, _], _ => rfl
  have b4 := F4.binds (ps := ["many", "rules"]) fun _ _ _ _ _ _ us hl => match us, hl with | [_, _], _ => rfl
  have b5 := F5.binds (ps := ["many", "rules"]) fun _ _ _ _ _ _ us hl => match us, hl with | [_, _], _ => rfl
  have b6 := F6.binds (ps := ["many", "rules"]) fun _ _ _ _ _ _ us hl => match us, hl with | [_, _], _ => rfl
  have b7 := F7.binds (ps := ["many", "rules"]) fun _ _ _ _ _ _ us hl => match us, hl with | [_, _], _ => rfl
  have b8 := F8.binds (ps := ["_law_row", "_law_many"]) fun _ _ _ _ _ _ us hl => match us, hl with | [_, _], _ => rfl
  have b9 := F9.binds (ps := ["_law_row", "_law_most"]) fun _ _ _ _ _ _ us hl => match us, hl with | [_, _], _ => rfl
  have b10 := F10.binds (ps := ["_law_many", "_law_rules_here"]) fun _ _ _ _ _ _ us hl => match us, hl with | [_, _], _ => rfl
  have y_isinstance := PySem.W.mg_none_of X G z1
  have y_int := PySem.W.mg_none_of X G z2
  have y_bool := PySem.W.mg_none_of X G z3
  have y_tuple := PySem.W.mg_none_of X G z4
  have y_len := PySem.W.mg_none_of X G z5
  have y_enumerate := PySem.W.mg_none_of X G z6
  have y_all := PySem.W.mg_none_of X G z7
  have y_range := PySem.W.mg_none_of X G z8
  have y_list := PySem.W.mg_none_of X G z9
  have y_max := PySem.W.mg_none_of X G z10
  have y_reversed := PySem.W.mg_none_of X G z11
  have y_set := PySem.W.mg_none_of X G z12
  refine ⟨PySem.W.fnOf "law" "law" (defArgs sLaw) (defBody sLaw) (defScope sLaw) .none kV11 dc11 pm11 an11 cd11 ct11, fun s v => .of_eq rfl, fun base _ _ => ?_⟩
  have o1 : FnOk l.prog w K mg base CX0 1 f1 _ ["value"] spIsInt := ok_isInt F1 y_isinstance y_int y_bool
  have o2 : FnOk l.prog w K mg base CX0 2 f2 _ ["value", "least", "most"] spIsIn := ok_isIn F2 F1 b1 (PySem.W.mg_of X G a1) o1
  have o3 : FnOk l.prog w K mg base CX0 1 f3 _ ["value", "least", "most"] spIsList := ok_isList F3 y_isinstance y_tuple y_len
  have o4 : FnOk l.prog w K mg base CX0 3 f4 _ ["many", "rules"] spNeed := ok_need F4 ⟨PySem.W.mg_of X G a2, k2, b2, o2, PySem.W.mg_of X G a3, k3, b3, o3, ⟨_, PySem.W.mg_of X G m1⟩, ⟨_, PySem.W.mg_of X G m2⟩, ⟨_, PySem.W.mg_of X G m3⟩, y_enumerate, y_all⟩
  have o5 : FnOk l.prog w K mg base CX0 1 f5 _ ["many", "rules"] spLowest := ok_lowest F5 y_range
  have o6 : FnOk l.prog w K mg base CX0 4 f6 _ ["many", "rules"] spLeft := ok_left F6 ⟨PySem.W.mg_of X G a4, k4, b4, o4⟩ ⟨PySem.W.mg_of X G a5, k5, b5, o5⟩ y_tuple
  have o7 : FnOk l.prog w K mg base CX0 5 f7 _ ["many", "rules"] spTight := ok_tight F7 ⟨PySem.W.mg_of X G a6, k6, b6, o6⟩ y_range y_len y_max y_tuple y_reversed
  have o8 : FnOk l.prog w K mg base CX0 1 f8 _ ["_law_row", "_law_many"] (spTaken K) := ok_taken F8 y_int y_len
  have o9 : FnOk l.prog w K mg base CX0 2 f9 _ ["_law_row", "_law_most"] (spRules K) := ok_rules F9 ⟨PySem.W.mg_of X G a8, k8, b8, o8.imp take_taken⟩ y_range y_tuple
  have o10 : FnOk l.prog w K mg base CX0 1 f10 _ ["_law_many", "_law_rules_here"] spLeast := ok_least F10 y_range y_list y_max
  exact ok_law F11 ⟨PySem.W.mg_of X G a9, k9, b9, o9⟩ ⟨PySem.W.mg_of X G a10, k10, b10, o10⟩ ⟨PySem.W.mg_of X G a7, k7, b7, o7⟩ ⟨PySem.W.mg_of X G a6, k6, b6, o6⟩ y_range y_isinstance y_tuple y_max y_len y_set
end G51
open PySem PySem.W PyProof.Rows
set_option maxHeartbeats 0 in
theorem PySem.Challenge.cw_chipfloor_k51_whole_tight_rows_holds : PySem.Challenge.rw_chipfloor_k51_whole_tight_rows.Holds := by
  w_on; o_law; k_head; (case hw => w_witness2)
  k_fill
  refine L2.walk_of (l := PySem.Challenge.rw_chipfloor_k51_whole_tight_rows) (n := 63) (k := 6) (x := "_law_script") (CX := fun _ => L2.CX0) (sp := fun w => G51.spLaw _) rfl (by decide) rfl ⟨rfl, by decide, by decide⟩ (fun w h Y => PySem.W.kIn_of Y) ?F (fun _ _ a ns _ hO hS => ⟨a, ns, rfl, G51.Scr.of hO hS, fun _ => rfl⟩) (fun _ _ _ _ _ h => h)
  case F =>
    intro w mg fa h KX G hmg
    refine' G51.all_mk KX G hmg ?a1 ?l1 ?c1 ?k1 ?a2 ?l2 ?c2 ?k2 ?a3 ?l3 ?c3 ?k3 ?a4 ?l4 ?c4 ?k4 ?a5 ?l5 ?c5 ?k5 ?a6 ?l6 ?c6 ?k6 ?a7 ?l7 ?c7 ?k7 ?a8 ?l8 ?c8 ?k8 ?a9 ?l9 ?c9 ?k9 ?a10 ?l10 ?c10 ?k10 ?a11 ?l11 ?c11 ?k11 ?m1 ?m2 ?m3 ?z1 ?z2 ?z3 ?z4 ?z5 ?z6 ?z7 ?z8 ?z9 ?z10 ?z11 ?z12
    (case a1 => k_is)
    (case l1 => k_is)
    (case c1 => k_is)
    (case k1 => k_is)
    (case a2 => k_is)
    (case l2 => k_is)
    (case c2 => k_is)
    (case k2 => k_is)
    (case a3 => k_is)
    (case l3 => k_is)
    (case c3 => k_is)
    (case k3 => k_is)
    (case a4 => k_is)
    (case l4 => k_is)
    (case c4 => k_is)
    (case k4 => k_is)
    (case a5 => k_is)
    (case l5 => k_is)
    (case c5 => k_is)
    (case k5 => k_is)
    (case a6 => k_is)
    (case l6 => k_is)
    (case c6 => k_is)
    (case k6 => k_is)
    (case a7 => k_is)
    (case l7 => k_is)
    (case c7 => k_is)
    (case k7 => k_is)
    (case a8 => k_is)
    (case l8 => k_is)
    (case c8 => k_is)
    (case k8 => k_is)
    (case a9 => k_is)
    (case l9 => k_is)
    (case c9 => k_is)
    (case k9 => k_is)
    (case a10 => k_is)
    (case l10 => k_is)
    (case c10 => k_is)
    (case k10 => k_is)
    (case a11 => k_is)
    (case l11 => k_is)
    (case c11 => k_is)
    (case k11 => k_is)
    (case m1 => k_is)
    (case m2 => k_is)
    (case m3 => k_is)
    (case z1 => k_is)
    (case z2 => k_is)
    (case z3 => k_is)
    (case z4 => k_is)
    (case z5 => k_is)
    (case z6 => k_is)
    (case z7 => k_is)
    (case z8 => k_is)
    (case z9 => k_is)
    (case z10 => k_is)
    (case z11 => k_is)
    (case z12 => k_is)
