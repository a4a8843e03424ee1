import PyProof.Rows.All
import Wide.All
import OpenK.AllK
import Wide.FinOn
import HandS.ForMost
import HandS.Wide
import HandS.IsInst
import HandS.SetFor
import PySem.Challenge.RW_spentblocks_k48_whole_lone_life_by_first
set_option Elab.async false
set_option linter.all false
set_option maxRecDepth 100000
set_option maxHeartbeats 8000000
namespace LL
def Pos0 (ns : List Int) : Prop := ∀ x ∈ ns, (0 : Int) ≤ x
def gr : List Int → Int
  | [] => 0
  | x :: r => max x (gr r)
theorem gr_nonneg : ∀ ns : List Int, 0 ≤ gr ns
  | [] => Int.le_refl 0
  | x :: r => by
    have := gr_nonneg r
    show 0 ≤ max x (gr r)
    omega
theorem gr_ge : ∀ (ns : List Int) (x : Int), x ∈ ns → x ≤ gr ns
  | [], _, h => by cases h
  | y :: r, x, h => by
    show x ≤ max y (gr r)
    rcases List.mem_cons.mp h with e | e
    · omega
    · have := gr_ge r x e
      omega
theorem gr_mem : ∀ (ns : List Int), Pos0 ns → ns ≠ [] → gr ns ∈ ns
  | [], _, h => absurd rfl h
  | [x], hp, _ => by
    have h0 : 0 ≤ x := hp x (List.mem_cons_self ..)
    have e : gr [x] = x := by
      show max x 0 = x
      omega
    rw [e]
    exact List.mem_cons_self ..
  | x :: y :: r, hp, _ => by
    have ih := gr_mem (y :: r) (fun z hz => hp z (List.mem_cons_of_mem _ hz)) (by simp)
    show max x (gr (y :: r)) ∈ x :: y :: r
    by_cases h : gr (y :: r) ≤ x
    · rw [show max x (gr (y :: r)) = x by omega]
      exact List.mem_cons_self ..
    · rw [show max x (gr (y :: r)) = gr (y :: r) by omega]
      exact List.mem_cons_of_mem _ ih
theorem gr_is {ns : List Int} {m : Int} (hp : Pos0 ns) (hm : m ∈ ns) (h : ∀ x ∈ ns, x ≤ m) : m = gr ns := by
  have h1 := gr_ge ns m hm
  have h2 := h _ (gr_mem ns hp (fun e => by rw [e] at hm; cases hm))
  omega
theorem mem_at {ns : List Int} {i : Nat} {x : Int} (h : ns[i]? = some x) : x ∈ ns := List.mem_of_getElem? h
theorem sum_nonneg : ∀ {ns : List Int}, Pos0 ns → 0 ≤ ns.sum
  | [], _ => by simp
  | x :: r, h => by
    have h1 := h x (List.mem_cons_self ..)
    have h2 := sum_nonneg (ns := r) fun z hz => h z (List.mem_cons_of_mem _ hz)
    rw [List.sum_cons]
    omega
theorem one_le : ∀ {ns : List Int} {i : Nat} {x : Int}, Pos0 ns → ns[i]? = some x → x ≤ ns.sum
  | [], _, _, _, h => by simp at h
  | y :: r, 0, x, hp, h => by
    have e : y = x := by simpa using h
    have h2 := sum_nonneg (ns := r) fun z hz => hp z (List.mem_cons_of_mem _ hz)
    rw [List.sum_cons]
    omega
  | y :: r, i + 1, x, hp, h => by
    have h1 := hp y (List.mem_cons_self ..)
    have h2 := one_le (ns := r) (i := i) (x := x) (fun z hz => hp z (List.mem_cons_of_mem _ hz)) (by simpa using h)
    rw [List.sum_cons]
    omega
theorem two_le : ∀ {ns : List Int} {i j : Nat} {x y : Int}, Pos0 ns → i ≠ j → ns[i]? = some x → ns[j]? = some y → x + y ≤ ns.sum
  | [], _, _, _, _, _, _, h, _ => by simp at h
  | z :: r, 0, 0, _, _, _, n, _, _ => absurd rfl n
  | z :: r, 0, j + 1, x, y, hp, _, h, h' => by
    have e : z = x := by simpa using h
    have h2 := one_le (ns := r) (i := j) (x := y) (fun z hz => hp z (List.mem_cons_of_mem _ hz)) (by simpa using h')
    rw [List.sum_cons]
    omega
  | z :: r, i + 1, 0, x, y, hp, _, h, h' => by
    have e : z = y := by simpa using h'
    have h2 := one_le (ns := r) (i := i) (x := x) (fun z hz => hp z (List.mem_cons_of_mem _ hz)) (by simpa using h)
    rw [List.sum_cons]
    omega
  | z :: r, i + 1, j + 1, x, y, hp, n, h, h' => by
    have h1 := hp z (List.mem_cons_self ..)
    have h2 := two_le (ns := r) (i := i) (j := j) (x := x) (y := y) (fun z hz => hp z (List.mem_cons_of_mem _ hz)) (fun e => n (by rw [e])) (by simpa using h) (by simpa using h')
    rw [List.sum_cons]
    omega
theorem sum_set : ∀ {ns : List Int} {b : Nat} {x y : Int}, ns[b]? = some x → (ns.set b y).sum = ns.sum - x + y
  | [], _, _, _, h => by simp at h
  | z :: r, 0, x, y, h => by
    have e : z = x := by simpa using h
    rw [List.set_cons_zero, List.sum_cons, List.sum_cons]
    omega
  | z :: r, b + 1, x, y, h => by
    have h2 := sum_set (ns := r) (b := b) (x := x) (y := y) (by simpa using h)
    rw [List.set_cons_succ, List.sum_cons, List.sum_cons, h2]
    omega
theorem pos_set {ns : List Int} {b : Nat} {y : Int} (hp : Pos0 ns) (hy : 0 ≤ y) : Pos0 (ns.set b y) := fun z hz => by
  rcases List.mem_or_eq_of_mem_set hz with h | h
  · exact hp z h
  · omega
theorem get_set_ne {ns : List Int} {b i : Nat} {y : Int} (h : i ≠ b) : (ns.set b y)[i]? = ns[i]? := List.getElem?_set_ne (Ne.symm h)
theorem get_set_eq {ns : List Int} {b : Nat} {x y : Int} (h : ns[b]? = some x) : (ns.set b y)[b]? = some y := by
  rw [List.getElem?_set_self]
  exact (List.getElem?_eq_some_iff.mp h).1

/-- the bound that the block i sets -/
def bnd (s : Int) (av : Option Nat) (i : Nat) (x : Int) : Int := 2 * (s - x) + if av = some i then 0 else 1
structure IsL (ns : List Int) (av : Option Nat) (v : Int) : Prop where
  les : v ≤ ns.sum
  leb : ∀ i x, ns[i]? = some x → v ≤ bnd ns.sum av i x
  isa : v = ns.sum ∨ ∃ i x, ns[i]? = some x ∧ v = bnd ns.sum av i x
def lone (ns : List Int) (av : Option Nat) : Int :=
  if (∃ a, av = some a ∧ ns[a]? = some (gr ns)) ∧ ns.count (gr ns) = 1 then min ns.sum (2 * (ns.sum - gr ns)) else min ns.sum (2 * (ns.sum - gr ns) + 1)

theorem count_two : ∀ {ns : List Int} {m : Int} {i j : Nat}, i ≠ j → ns[i]? = some m → ns[j]? = some m → 2 ≤ ns.count m
  | [], _, _, _, _, h, _ => by simp at h
  | z :: r, m, 0, 0, n, _, _ => absurd rfl n
  | z :: r, m, 0, j + 1, _, h, h' => by
    have e : z = m := by simpa using h
    have h1 : 0 < r.count m := List.count_pos_iff.mpr (mem_at (i := j) (by simpa using h'))
    rw [e, List.count_cons_self]
    omega
  | z :: r, m, i + 1, 0, _, h, h' => by
    have e : z = m := by simpa using h'
    have h1 : 0 < r.count m := List.count_pos_iff.mpr (mem_at (i := i) (by simpa using h))
    rw [e, List.count_cons_self]
    omega
  | z :: r, m, i + 1, j + 1, n, h, h' => by
    have h2 := count_two (ns := r) (m := m) (i := i) (j := j) (fun e => n (by rw [e])) (by simpa using h) (by simpa using h')
    have : r.count m ≤ (z :: r).count m := by
      rw [List.count_cons]
      omega
    omega
theorem two_of_count : ∀ {ns : List Int} {m : Int}, 2 ≤ ns.count m → ∀ a : Nat, ∃ i, i ≠ a ∧ ns[i]? = some m
  | [], _, h, _ => by simp at h
  | z :: r, m, h, 0 => by
    have h1 : 0 < r.count m := by
      rw [List.count_cons] at h
      split at h <;> omega
    obtain ⟨i, hi, e⟩ := List.getElem_of_mem (List.count_pos_iff.mp h1)
    exact ⟨i + 1, by omega, by rw [List.getElem?_cons_succ, List.getElem?_eq_getElem hi, e]⟩
  | z :: r, m, h, a + 1 => by
    by_cases e : z = m
    · exact ⟨0, by omega, by simp [e]⟩
    · rw [List.count_cons_of_ne e] at h
      obtain ⟨i, h1, h2⟩ := two_of_count h a
      exact ⟨i + 1, by omega, by simpa using h2⟩

theorem lone_is {ns : List Int} {av : Option Nat} (hp : Pos0 ns) (hne : ns ≠ []) : IsL ns av (lone ns av) := by
  have hm := gr_mem ns hp hne
  obtain ⟨k, hk, ek⟩ := List.getElem_of_mem hm
  have gk : ns[k]? = some (gr ns) := by rw [List.getElem?_eq_getElem hk, ek]
  have ge : ∀ i x, ns[i]? = some x → x ≤ gr ns := fun i x h => gr_ge ns x (mem_at h)
  unfold lone
  split
  · rename_i h
    obtain ⟨⟨a, rfl, ha⟩, hc⟩ := h
    refine ⟨by omega, fun i x hx => ?_, ?_⟩
    · have := ge i x hx
      unfold bnd
      split <;> omega
    · by_cases q : ns.sum ≤ 2 * (ns.sum - gr ns)
      · exact .inl (by omega)
      · refine .inr ⟨a, _, ha, ?_⟩
        unfold bnd
        rw [if_pos rfl]
        omega
  · rename_i h
    refine ⟨by omega, fun i x hx => ?_, ?_⟩
    · have := ge i x hx
      unfold bnd
      split
      · rename_i e
        by_cases q : x = gr ns
        · -- the greatest stands twice
          have hc : ns.count (gr ns) ≠ 1 := fun hc => h ⟨⟨i, e, by rw [← q]; exact hx⟩, hc⟩
          have h1 : 0 < ns.count (gr ns) := List.count_pos_iff.mpr hm
          obtain ⟨j, hj, gj⟩ := two_of_count (show 2 ≤ ns.count (gr ns) by omega) i
          have := two_le hp hj gj hx
          omega
        · omega
      · omega
    · by_cases q : ns.sum ≤ 2 * (ns.sum - gr ns) + 1
      · exact .inl (by omega)
      · by_cases e : av = some k
        · -- then count is not one
          have hc : ns.count (gr ns) ≠ 1 := fun hc => h ⟨⟨k, e, gk⟩, hc⟩
          have h1 : 0 < ns.count (gr ns) := List.count_pos_iff.mpr hm
          obtain ⟨j, hj, gj⟩ := two_of_count (show 2 ≤ ns.count (gr ns) by omega) k
          have := two_le hp hj gj gk
          omega
        · refine .inr ⟨k, _, gk, ?_⟩
          unfold bnd
          rw [if_neg e]
          omega

theorem IsL.nonneg {ns : List Int} {av : Option Nat} {v : Int} (hp : Pos0 ns) (h : IsL ns av v) : 0 ≤ v := by
  rcases h.isa with e | ⟨i, x, hx, e⟩
  · have := sum_nonneg hp
    omega
  · have := one_le hp hx
    unfold bnd at e
    split at e <;> omega
theorem lone_nonneg {ns : List Int} {av : Option Nat} (hp : Pos0 ns) (hne : ns ≠ []) : 0 ≤ lone ns av := (lone_is hp hne).nonneg hp
theorem lone_sum {ns : List Int} {av : Option Nat} : lone ns av ≤ ns.sum := by
  unfold lone
  split <;> omega
theorem lone_rest {ns : List Int} {av : Option Nat} : lone ns av ≤ 2 * (ns.sum - gr ns) + 1 := by
  unfold lone
  split <;> omega

/-- a block that may be written next -/
def Adm (ns : List Int) (av : Option Nat) (b : Nat) (x : Int) : Prop := ns[b]? = some x ∧ av ≠ some b ∧ 0 < x

theorem step_le {ns : List Int} {av : Option Nat} {b : Nat} {x : Int} (hp : Pos0 ns) (h : Adm ns av b x) : 1 + lone (ns.set b (x - 1)) (some b) ≤ lone ns av := by
  obtain ⟨hb, hn, hx⟩ := h
  have hne : ns ≠ [] := fun e => by simp [e] at hb
  have V := lone_is (av := av) hp hne
  have hs : (ns.set b (x - 1)).sum = ns.sum - 1 := by
    rw [sum_set hb]
    omega
  have U := lone_is (av := some b) (pos_set (b := b) (y := x - 1) hp (by omega)) (show ns.set b (x - 1) ≠ [] by simpa using hne)
  generalize lone (ns.set b (x - 1)) (some b) = u at U
  have u1 := U.les
  rw [hs] at u1
  rcases V.isa with e | ⟨i, y, hy, e⟩
  · omega
  · by_cases q : i = b
    · subst q
      rw [hb] at hy
      cases hy
      have := U.leb i _ (get_set_eq hb)
      unfold bnd at this e
      rw [if_pos rfl, hs] at this
      rw [if_neg hn] at e
      omega
    · have := U.leb i y (by rw [get_set_ne q]; exact hy)
      unfold bnd at this e
      rw [if_neg (fun z => q (Option.some.inj z).symm), hs] at this
      split at e <;> omega
theorem step_ge {ns : List Int} {av : Option Nat} {b : Nat} {x : Int} (hp : Pos0 ns) (h : Adm ns av b x) (top : ∀ c y, Adm ns av c y → y ≤ x) : 1 + lone (ns.set b (x - 1)) (some b) = lone ns av := by
  refine Int.le_antisymm (step_le hp h) ?_
  obtain ⟨hb, hn, hx⟩ := h
  have hne : ns ≠ [] := fun e => by simp [e] at hb
  have V := lone_is (av := av) hp hne
  have hs : (ns.set b (x - 1)).sum = ns.sum - 1 := by
    rw [sum_set hb]
    omega
  have U := lone_is (av := some b) (pos_set (b := b) (y := x - 1) hp (by omega)) (show ns.set b (x - 1) ≠ [] by simpa using hne)
  generalize lone (ns.set b (x - 1)) (some b) = u at U
  have v1 := V.les
  rcases U.isa with e | ⟨i, y, hy, e⟩
  · rw [hs] at e
    omega
  · by_cases q : i = b
    · subst q
      rw [get_set_eq hb] at hy
      cases hy
      have := V.leb i x hb
      unfold bnd at this e
      rw [if_pos rfl, hs] at e
      rw [if_neg hn] at this
      omega
    · rw [get_set_ne q] at hy
      have t := V.leb i y hy
      unfold bnd at t e
      rw [if_neg (fun z => q (Option.some.inj z).symm), hs] at e
      by_cases z : av = some i
      · rw [if_pos z] at t
        omega
      · rw [if_neg z] at t
        have t2 := two_le hp q hy hb
        by_cases y0 : 0 < y
        · have := top i y ⟨hy, z, y0⟩
          omega
        · omega
theorem step_none {ns : List Int} {av : Option Nat} (hp : Pos0 ns) (hne : ns ≠ []) (no : ∀ c y, ¬ Adm ns av c y) : lone ns av = 0 := by
  have V := lone_is (av := av) hp hne
  have h0 := V.nonneg hp
  refine Int.le_antisymm ?_ h0
  -- all the room there is stands at av
  have all0 : ∀ c y, ns[c]? = some y → av ≠ some c → y = 0 := fun c y hc hn => by
    have h1 := hp y (mem_at hc)
    have h2 := no c y
    refine Int.le_antisymm (Int.not_lt.mp fun q => h2 ⟨hc, hn, q⟩) h1
  have sum_one : ∀ (l : List Int) (a : Nat), (∀ c y, l[c]? = some y → c ≠ a → y = 0) → l.sum = (l[a]?).getD 0 := by
    intro l
    induction l with
    | nil => intro a _; simp
    | cons z r ih =>
      intro a h
      rw [List.sum_cons]
      cases a with
      | zero =>
        have : r.sum = 0 := by
          rw [ih r.length fun c y hc _ => h (c + 1) y (by simpa using hc) (by omega)]
          simp
        rw [this]
        simp
      | succ a =>
        have e : z = 0 := h 0 z (by simp) (by omega)
        rw [ih a fun c y hc hn => h (c + 1) y (by simpa using hc) (by omega), e]
        simp
  cases av with
  | none =>
    have := sum_one ns ns.length fun c y hc _ => all0 c y hc (by simp)
    have e : ns.sum = 0 := by rw [this]; simp
    have := V.les
    omega
  | some a =>
    have hs := sum_one ns a fun c y hc hn => all0 c y hc (fun z => hn (Option.some.inj z).symm)
    cases q : ns[a]? with
    | none =>
      rw [q] at hs
      have := V.les
      rw [hs] at this
      exact this
    | some x =>
      rw [q] at hs
      have := V.leb a x q
      unfold bnd at this
      rw [if_pos rfl, hs] at this
      simp at this
      exact this
/-- of the admissible blocks one has the most room -/
theorem adm_top (ns : List Int) (av : Option Nat) : (∀ c y, ¬ Adm ns av c y) ∨ ∃ b x, Adm ns av b x ∧ ∀ c y, Adm ns av c y → y ≤ x := by
  have : ∀ k : Nat, (∀ c y, c < k → ¬ Adm ns av c y) ∨ ∃ b x, Adm ns av b x ∧ ∀ c y, c < k → Adm ns av c y → y ≤ x := by
    intro k
    induction k with
    | zero => exact .inl fun c y h => by omega
    | succ k ih =>
      by_cases q : ∃ z, Adm ns av k z
      · obtain ⟨z, hz⟩ := q
        have uniq : ∀ y, Adm ns av k y → y = z := fun y hy => by
          have := hy.1
          rw [hz.1] at this
          exact (Option.some.inj this).symm
        rcases ih with no | ⟨b, x, hb, top⟩
        · refine .inr ⟨k, z, hz, fun c y hc hy => ?_⟩
          by_cases e : c = k
          · subst e
            exact Int.le_of_eq (uniq y hy)
          · exact absurd hy (no c y (by omega))
        · by_cases g : z ≤ x
          · refine .inr ⟨b, x, hb, fun c y hc hy => ?_⟩
            by_cases e : c = k
            · subst e
              rw [uniq y hy]
              exact g
            · exact top c y (by omega) hy
          · refine .inr ⟨k, z, hz, fun c y hc hy => ?_⟩
            by_cases e : c = k
            · subst e
              exact Int.le_of_eq (uniq y hy)
            · have := top c y (by omega) hy
              omega
      · rcases ih with no | ⟨b, x, hb, top⟩
        · refine .inl fun c y hc hy => ?_
          by_cases e : c = k
          · subst e
            exact q ⟨y, hy⟩
          · exact no c y (by omega) hy
        · refine .inr ⟨b, x, hb, fun c y hc hy => ?_⟩
          by_cases e : c = k
          · subst e
            exact absurd ⟨y, hy⟩ q
          · exact top c y (by omega) hy
  rcases this ns.length with no | ⟨b, x, hb, top⟩
  · refine .inl fun c y h => no c y ?_ h
    exact (List.getElem?_eq_some_iff.mp h.1).1
  · exact .inr ⟨b, x, hb, fun c y h => top c y (List.getElem?_eq_some_iff.mp h.1).1 h⟩
/-- what the loop over the first writes has found -/
theorem best_is {ns : List Int} {av : Option Nat} {v : Int} (hp : Pos0 ns) (hne : ns ≠ []) (h0 : 0 ≤ v) (hle : v ≤ lone ns av) (h : ∀ b x, Adm ns av b x → 1 + lone (ns.set b (x - 1)) (some b) ≤ v) : v = lone ns av := by
  rcases adm_top ns av with no | ⟨b, x, hb, top⟩
  · have := step_none hp hne no
    omega
  · have h1 := h b x hb
    rw [step_ge hp hb top] at h1
    omega
end LL

namespace K48
open PySem PySem.Spec PyProof.Rows L2
/-! ### the text -/
def topS (i : Nat) : Stmt := PySem.Challenge.pw_spentblocks_k48_whole_lone_life_by_first.main.body.getD i (.Pass ⟨0, 0, 0, 0⟩)
abbrev sII : Stmt := topS 5
abbrev sIR : Stmt := topS 6
abbrev sLL : Stmt := topS 10
abbrev sD : Stmt := topS 12
abbrev sIL : Stmt := topS 13
abbrev sRm : Stmt := topS 14
abbrev sG : Stmt := topS 15
abbrev sLo : Stmt := topS 16
abbrev sBF : Stmt := topS 17
abbrev sLaw : Stmt := topS 18
theorem scII : FnScope ["thing"] ["thing"] (defScope sII) := ⟨rfl, rfl, rfl, by decide +kernel, rfl, by decide +kernel, by decide +kernel⟩
theorem scIR : FnScope ["thing", "low", "high"] ["thing", "low", "high"] (defScope sIR) := ⟨rfl, rfl, rfl, by decide +kernel, rfl, by decide +kernel, by decide +kernel⟩
theorem scLL : FnScope ["rooms", "at", "room", "total", "greatest", "rest"] ["rooms", "at"] (defScope sLL) := ⟨rfl, rfl, rfl, by decide +kernel, rfl, by decide +kernel, by decide +kernel⟩
theorem scD : FnScope ["_law_pool", "_law_many", "_law_rest", "_law_cells", "_law_at", "_law_cell", "_law_mixed"] ["_law_pool", "_law_many"] (defScope sD) := ⟨rfl, rfl, rfl, by decide +kernel, rfl, by decide +kernel, by decide +kernel⟩
theorem scIL : FnScope ["_law_found", "_law_due"] ["_law_found", "_law_due"] (defScope sIL) := ⟨rfl, rfl, rfl, by decide +kernel, rfl, by decide +kernel, by decide +kernel⟩
theorem scRm : FnScope ["_law_pool", "_law_kind"] ["_law_pool", "_law_kind"] (defScope sRm) := ⟨rfl, rfl, rfl, by decide +kernel, rfl, by decide +kernel, by decide +kernel⟩
theorem scG : FnScope ["_law_pool", "_law_many", "_law_kind", "_law_even", "_law_more", "_law_place", "_law_rooms", "_law_k", "_law_others"] ["_law_pool"] (defScope sG) := ⟨rfl, rfl, rfl, by decide +kernel, rfl, by decide +kernel, by decide +kernel⟩
theorem scLo : FnScope ["_law_rooms", "_law_at", "_law_room_here", "_law_last", "_law_length", "_law_step", "_law_best", "_law_b"] ["_law_rooms", "_law_at"] (defScope sLo) := ⟨rfl, rfl, rfl, by decide +kernel, rfl, by decide +kernel, by decide +kernel⟩
theorem scBF : FnScope ["_law_rooms", "_law_at", "_law_best", "_law_b", "_law_less", "_law_span"] ["_law_rooms", "_law_at"] (defScope sBF) := ⟨rfl, rfl, rfl, by decide +kernel, rfl, by decide +kernel, by decide +kernel⟩
theorem scLaw : FnScope ["_law_script", "_law_pool", "_law_small", "_law_where", "_law_many", "_law_rooms", "_law_at", "_law_kept", "_law_found", "_law_rest", "_law_due", "_law_k"] ["_law_script"] (defScope sLaw) := ⟨rfl, rfl, rfl, by decide +kernel, rfl, by decide +kernel, by decide +kernel⟩
/-! ### small things -/
theorem same_upd {H : Hp} {p : Addr} {o : HO} (h : H p = none) : Same H (upd H p o) := fun b x e => by
  rw [upd_ne (ne_of_none e h)]
  exact e
/-- a block's reading replaced by a stronger wish -/
theorem pss_by {X : Cx} {st : List Stmt} {t t' : TS} (h : PSs X st t) (hi : ∀ D σ H, t' D σ H → t D σ H) : PSs X st t' :=
  ⟨fun pins s σ H D I q => h.run pins s σ H D I (hi D σ H q)⟩
theorem isT {p : Prop} [Decidable p] (h : p) : V.bl (decide p) = V.bl true := congrArg V.bl (decide_eq_true h)
theorem isF {p : Prop} [Decidable p] (h : ¬ p) : V.bl (decide p) = V.bl false := congrArg V.bl (decide_eq_false h)
/-! ### lists of ints as data -/
theorem dp_ints (K : PySem.W.Frag) (H : Hp) : ∀ ns : List Int, DpAll K H (ns.map V.int) (ns.map PyData.int)
  | [] => .nil
  | n :: r => .cons (.int n) (dp_ints K H r)
theorem ints_lay : ∀ ns : List Int, PyData.canLayAll0 (ns.map PyData.int) = true
  | [] => by simp [PyData.canLayAll0]
  | n :: r => by simp [PyData.canLayAll0, PyData.canLay0, ints_lay r]
theorem ints_depth : ∀ ns : List Int, PyData.depthAll (ns.map PyData.int) ≤ 2
  | [] => by simp [PyData.depthAll]
  | n :: r => by
    have h1 := ints_depth r
    simp only [List.map_cons, PyData.depthAll, PyData.depth]
    omega
theorem ints_shaped (ns : List Int) : SeqAt.shaped (.list (ns.map PyData.int)) = true := by
  have h1 := ints_depth ns
  have h2 : PyData.depth (.list (ns.map PyData.int)) ≤ 64 := by
    simp only [PyData.depth]
    omega
  show (PyData.canLay0 (.list (ns.map PyData.int)) && decide (PyData.depth (.list (ns.map PyData.int)) ≤ 64)) = true
  rw [Bool.and_eq_true]
  exact ⟨by simp only [PyData.canLay0]; exact ints_lay ns, decide_eq_true h2⟩
theorem ints_same (ns : List Int) : PyData.eqv (.list (ns.map PyData.int)) (.list (ns.map PyData.int)) = true := SeqAt.eqv_refl _ (SeqAt.canLay_of_shaped (ints_shaped ns))
theorem ints_nil (n : Int) (r : List Int) : PyData.eqv (.list ((n :: r).map PyData.int)) (.list []) = false := by
  simp [PyData.eqv, PyData.eqvAll]
section
variable {P : Program} {w : World} {K : PySem.W.Frag} {mg : Str → Option Value} {base : Heap}
/-! ### is_integer -/
def spII : Sp := fun vs H Q _ => ∃ i, vs = [.int i] ∧ Q (.bl true) H
theorem ok_ii {f : Addr} {fd : FuncData} (F : Fun K "is_integer" "is_integer" sII f fd) (mi : mg "isinstance" = none) (mI : mg "int" = none) (mB : mg "bool" = none) : FnOk P w K mg base CX0 1 f fd ["thing"] spII := by
  refine F.ok scII (fun vs H Q E h => ?_) (fun cdv A outer s H vs Q E hr h => ?_)
  · obtain ⟨i, rfl, _⟩ := h
    rfl
  · obtain ⟨i, rfl, q⟩ := h
    refine ⟨_, pss_one (ps_ret (pe_and (pe_callB call_isi (by rfl) mi PyProof.Rows.boot_isinstance (pa_cons (pv 0) (pa_cons (pe_bltn (v := .ty "int") (by rfl) mI PyProof.Rows.boot_int rfl) pa_nil)))
      (pe_one (pe_not (pe_callB call_isi (by rfl) mi PyProof.Rows.boot_isinstance (pa_cons (pv 0) (pa_cons (pe_bltn (v := .ty "bool") (by rfl) mB PyProof.Rows.boot_bool rfl) pa_nil))))))), ?_⟩
    refine ⟨.int i, rfl, .int i, .ty "int", .type "int", .type "int", true, rfl, .ty "int", .base (.int i), kit_ty (by decide +kernel), true, rfl, iteT ?_⟩
    exact ⟨.int i, rfl, .int i, .ty "bool", .type "int", .type "bool", false, rfl, .ty "bool", .base (.int i), kit_ty (by decide +kernel), false, rfl, q⟩
/-! ### in_range -/
def spIR : Sp := fun vs H Q _ => ∃ x lo hi : Int, vs = [.int x, .int lo, .int hi] ∧ lo ≤ x ∧ x ≤ hi ∧ Q (.bl true) H
theorem ok_ir {f g : Addr} {fd gd : FuncData} (F : Fun K "in_range" "in_range" sIR f fd) (G : FnOk P w K mg base CX0 1 g gd ["thing"] spII) (kG : PySem.W.keepIn K (.ref g) = true) (bG : Binds K gd ["thing"] []) (mG : mg "is_integer" = some (.ref g)) :
    FnOk P w K mg base CX0 2 f fd ["thing", "low", "high"] spIR := by
  refine F.ok scIR (fun vs H Q E h => ?_) (fun cdv A outer s H vs Q E hr h => ?_)
  · obtain ⟨x, lo, hi, rfl, _⟩ := h
    rfl
  · obtain ⟨x, lo, hi, rfl, h1, h2, q⟩ := h
    refine ⟨_, pss_one (ps_ret (pe_and (pe_call G hr (by rfl) mG kG bG .nil pass0 (pa_cons (pv 0) pa_nil)) (pe_one (pe_chain op_le op_le (pv 1) (pv 0) (pv 2))))), ?_⟩
    refine ⟨.int x, rfl, x, rfl, true, rfl, iteT ?_⟩
    refine ⟨.int lo, rfl, .int x, rfl, lo, x, rfl, rfl, true, isT h1, iteT ?_⟩
    refine ⟨.int hi, rfl, x, hi, rfl, rfl, ?_⟩
    show Q (V.bl (decide (x ≤ hi))) H
    rw [decide_eq_true h2]
    exact q
end
end K48

namespace K48
open PySem PySem.Spec PyProof.Rows L2
/-- an index, or None -/
def atV : Option Nat → V
  | none => .non
  | some i => .int i
theorem atV_non {av : Option Nat} : (atV av = .non) ↔ av = none := by
  cases av with
  | none => exact ⟨fun _ => rfl, fun _ => rfl⟩
  | some i =>
    refine ⟨fun h => ?_, fun h => by cases h⟩
    have h2 : V.int i = V.non := h
    cases h2
/-- rooms as lone_life takes them -/
structure Rooms (ns : List Int) (av : Option Nat) : Prop where
  ne : ns ≠ []
  len : ns.length ≤ 100
  lo : LL.Pos0 ns
  hi : ∀ x ∈ ns, x ≤ 1000000000
  ix : ∀ i, av = some i → i < ns.length
theorem map_at {ns : List Int} {i : Nat} {x : Int} (h : ns[i]? = some x) : (ns.map V.int)[i]? = some (.int x) := by
  rw [List.getElem?_map, h]
  rfl
theorem int_ne {a b : Int} (h : a ≠ b) : ¬ V.int a = V.int b := fun e => h (V.int.inj e)
theorem min_if (a b : Int) : (if b < a then b else a) = min a b := by
  split <;> omega
section
variable {P : Program} {w : World} {K : PySem.W.Frag} {mg : Str → Option Value} {base : Heap}
/-! ### lone_life -/
def spLL : Sp := fun vs H Q _ => ∃ (a : Addr) (ns : List Int) (av : Option Nat), vs = [.ref a, atV av] ∧ H a = some (.lst (ns.map V.int)) ∧ Rooms ns av ∧ Q (.int (LL.lone ns av)) H
theorem ok_ll {f g : Addr} {fd gd : FuncData} {tA tB : Tok} (F : Fun K "lone_life" "lone_life" sLL f fd) (G : FnOk P w K mg base CX0 2 g gd ["thing", "low", "high"] spIR) (kG : PySem.W.keepIn K (.ref g) = true) (bG : Binds K gd ["thing", "low", "high"] []) (mG : mg "in_range" = some (.ref g))
    (mi : mg "isinstance" = none) (mL : mg "list" = none) (ml : mg "len" = none) (ms : mg "sum" = none) (mM : mg "max" = none) (mm : mg "min" = none) (mA : mg "MOST_ROOMS" = some (.int 100 tA)) (mB : mg "MOST_ROOM" = some (.int 1000000000 tB)) :
    FnOk P w K mg base CX0 3 f fd ["rooms", "at"] spLL := by
  refine F.ok scLL (fun vs H Q E h => ?_) (fun cdv A outer s H vs Q E hr h => ?_)
  · obtain ⟨a, ns, av, rfl, _⟩ := h
    rfl
  · obtain ⟨a, ns, av, rfl, ha, R, q⟩ := h
    have hS : SqL K H a (ns.map V.int) := SqL.of ha
    have hlen : 0 < ns.length := List.length_pos_iff.mpr R.ne
    have hl100 := R.len
    refine ⟨_, pss_cons (ps_if (PW.pt (pw_or (pt_not (pt_val (pe_callB call_isi (by rfl) mi PyProof.Rows.boot_isinstance (pa_cons (pv 0) (pa_cons (pe_bltn (v := .ty "list") (by rfl) mL PyProof.Rows.boot_list rfl) pa_nil)))))
        (pw_or1 (pt_not (pt_chain op_le op_le pe_int (pe_callB call_len_seq (by rfl) ml PySem.boot_len (pa_cons (pv 0) pa_nil)) (pe_glob (v := .int 100) (by rfl) mA ⟨_, rfl⟩)))))) pss_never pss_nil)
      (pss_cons (ps_for PassesOwn.never rfl (pi_list (pv 0)) (pg_name (i := 2) scLL.nd rfl (.inl rfl))
        (pss_one (ps_if (pt_not (pt_val (pe_call G hr (by rfl) mG kG bG .nil pass0 (pa_cons (pv 2) (pa_cons pe_int (pa_cons (pe_glob (v := .int 1000000000) (by rfl) mB ⟨_, rfl⟩) pa_nil)))))) pss_never pss_nil)))
      (pss_cons (ps_if (PW.pt (pw_and (pt_cmp (pc_notN (pv 1))) (pw_and1 (pt_not (pt_val (pe_call G hr (by rfl) mG kG bG .nil pass0 (pa_cons (pv 1) (pa_cons pe_int (pa_cons (pe_op op_sub (pe_callB call_len_seq (by rfl) ml PySem.boot_len (pa_cons (pv 0) pa_nil)) pe_int) pa_nil))))))))) pss_never pss_nil)
      (pss_by (t' := fun D σ H' => (∃ y, σ = [some (.ref a), some (atV av), y, none, none, none]) ∧ H' = H ∧ D.rt (.int (LL.lone ns av)) H)
        (pss_cons (ps_set (i := 3) scLL.nd rfl (.inl rfl) (pe_callB (cr_sum rfl) (by rfl) ms PyProof.Rows.boot_sum (pa_cons (pv 0) pa_nil)))
        (pss_cons (ps_set (i := 4) scLL.nd rfl (.inl rfl) (pe_callB (cr_max rfl) (by rfl) mM PyProof.Rows.boot_max (pa_cons (pv 0) pa_nil)))
        (pss_cons (ps_set (i := 5) scLL.nd rfl (.inl rfl) (pe_op op_sub (pv 3) (pv 4)))
        (pss_cons (ps_if (PW.pt (pw_and (pt_cmp (pc_notN (pv 1))) (pw_and (pt_cmpR op_eq (pe_ix ix_list (pv 0) (pv 1) (fun _ _ => rfl)) (pv 4) (nomark _))
            (pw_and1 (pt_cmpR op_eq (pe_bm PySem.F.plainAttrs_list PySem.F.slot_list_count PySem.F.type_list_count mt_lcount (pv 0) (pa_cons (pv 4) pa_nil)) pe_int (nomark _))))))
            (pss_one (ps_ret (pe_callB (call_min2 rfl) (by rfl) mm PyProof.Rows.boot_min (pa_cons (pv 3) (pa_cons (pe_op op_mul pe_int (pv 5)) pa_nil))))) pss_nil)
        (pss_one (ps_ret (pe_callB (call_min2 rfl) (by rfl) mm PyProof.Rows.boot_min (pa_cons (pv 3) (pa_cons (pe_op op_add (pe_op op_mul pe_int (pv 5)) pe_int) pa_nil))))))))) ?rest))), ?_⟩
    case rest =>
      rintro D σ H' ⟨⟨y, rfl⟩, rfl, qD⟩
      -- total, greatest, rest
      refine ⟨.ref a, rfl, a, ns, rfl, hS, ?_⟩
      refine ⟨.ref a, rfl, a, ns, rfl, hS, hlen, fun m hm hle => ?_⟩
      have em := LL.gr_is R.lo hm hle
      subst em
      refine ⟨_, rfl, _, rfl, _, _, rfl, rfl, ?_⟩
      have two : CMul 2 (ns.sum - LL.gr ns) := .inl ⟨by decide, by decide⟩
      -- the two ends
      have end1 : ∀ (hc : (∃ b, av = some b ∧ ns[b]? = some (LL.gr ns)) ∧ ns.count (LL.gr ns) = 1), D.rt (.int (if 2 * (ns.sum - LL.gr ns) < ns.sum then 2 * (ns.sum - LL.gr ns) else ns.sum)) H' := fun hc => by
        rw [min_if]
        have e : LL.lone ns av = min ns.sum (2 * (ns.sum - LL.gr ns)) := if_pos hc
        rw [← e]
        exact qD
      have end2 : ∀ (hc : ¬ ((∃ b, av = some b ∧ ns[b]? = some (LL.gr ns)) ∧ ns.count (LL.gr ns) = 1)), D.rt (.int (if 2 * (ns.sum - LL.gr ns) + 1 < ns.sum then 2 * (ns.sum - LL.gr ns) + 1 else ns.sum)) H' := fun hc => by
        rw [min_if]
        have e : LL.lone ns av = min ns.sum (2 * (ns.sum - LL.gr ns) + 1) := if_neg hc
        rw [← e]
        exact qD
      cases av with
      | none =>
        refine ⟨.non, rfl, false, rfl, iteF (iteF ?_)⟩
        refine ⟨_, rfl, _, rfl, _, _, rfl, rfl, two, _, _, rfl, rfl, _, _, rfl, ?_⟩
        exact end2 fun hc => by
          obtain ⟨⟨b, hb, _⟩, _⟩ := hc
          cases hb
      | some i =>
        have hi := R.ix i rfl
        have hx : ns[i]? = some ns[i] := List.getElem?_eq_getElem hi
        refine ⟨.int i, rfl, true, rfl, iteT ?_⟩
        refine ⟨.ref a, rfl, .int i, rfl, a, _, i, .int ns[i], rfl, rfl, hS, atI_nat (map_at hx), _, rfl, rfl, ?_⟩
        by_cases h1 : ns[i] = LL.gr ns
        · refine ⟨true, isT (by rw [h1]), iteT ?_⟩
          refine ⟨.ref a, rfl, .inl ⟨rfl, _, hS⟩, _, rfl, a, ns, _, rfl, rfl, hS, rfl, ?_⟩
          by_cases h2 : ns.count (LL.gr ns) = 1
          · refine ⟨true, isT (by rw [h2]; rfl), iteT ?_⟩
            refine ⟨_, rfl, _, rfl, _, _, rfl, rfl, two, _, _, rfl, ?_⟩
            exact end1 ⟨⟨i, rfl, by rw [hx, h1]⟩, h2⟩
          · refine ⟨false, isF (int_ne fun e => h2 (by omega)), iteF ?_⟩
            refine ⟨_, rfl, _, rfl, _, _, rfl, rfl, two, _, _, rfl, rfl, _, _, rfl, ?_⟩
            exact end2 fun hc => h2 hc.2
        · refine ⟨false, isF (int_ne h1), iteF (iteF ?_)⟩
          refine ⟨_, rfl, _, rfl, _, _, rfl, rfl, two, _, _, rfl, rfl, _, _, rfl, ?_⟩
          exact end2 fun hc => by
            obtain ⟨⟨b, hb, e⟩, _⟩ := hc
            cases hb
            rw [hx] at e
            exact h1 (Option.some.inj e)
    -- the list, its length
    refine ⟨.ref a, rfl, .ref a, .ty "list", .type "list", .type "list", true, rfl, .ty "list", .base (.lst ha), kit_ty (by decide +kernel), true, rfl, iteF ?_⟩
    refine ⟨.ref a, rfl, a, ns.map V.int, rfl, .inl hS, 1, _, rfl, rfl, true, isT (by rw [List.length_map]; omega), iteT ?_⟩
    refine ⟨_, 100, rfl, rfl, true, isT (by rw [List.length_map]; omega), iteF ?_⟩
    -- the loop over the rooms
    refine ⟨.ref a, rfl, a, rfl, ⟨_, hS⟩, for_list (xs := ns.map V.int) (fun i σ H' => H' = H ∧ ∃ y, σ = [some (.ref a), some (atV av), y, none, none, none]) ⟨rfl, none, rfl⟩ (fun i σ H' _ hp => by rw [hp.1]; exact hS) (fun i x σ H' hx hp => ?_) (fun σ H' hp => ?_)⟩
    · obtain ⟨rfl, y, rfl⟩ := hp
      rw [List.getElem?_map] at hx
      obtain ⟨n, hn, rfl⟩ := Option.map_eq_some_iff.mp hx
      have hm := List.mem_of_getElem? hn
      refine ⟨.int n, rfl, n, 0, 1000000000, rfl, R.lo n hm, R.hi n hm, true, rfl, iteF ?_⟩
      exact ⟨rfl, some (.int n), rfl⟩
    · obtain ⟨rfl, y, rfl⟩ := hp
      -- the index
      cases av with
      | none => exact ⟨.non, rfl, false, rfl, iteF (iteF ⟨⟨y, rfl⟩, rfl, q⟩)⟩
      | some i =>
        have hi := R.ix i rfl
        refine ⟨.int i, rfl, true, rfl, iteT ?_⟩
        refine ⟨.int i, rfl, .ref a, rfl, a, ns.map V.int, rfl, .inl hS, _, 1, rfl, rfl, i, 0, _, rfl, by omega, by rw [List.length_map]; omega, true, rfl, iteF ?_⟩
        exact ⟨⟨y, rfl⟩, rfl, q⟩
end
end K48

namespace K48
open PySem PySem.Spec PyProof.Rows L2
/-- all that was tracked but p is as it was -/
def SameBut (p : Addr) (H H' : Hp) : Prop := ∀ b o, b ≠ p → H b = some o → H' b = some o
theorem SameBut.refl (p : Addr) (H : Hp) : SameBut p H H := fun _ _ _ h => h
theorem SameBut.trans {p : Addr} {H H1 H2 : Hp} (a : SameBut p H H1) (b : SameBut p H1 H2) : SameBut p H H2 := fun c o n h => b c o n (a c o n h)
theorem SameBut.upd (p : Addr) (H : Hp) (o : HO) : SameBut p H (upd H p o) := fun b u n e => by
  rw [upd_ne n]
  exact e
theorem SameBut.new {p q : Addr} {H : Hp} {o : HO} (h : H q = none) : SameBut p H (L2.upd H q o) := fun b u _ e => by
  rw [upd_ne (ne_of_none e h)]
  exact e
/-- the pool at p: its cells, how far it is read, what is left of a great cell -/
def PoolAt (H : Hp) (p c : Addr) (ns : List Int) (a r : Int) : Prop := H p = some (.lst [.ref c, .int a, .int r]) ∧ 0 ≤ a ∧ H c = some (.lst (ns.map V.int))
def Pool (H : Hp) (p c : Addr) (ns : List Int) : Prop := ∃ a r, PoolAt H p c ns a r
theorem pos3 {j : Int} (h : 0 < j) : 0 < j := h
theorem pool_ne {H : Hp} {p c : Addr} {ns : List Int} {a r : Int} (h : PoolAt H p c ns a r) : c ≠ p := by
  refine ne_of h.2.2 h.1 fun e => ?_
  have e2 := HO.lst.inj e
  cases ns with
  | nil => cases e2
  | cons x t =>
    have e3 : V.int x = V.ref c := (List.cons.inj e2).1
    cases e3
theorem pool_upd {H : Hp} {p c : Addr} {ns : List Int} {a r a' r' : Int} (h : PoolAt H p c ns a r) (h0 : 0 ≤ a') : PoolAt (upd H p (.lst [.ref c, .int a', .int r'])) p c ns a' r' :=
  ⟨upd_same, h0, by rw [upd_ne (pool_ne h)]; exact h.2.2⟩
theorem PoolAt.new {H : Hp} {p c q : Addr} {ns : List Int} {a r : Int} {o : HO} (h : PoolAt H p c ns a r) (hq : H q = none) : PoolAt (upd H q o) p c ns a r :=
  ⟨by rw [upd_ne (ne_of_none h.1 hq)]; exact h.1, h.2.1, by rw [upd_ne (ne_of_none h.2.2 hq)]; exact h.2.2⟩
theorem Pool.off {H : Hp} {p c l : Addr} {ns : List Int} {o : HO} (h : Pool H p c ns) (h1 : l ≠ p) (h2 : l ≠ c) : Pool (upd H l o) p c ns := by
  obtain ⟨a, r, e1, e2, e3⟩ := h
  exact ⟨a, r, by rw [upd_ne (Ne.symm h1)]; exact e1, e2, by rw [upd_ne (Ne.symm h2)]; exact e3⟩
theorem Pool.new {H : Hp} {p c l : Addr} {ns : List Int} {o : HO} (h : Pool H p c ns) (h1 : H l = none) : Pool (upd H l o) p c ns := by
  obtain ⟨a, r, e⟩ := h
  exact ⟨a, r, e.new h1⟩
theorem Pool.ne {H : Hp} {p c l : Addr} {ns : List Int} (h : Pool H p c ns) (h1 : H l = none) : l ≠ p ∧ l ≠ c := by
  obtain ⟨a, r, e1, e2, e3⟩ := h
  exact ⟨Ne.symm (ne_of_none e1 h1), Ne.symm (ne_of_none e3 h1)⟩
theorem SameBut.off {p l : Addr} {H H1 : Hp} {o : HO} (h : SameBut p H H1) (hl : H l = none) : SameBut p H (L2.upd H1 l o) := fun b u n e => by
  rw [upd_ne (ne_of_none e hl)]
  exact h b u n e
theorem SameBut.free {p l : Addr} {H H1 : Hp} (h : SameBut p H H1) (n : l ≠ p) (hl : H1 l = none) : H l = none := by
  cases e : H l with
  | none => rfl
  | some o =>
    rw [h l o n e] at hl
    cases hl
section
variable {P : Program} {w : World} {K : PySem.W.Frag} {mg : Str → Option Value} {base : Heap}
/-! ### _law_digit -/
def spD : Sp := fun vs H Q _ => ∃ (p : Addr) (m : Int) (c : Addr) (ns : List Int), vs = [.ref p, .int m] ∧ 0 < m ∧ m < 2 ^ 60 ∧ Pool H p c ns ∧ ∀ H' d, SameBut p H H' → Pool H' p c ns → 0 ≤ d → d < m → Q (.int d) H'
theorem ok_d {f : Addr} {fd : FuncData} (F : Fun K "_law_digit" "_law_digit" sD f fd) (mI : mg "int" = none) (ml : mg "len" = none) : FnOk P w K mg base CX0 1 f fd ["_law_pool", "_law_many"] spD := by
  refine F.ok scD (fun vs H Q E h => ?_) (fun cdv A outer s H vs Q E hr h => ?_)
  · obtain ⟨p, m, c, ns, rfl, _⟩ := h
    rfl
  · obtain ⟨p, m, c, ns, rfl, m0, m60, ⟨a, r, hp⟩, q⟩ := h
    obtain ⟨hP, ha, hC⟩ := id hp
    have hdiv : ∀ x : Int, CDivW x m := fun x => wide_div m0 (b := 60) (by omega) (by decide) (by decide)
    have hmod : ∀ x : Int, 0 ≤ x % m ∧ x % m < m := fun x => ⟨Int.emod_nonneg x (by omega), Int.emod_lt_of_pos x m0⟩
    refine ⟨_, pss_cons (ps_if (pt_cmpR op_gt (pe_ix ix_list (pv 0) pe_int (fun _ _ => rfl)) pe_int (nomark _))
        (pss_cons (ps_set (i := 2) scD.nd rfl (.inl rfl) (pe_ix ix_list (pv 0) pe_int (fun _ _ => rfl)))
        (pss_cons (ps_asg (pe_op op_fdivW (pv 2) (pv 1)) (pg_sub (pv 0) pe_int set_list))
        (pss_one (ps_ret (pe_op op_mod (pe_callTy call_int1 (by rfl) mI PyProof.Rows.boot_int (pa_cons (pv 2) pa_nil)) (pv 1)))))) pss_nil)
      (pss_cons (ps_set (i := 3) scD.nd rfl (.inl rfl) (pe_ix ix_list (pv 0) pe_int (fun _ _ => rfl)))
      (pss_cons (ps_set (i := 4) scD.nd rfl (.inl rfl) (pe_ix ix_list (pv 0) pe_int (fun _ _ => rfl)))
      (pss_cons (ps_asg (pe_op op_add (pv 4) pe_int) (pg_sub (pv 0) pe_int set_list))
      (pss_cons (ps_set (i := 5) scD.nd rfl (.inl rfl) (pe_op op_add (pe_op op_mul pe_int (pv 4)) pe_int))
      (pss_cons (ps_if (pt_cmpR op_lt (pv 4) (pe_callB call_len_seq (by rfl) ml PySem.boot_len (pa_cons (pv 3) pa_nil)) (nomark _))
        (pss_one (ps_set (i := 5) scD.nd rfl (.inl rfl) (pe_ix ix_list (pv 3) (pv 4) (fun _ _ => rfl))))
        (pss_one (ps_if (pt_cmpR (op_neD hr.units) (pv 3) (pe_lst pa_nil) (nomark _))
          (pss_one (ps_set (i := 5) scD.nd rfl (.inl rfl) (pe_op op_add (pe_op op_add (pe_op op_mul (pe_op op_mod (pe_callTy call_int1 (by rfl) mI PyProof.Rows.boot_int (pa_cons (pe_ix ix_list (pv 3) pe_int (fun _ _ => rfl)) pa_nil)) pe_int) pe_int) (pe_op op_mul pe_int (pv 4))) pe_int))) pss_nil)))
      (pss_by (t' := fun D σ H' => (∃ x v, σ = [some (.ref p), some (.int m), x, some (.ref c), some (.int a), some (.int v), none]) ∧ SameBut p H H' ∧ PoolAt H' p c ns (a + 1) r ∧ ∀ H' d, SameBut p H H' → Pool H' p c ns → 0 ≤ d → d < m → D.rt (.int d) H')
        (pss_cons (ps_if (pt_cmpR op_ge (pv 5) (pe_op op_pow pe_int pe_int) (nomark _))
          (pss_cons (ps_asg (pe_op op_fdivW (pv 5) (pv 1)) (pg_sub (pv 0) pe_int set_list))
          (pss_one (ps_ret (pe_op op_mod (pe_callTy call_int1 (by rfl) mI PyProof.Rows.boot_int (pa_cons (pv 5) pa_nil)) (pv 1))))) pss_nil)
        (pss_cons (ps_set (i := 6) scD.nd rfl (.inl rfl) (pe_op op_mod (pe_callTy call_int1 (by rfl) mI PyProof.Rows.boot_int (pa_cons (pe_op op_add (pe_op op_add (pe_op op_mul (pv 5) pe_int) (pe_op op_mul (pv 4) pe_int)) pe_int) pa_nil)) pe_int))
        (pss_cons (ps_set (i := 6) scD.nd rfl (.inl rfl) (pe_op op_mod (pe_callTy call_int1 (by rfl) mI PyProof.Rows.boot_int (pa_cons (pe_op op_mul (pv 6) (pe_op op_add (pe_op op_fdiv (pv 6) pe_int) pe_int)) pa_nil)) pe_int))
        (pss_cons (ps_set (i := 6) scD.nd rfl (.inl rfl) (pe_op op_mod (pe_callTy call_int1 (by rfl) mI PyProof.Rows.boot_int (pa_cons (pe_op op_mul (pv 6) (pe_op op_add (pe_op op_fdiv (pv 6) pe_int) pe_int)) pa_nil)) pe_int))
        (pss_one (ps_ret (pe_op op_mod (pe_callTy call_int1 (by rfl) mI PyProof.Rows.boot_int (pa_cons (pe_op op_fdiv (pv 6) pe_int) pa_nil)) (pv 1)))))))) ?rest)))))), ?_⟩
    case rest =>
      rintro D σ H' ⟨⟨x, v, rfl⟩, sb, hp', qD⟩
      obtain ⟨hP', ha', hC'⟩ := id hp'
      refine ⟨_, rfl, 10, 18, rfl, rfl, ⟨by decide, by decide, by decide⟩, v, _, rfl, rfl, ?_⟩
      by_cases hv : (10 : Int) ^ (18 : Int).toNat ≤ v
      · refine ⟨true, isT hv, iteT ?_⟩
        refine ⟨_, rfl, _, rfl, v, m, rfl, rfl, hdiv v, .ref p, rfl, p, _, 2, 2, rfl, rfl, hP', rfl, ?_⟩
        refine ⟨_, rfl, .inl ⟨v, rfl, _, rfl, v, m, rfl, rfl, m0, ?_⟩⟩
        exact qD _ _ (sb.trans (.upd p H' _)) ⟨a + 1, _, pool_upd hp' ha'⟩ (hmod v).1 (hmod v).2
      · refine ⟨false, isF hv, iteF ?_⟩
        refine ⟨_, rfl, v, 48271, rfl, rfl, .inr ⟨by decide, by decide⟩, _, rfl, a, 7919, rfl, rfl, .inr ⟨by decide, by decide⟩, _, _, rfl, rfl, _, 30103, rfl, rfl, .inl ⟨_, rfl, _, 2147483647, rfl, rfl, pos3 (by decide), ?_⟩⟩
        show gName 6 (.int ((v * 48271 + a * 7919 + 30103) % 2147483647)) _ _ _
        generalize hm1 : (v * 48271 + a * 7919 + 30103) % 2147483647 = m1
        have b1 : 0 ≤ m1 ∧ m1 < 2147483647 := by omega
        refine ⟨_, rfl, _, rfl, m1, 1013, rfl, rfl, ⟨by decide, by decide⟩, _, 69623, rfl, rfl, m1, _, rfl, rfl, .inl ⟨by omega, by omega⟩, .inl ⟨_, rfl, _, 2147483629, rfl, rfl, pos3 (by decide), ?_⟩⟩
        show gName 6 (.int (m1 * (m1 / 1013 + 69623) % 2147483629)) _ _ _
        generalize hm2 : m1 * (m1 / 1013 + 69623) % 2147483629 = m2
        have b2 : 0 ≤ m2 ∧ m2 < 2147483629 := by
          rw [← hm2]
          exact ⟨Int.emod_nonneg _ (by decide), Int.emod_lt_of_pos _ (by decide)⟩
        refine ⟨_, rfl, _, rfl, m2, 2011, rfl, rfl, ⟨by decide, by decide⟩, _, 40699, rfl, rfl, m2, _, rfl, rfl, .inl ⟨by omega, by omega⟩, .inl ⟨_, rfl, _, 2147483587, rfl, rfl, pos3 (by decide), ?_⟩⟩
        show gName 6 (.int (m2 * (m2 / 2011 + 40699) % 2147483587)) _ _ _
        generalize hm3 : m2 * (m2 / 2011 + 40699) % 2147483587 = m3
        refine ⟨_, rfl, m3, 32, rfl, rfl, ⟨by decide, by decide⟩, .inl ⟨_, rfl, _, rfl, _, m, rfl, rfl, m0, ?_⟩⟩
        exact qD _ _ sb ⟨a + 1, r, hp'⟩ (hmod _).1 (hmod _).2
    -- if _law_pool[2] > 0
    refine ⟨.ref p, rfl, p, _, 2, .int r, rfl, rfl, SqL.of hP, rfl, r, 0, rfl, rfl, ?_⟩
    by_cases h0 : 0 < r
    · refine ⟨true, isT h0, iteT ?_⟩
      refine ⟨.ref p, rfl, p, _, 2, .int r, rfl, rfl, SqL.of hP, rfl, ?_⟩
      refine ⟨_, rfl, _, rfl, r, m, rfl, rfl, hdiv r, .ref p, rfl, p, _, 2, 2, rfl, rfl, hP, rfl, ?_⟩
      refine ⟨_, rfl, .inl ⟨r, rfl, _, rfl, r, m, rfl, rfl, m0, ?_⟩⟩
      exact q _ _ (.upd p H _) ⟨a, _, pool_upd hp ha⟩ (hmod r).1 (hmod r).2
    · refine ⟨false, isF h0, iteF ?_⟩
      refine ⟨.ref p, rfl, p, _, 0, .ref c, rfl, rfl, SqL.of hP, rfl, ?_⟩
      refine ⟨.ref p, rfl, p, _, 1, .int a, rfl, rfl, SqL.of hP, rfl, ?_⟩
      refine ⟨_, rfl, a, 1, rfl, rfl, .ref p, rfl, p, _, 1, 1, rfl, rfl, hP, rfl, ?_⟩
      have hp1 : PoolAt (upd H p (.lst [.ref c, .int (a + 1), .int r])) p c ns (a + 1) r := pool_upd hp (by omega)
      refine ⟨_, rfl, 7, a, rfl, rfl, .inl ⟨by decide, by decide⟩, _, 2, rfl, rfl, ?_⟩
      have sb1 : SameBut p H (upd H p (.lst [.ref c, .int (a + 1), .int r])) := .upd p H _
      have hC1 := SqL.of (K := K) hp1.2.2
      refine ⟨_, rfl, .ref c, rfl, c, _, rfl, .inl hC1, a, _, rfl, rfl, ?_⟩
      by_cases h1 : a < ns.length
      · have hn : a.toNat < ns.length := by omega
        refine ⟨true, isT (by rw [List.length_map]; exact h1), iteT ?_⟩
        refine ⟨.ref c, rfl, .int a, rfl, c, _, a, .int ns[a.toNat], rfl, rfl, hC1, ?_, ?_⟩
        · have e2 := atI_nat (xs := ns.map V.int) (j := a.toNat) (v := .int ns[a.toNat]) (by rw [List.getElem?_map, List.getElem?_eq_getElem hn]; rfl)
          rw [show ((a.toNat : Nat) : Int) = a by omega] at e2
          exact e2
        · exact ⟨⟨_, _, rfl⟩, sb1, hp1, q⟩
      · refine ⟨false, isF (by rw [List.length_map]; exact h1), iteF ?_⟩
        refine ⟨.ref c, rfl, Nat.zero_le _, fun o no => ?_⟩
        have hp2 := hp1.new (o := .lst []) no
        have sb2 : SameBut p H _ := sb1.trans (.new (o := .lst []) no)
        have hC2 := SqL.of (K := K) hp2.2.2
        cases ns with
        | nil =>
          refine ⟨.list [], .list [], .lst hC2 .nil, .lst (SqL.of upd_same) .nil, rfl, rfl, false, rfl, iteF ?_⟩
          exact ⟨⟨_, _, rfl⟩, sb2, hp2, q⟩
        | cons z t =>
          refine ⟨.list ((z :: t).map PyData.int), .list [], .lst hC2 (dp_ints K _ (z :: t)), .lst (SqL.of upd_same) .nil, ints_shaped _, rfl, true, by rw [ints_nil]; rfl, iteT ?_⟩
          refine ⟨.ref c, rfl, c, _, 0, .int z, rfl, rfl, hC2, atI_nat (j := 0) rfl, .inl ⟨z, rfl, ?_⟩⟩
          refine ⟨z, 1000003, rfl, rfl, pos3 (by decide), _, 13, rfl, rfl, .inr ⟨by decide, by decide⟩, _, rfl, 7, a, rfl, rfl, .inl ⟨by decide, by decide⟩, _, _, rfl, rfl, _, 2, rfl, rfl, ?_⟩
          exact ⟨⟨_, _, rfl⟩, sb2, hp2, q⟩
end
end K48

namespace K48
open PySem PySem.Spec PyProof.Rows L2
section
variable {P : Program} {w : World} {K : PySem.W.Frag} {mg : Str → Option Value} {base : Heap}
/-! ### _law_is_life: found is the int that is due -/
def spIL : Sp := fun vs H Q _ => ∃ v : Int, vs = [.int v, .int v] ∧ Q (.bl true) H
theorem ok_il {f : Addr} {fd : FuncData} (F : Fun K "_law_is_life" "_law_is_life" sIL f fd) (mi : mg "isinstance" = none) (mI : mg "int" = none) (mB : mg "bool" = none) : FnOk P w K mg base CX0 1 f fd ["_law_found", "_law_due"] spIL := by
  refine F.ok scIL (fun vs H Q E h => ?_) (fun cdv A outer s H vs Q E hr h => ?_)
  · obtain ⟨v, rfl, _⟩ := h
    rfl
  · obtain ⟨v, rfl, q⟩ := h
    refine ⟨_, pss_cons (ps_if (pt_cmp (pc_isN (pv 1))) pss_never pss_nil)
      (pss_one (ps_ret (pe_and (pe_callB call_isi (by rfl) mi PyProof.Rows.boot_isinstance (pa_cons (pv 0) (pa_cons (pe_bltn (v := .ty "int") (by rfl) mI PyProof.Rows.boot_int rfl) pa_nil)))
      (pe_and (pe_not (pe_callB call_isi (by rfl) mi PyProof.Rows.boot_isinstance (pa_cons (pv 0) (pa_cons (pe_bltn (v := .ty "bool") (by rfl) mB PyProof.Rows.boot_bool rfl) pa_nil))))
        (pe_one (pe_cmpR op_eq (pv 0) (pv 1) (nomark _))))))), ?_⟩
    refine ⟨.int v, rfl, false, rfl, iteF ?_⟩
    refine ⟨.int v, rfl, .int v, .ty "int", .type "int", .type "int", true, rfl, .ty "int", .base (.int v), kit_ty (by decide +kernel), true, rfl, iteT ?_⟩
    refine ⟨.int v, rfl, .int v, .ty "bool", .type "int", .type "bool", false, rfl, .ty "bool", .base (.int v), kit_ty (by decide +kernel), false, rfl, true, rfl, iteT ?_⟩
    refine ⟨.int v, rfl, .int v, rfl, rfl, ?_⟩
    rw [decide_eq_true rfl]
    exact q
/-! ### _law_room -/
def spRm : Sp := fun vs H Q _ => ∃ (p : Addr) (k : Int) (c : Addr) (ns : List Int), vs = [.ref p, .int k] ∧ Pool H p c ns ∧ ∀ H' d, SameBut p H H' → Pool H' p c ns → 0 ≤ d → d ≤ 1000000000 → Q (.int d) H'
theorem ok_rm {f g : Addr} {fd gd : FuncData} (F : Fun K "_law_room" "_law_room" sRm f fd) (G : FnOk P w K mg base CX0 1 g gd ["_law_pool", "_law_many"] spD) (kG : PySem.W.keepIn K (.ref g) = true) (bG : Binds K gd ["_law_pool", "_law_many"] []) (mG : mg "_law_digit" = some (.ref g))
    (mI : mg "int" = none) : FnOk P w K mg base CX0 2 f fd ["_law_pool", "_law_kind"] spRm := by
  refine F.ok scRm (fun vs H Q E h => ?_) (fun cdv A outer s H vs Q E hr h => ?_)
  · obtain ⟨p, k, c, ns, rfl, _⟩ := h
    rfl
  · obtain ⟨p, k, c, ns, rfl, hp, q⟩ := h
    refine ⟨_, pss_cons (ps_if (pt_cmpR op_eq (pv 1) pe_int (nomark _)) (pss_one (ps_ret (pe_call G hr (by rfl) mG kG bG .nil pass0 (pa_cons (pv 0) (pa_cons pe_int pa_nil))))) pss_nil)
      (pss_cons (ps_if (pt_cmpR op_eq (pv 1) pe_int (nomark _)) (pss_one (ps_ret (pe_call G hr (by rfl) mG kG bG .nil pass0 (pa_cons (pv 0) (pa_cons (pe_op op_add (pe_op op_pow pe_int pe_int) pe_int) pa_nil))))) pss_nil)
      (pss_cons (ps_if (pt_cmpR op_eq (pv 1) pe_int (nomark _)) (pss_one (ps_ret (pe_op op_sub (pe_op op_pow pe_int pe_int) (pe_call G hr (by rfl) mG kG bG .nil pass0 (pa_cons (pv 0) (pa_cons pe_int pa_nil)))))) pss_nil)
      (pss_one (ps_ret (pe_callTy call_int1 (by rfl) mI PyProof.Rows.boot_int (pa_cons (pe_call G hr (by rfl) mG kG bG .nil pass0 (pa_cons (pv 0) (pa_cons (pe_op op_add (pe_op op_pow pe_int pe_int) pe_int) pa_nil))) pa_nil)))))), ?_⟩
    have pw : ∀ e : Int, 0 ≤ e → e ≤ 1000000 → CPow 10 e := fun e h0 h1 => ⟨h0, h1, by decide⟩
    refine ⟨_, rfl, rfl, _, rfl, ite2 (fun e => ?_) (fun e => ?_)⟩
    · refine ⟨.ref p, rfl, p, 10, c, ns, rfl, by decide, by decide, hp, fun H' d sb hp' d0 d1 => q H' d sb hp' d0 (by omega)⟩
    refine ⟨_, rfl, rfl, _, rfl, ite2 (fun e => ?_) (fun e => ?_)⟩
    · refine ⟨.ref p, rfl, 10, 6, rfl, rfl, pw 6 (by decide) (by decide), _, 1, rfl, rfl, p, 10 ^ 6 + 1, c, ns, rfl, by decide, by decide, hp, fun H' d sb hp' d0 d1 => q H' d sb hp' d0 (by omega)⟩
    refine ⟨_, rfl, rfl, _, rfl, ite2 (fun e => ?_) (fun e => ?_)⟩
    · refine ⟨10, 9, rfl, rfl, pw 9 (by decide) (by decide), .ref p, rfl, p, 40, c, ns, rfl, by decide, by decide, hp, fun H' d sb hp' d0 d1 => ⟨_, _, rfl, rfl, ?_⟩⟩
      have e9 : (10 : Int) ^ (9 : Int).toNat = 1000000000 := by decide
      rw [e9]
      exact q H' _ sb hp' (by omega) (by omega)
    · refine ⟨.ref p, rfl, 10, 9, rfl, rfl, pw 9 (by decide) (by decide), _, 1, rfl, rfl, p, 10 ^ 9 + 1, c, ns, rfl, by decide, by decide, hp, fun H' d sb hp' d0 d1 => .inl ⟨d, rfl, q H' d sb hp' d0 (by omega)⟩⟩
/-! ### _law_great -/
/-- the list that a draw makes -/
def Drawn (ns : List Int) : Prop := ns ≠ [] ∧ ns.length ≤ 100 ∧ ∀ x ∈ ns, 0 ≤ x ∧ x ≤ 1000000000
def spG : Sp := fun vs H Q _ => ∃ (p c : Addr) (cs : List Int), vs = [.ref p] ∧ Pool H p c cs ∧ ∀ H' l ns, SameBut p H H' → Pool H' p c cs → H l = none → l ≠ p → H' l = some (.lst (ns.map V.int)) → Drawn ns → Q (.ref l) H'
theorem ok_g {f g r : Addr} {fd gd rd : FuncData} (F : Fun K "_law_great" "_law_great" sG f fd) (G : FnOk P w K mg base CX0 1 g gd ["_law_pool", "_law_many"] spD) (kG : PySem.W.keepIn K (.ref g) = true) (bG : Binds K gd ["_law_pool", "_law_many"] []) (mG : mg "_law_digit" = some (.ref g))
    (R : FnOk P w K mg base CX0 2 r rd ["_law_pool", "_law_kind"] spRm) (kR : PySem.W.keepIn K (.ref r) = true) (bR : Binds K rd ["_law_pool", "_law_kind"] []) (mR : mg "_law_room" = some (.ref r))
    (mr : mg "range" = none) (ms : mg "sum" = none) : FnOk P w K mg base CX0 3 f fd ["_law_pool"] spG := by
  refine F.ok scG (fun vs H Q E h => ?_) (fun cdv A outer s H vs Q E hr h => ?_)
  · obtain ⟨p, c, cs, rfl, _⟩ := h
    rfl
  · obtain ⟨p, c, cs, rfl, hp, q⟩ := h
    have hr1 := hr.mono (show 1 ≤ 2 by decide)
    refine ⟨_, pss_cons (ps_set (i := 1) scG.nd rfl (.inl rfl) (pe_op op_add pe_int (pe_call G hr1 (by rfl) mG kG bG .nil pass0 (pa_cons (pv 0) (pa_cons pe_int pa_nil)))))
      (pss_cons (ps_if (pt_cmpR op_eq (pe_call G hr1 (by rfl) mG kG bG .nil pass0 (pa_cons (pv 0) (pa_cons pe_int pa_nil))) pe_int (nomark _))
        (pss_one (ps_set (i := 1) scG.nd rfl (.inl rfl) (pe_op op_add pe_int (pe_op op_mod (pv 1) pe_int)))) pss_nil)
      (pss_by (t' := fun D σ H' => ∃ m, σ = [some (.ref p), some (.int m), none, none, none, none, none, none, none] ∧ 1 ≤ m ∧ m ≤ 100 ∧ SameBut p H H' ∧ Pool H' p c cs ∧ D.rt = Q)
      (pss_cons (ps_set (i := 2) scG.nd rfl (.inl rfl) (pe_op op_add pe_int (pe_call G hr1 (by rfl) mG kG bG .nil pass0 (pa_cons (pv 0) (pa_cons pe_int pa_nil)))))
      (pss_cons (ps_set (i := 3) scG.nd rfl (.inl rfl) (pe_call G hr1 (by rfl) mG kG bG .nil pass0 (pa_cons (pv 0) (pa_cons pe_int pa_nil))))
      (pss_cons (ps_set (i := 4) scG.nd rfl (.inl rfl) (pe_call G hr1 (by rfl) mG kG bG .nil pass0 (pa_cons (pv 0) (pa_cons pe_int pa_nil))))
      (pss_cons (ps_set (i := 5) scG.nd rfl (.inl rfl) (pe_call G hr1 (by rfl) mG kG bG .nil pass0 (pa_cons (pv 0) (pa_cons (pv 1) pa_nil))))
      (pss_cons (ps_set (i := 6) scG.nd rfl (.inl rfl) (pe_lst pa_nil))
      (pss_cons (ps_for PassesOwn.never rfl (pi_range1 (by rfl) mr (pa_cons (pv 1) pa_nil)) (pg_name (i := 7) scG.nd rfl (.inl rfl))
        (pss_one (ps_if (pt_cmpR op_lt (pv 7) pe_int (nomark _))
          (pss_one (ps_expr (pe_bm PySem.F.plainAttrs_list PySem.F.slot_list_append PySem.F.type_list_append mt_append (pv 6) (pa_cons (pe_call R hr (by rfl) mR kR bR .nil pass0 (pa_cons (pv 0) (pa_cons (pv 2) pa_nil))) pa_nil))))
          (pss_one (ps_expr (pe_bm PySem.F.plainAttrs_list PySem.F.slot_list_append PySem.F.type_list_append mt_append (pv 6) (pa_cons (pe_op op_mod (pe_op op_add (pe_op op_mul (pv 7) (pv 7)) (pv 4)) pe_int) pa_nil)))))))
      (pss_cons (ps_if (pt_cmpR op_eq (pv 3) pe_int (nomark _))
        (pss_cons (ps_set (i := 8) scG.nd rfl (.inl rfl) (pe_op op_sub (pe_op op_add (pe_op op_sub (pe_callB (cr_sum rfl) (by rfl) ms PyProof.Rows.boot_sum (pa_cons (pv 6) pa_nil)) (pe_ix ix_list (pv 6) (pv 5) (fun _ _ => rfl))) (pv 4)) pe_int))
        (pss_one (ps_if (PW.pt (pw_and (pt_cmpR op_ge (pv 8) pe_int (nomark _)) (pw_and1 (pt_cmpR op_le (pv 8) (pe_op op_pow pe_int pe_int) (nomark _)))))
          (pss_one (ps_asg (pv 8) (pg_sub (pv 6) (pv 5) set_list))) pss_nil))) pss_nil)
      (pss_one (ps_ret (pv 6)))))))))) ?rest)), ?_⟩
    case rest =>
      rintro ⟨nx, rt, bk, ct⟩ σ H' ⟨m, rfl, m1, m100, sb, hp', eQ⟩
      cases eQ
      -- kind, even, more, place
      refine ⟨.ref p, rfl, p, 4, c, cs, rfl, by decide, by decide, hp', fun H1 d1 sb1 hp1 d10 d11 => ⟨1, d1, rfl, rfl, ?_⟩⟩
      refine ⟨.ref p, rfl, p, 2, c, cs, rfl, by decide, by decide, hp1, fun H2 d2 sb2 hp2 d20 d21 => ?_⟩
      refine ⟨.ref p, rfl, p, 7, c, cs, rfl, by decide, by decide, hp2, fun H3 d3 sb3 hp3 d30 d31 => ?_⟩
      refine ⟨.ref p, rfl, .int m, rfl, p, m, c, cs, rfl, by omega, by omega, hp3, fun H4 d4 sb4 hp4 d40 d41 => ?_⟩
      have sb04 : SameBut p H H4 := sb.trans (sb1.trans (sb2.trans (sb3.trans sb4)))
      -- the list
      refine ⟨Nat.zero_le _, fun l nl => ?_⟩
      obtain ⟨lp, lc⟩ := hp4.ne nl
      have nlH : H l = none := sb04.free lp nl
      refine ⟨.int m, rfl, m, rfl, by omega, by omega, for_range (fun i σ Hi => ∃ ns y7, σ = [some (.ref p), some (.int m), some (.int (1 + d1)), some (.int d2), some (.int d3), some (.int d4), some (.ref l), y7, none] ∧ ns.length = i ∧ (∀ x ∈ ns, 0 ≤ x ∧ x ≤ 1000000000) ∧ Hi l = some (.lst (ns.map V.int)) ∧ SameBut p H Hi ∧ Pool Hi p c cs)
        ⟨[], none, rfl, rfl, fun x hx => (by cases hx), upd_same, sb04.trans (.new nl), hp4.new nl⟩ (fun i σ Hi hi hP => ?_) (fun σ Hi hP => ?_)⟩
      · obtain ⟨ns, y7, rfl, hlen, hb, hl, sbi, hpi⟩ := hP
        have sz : (ns.map V.int).length < sizeLine := by
          rw [List.length_map]
          exact small1000 (by omega)
        have more : ∀ d : Int, 0 ≤ d → d ≤ 1000000000 → ∀ x ∈ ns ++ [d], 0 ≤ x ∧ x ≤ 1000000000 := fun d d0 d1 x hx => by
          rcases List.mem_append.mp hx with h | h
          · exact hb x h
          · cases List.mem_singleton.mp h
            exact ⟨d0, d1⟩
        refine ⟨.int (0 + i), rfl, _, 12, rfl, rfl, _, rfl, ite2 (fun _ => ?_) (fun _ => ?_)⟩
        · refine ⟨.ref l, rfl, .inl ⟨rfl, _, SqL.of hl⟩, .ref p, rfl, _, rfl, p, _, c, cs, rfl, hpi, fun H' d sb' hp' d0 d1 => ?_⟩
          have hl' := sb' l _ lp hl
          refine ⟨l, _, _, rfl, rfl, hl', sz, ?_⟩
          exact ⟨ns ++ [d], _, rfl, by rw [List.length_append, hlen]; rfl, more d d0 d1, by rw [upd_same, List.map_append]; rfl, (sbi.trans sb').off nlH, hp'.off lp lc⟩
        · have b3 : ∀ z : Int, 0 ≤ z % 3 ∧ z % 3 ≤ 1000000000 := fun z => by omega
          refine ⟨.ref l, rfl, .inl ⟨rfl, _, SqL.of hl⟩, _, rfl, _, rfl, _, _, rfl, rfl, .inl ⟨by omega, by omega⟩, _, rfl, _, _, rfl, rfl, _, 3, rfl, rfl, pos3 (by decide), l, _, _, rfl, rfl, hl, sz, ?_⟩
          exact ⟨ns ++ [_], _, rfl, by rw [List.length_append, hlen]; rfl, more _ (b3 _).1 (b3 _).2, by rw [upd_same, List.map_append]; rfl, sbi.off nlH, hpi.off lp lc⟩
      · obtain ⟨ns, y7, rfl, hlen, hb, hl, sbi, hpi⟩ := hP
        have hl0 : ns.length ≤ 100 ∧ ns ≠ [] := by
          refine ⟨by omega, fun e => ?_⟩
          rw [e] at hlen
          have : (0 : Nat) = m.toNat := hlen
          omega
        have dr : Drawn ns := ⟨hl0.2, hl0.1, hb⟩
        refine ⟨_, rfl, rfl, _, rfl, ite2 (fun _ => ?_) (fun _ => ?_)⟩
        · have h4 : d4.toNat < ns.length := by omega
          have e4 : d4 = (d4.toNat : Int) := by omega
          have i4 : ixN (ns.map V.int).length d4 = some d4.toNat := by
            unfold ixN
            rw [List.length_map, if_pos d40, if_pos (by omega)]
          have a4 : atI (ns.map V.int) d4 = some (.int ns[d4.toNat]) := by
            have e2 := atI_nat (map_at (List.getElem?_eq_getElem h4))
            rw [← e4] at e2
            exact e2
          refine ⟨.ref l, rfl, l, ns, rfl, SqL.of hl, .ref l, rfl, .int d4, rfl, l, _, d4, _, rfl, rfl, SqL.of hl, a4, _, _, rfl, rfl, _, rfl, _, _, rfl, rfl, _, 3, rfl, rfl, ?_⟩
          show gName 8 (.int (ns.sum - ns[d4.toNat] + d3 - 3)) _ _ _
          generalize ns.sum - ns[d4.toNat] + d3 - 3 = z
          refine ⟨_, rfl, z, 0, rfl, rfl, ?_⟩
          by_cases z0 : 0 ≤ z
          · refine ⟨true, isT z0, iteT ?_⟩
            refine ⟨_, rfl, 10, 9, rfl, rfl, ⟨by decide, by decide, by decide⟩, z, _, rfl, rfl, ?_⟩
            have e9 : (10 : Int) ^ (9 : Int).toNat = 1000000000 := by decide
            rw [e9]
            by_cases z9 : z ≤ 1000000000
            · refine ⟨true, isT z9, iteT ?_⟩
              refine ⟨_, rfl, .ref l, rfl, .int d4, rfl, l, _, d4, d4.toNat, rfl, rfl, hl, i4, ?_⟩
              refine ⟨.ref l, rfl, q _ l (ns.set d4.toNat z) (sbi.off nlH) (hpi.off lp lc) nlH lp ?_ ⟨?_, ?_, ?_⟩⟩
              · rw [upd_same, List.map_set]
              · intro e
                exact hl0.2 (by simpa using e)
              · rw [List.length_set]
                exact hl0.1
              · intro x hx
                rcases List.mem_or_eq_of_mem_set hx with h | h
                · exact hb x h
                · omega
            · exact ⟨false, isF z9, iteF ⟨.ref l, rfl, q _ l ns sbi hpi nlH lp hl dr⟩⟩
          · exact ⟨false, isF z0, iteF (iteF ⟨.ref l, rfl, q _ l ns sbi hpi nlH lp hl dr⟩)⟩
        · exact ⟨.ref l, rfl, q _ l ns sbi hpi nlH lp hl dr⟩
    refine ⟨.ref p, rfl, p, 100, c, cs, rfl, by decide, by decide, hp, fun H1 d1 sb1 hp1 d10 d11 => ⟨1, d1, rfl, rfl, ?_⟩⟩
    refine ⟨.ref p, rfl, p, 2, c, cs, rfl, by decide, by decide, hp1, fun H2 d2 sb2 hp2 d20 d21 => ⟨rfl, _, rfl, ite2 (fun _ => ?_) (fun _ => ?_)⟩⟩
    · refine ⟨_, rfl, 1 + d1, 6, rfl, rfl, pos3 (by decide), 1, _, rfl, rfl, ?_⟩
      exact ⟨_, rfl, by omega, by omega, sb1.trans sb2, hp2, rfl⟩
    · exact ⟨_, rfl, by omega, by omega, sb1.trans sb2, hp2, rfl⟩
end
end K48

namespace K48
open PySem PySem.Spec PyProof.Rows L2
theorem ne_atV (b : Nat) (av : Option Nat) : scal (.int b) (atV av) = true := by cases av <;> rfl
theorem atV_eq {b : Nat} {av : Option Nat} : V.int b = atV av ↔ av = some b := by
  cases av with
  | none =>
    refine ⟨fun h => ?_, fun h => by cases h⟩
    have h2 : V.int b = V.non := h
    cases h2
  | some i =>
    constructor
    · intro h
      have e : (b : Int) = i := V.int.inj h
      rw [show b = i by omega]
    · intro h
      cases h
      rfl
theorem seq_get {ns : List Int} {i : Nat} {x : Int} (h : ns[i]? = some x) : atI (ns.map V.int) (i : Int) = some (.int x) := atI_nat (by rw [List.getElem?_map, h]; rfl)
/-- what the walks over the first writes take -/
structure Kept (ns : List Int) (av : Option Nat) : Prop where
  ne : ns ≠ []
  len : ns.length ≤ 100
  lo : LL.Pos0 ns
  hi : ∀ x ∈ ns, x ≤ 1000000000
  ix : ∀ i, av = some i → i < ns.length
theorem sum_le : ∀ {ns : List Int}, (∀ x ∈ ns, x ≤ 1000000000) → ns.sum ≤ 1000000000 * ns.length
  | [], _ => by simp
  | x :: r, h => by
    have h1 := h x (List.mem_cons_self ..)
    have h2 := sum_le (ns := r) fun z hz => h z (List.mem_cons_of_mem _ hz)
    rw [List.sum_cons, List.length_cons]
    omega
section
variable {P : Program} {w : World} {K : PySem.W.Frag} {mg : Str → Option Value} {base : Heap}
/-! ### _law_longest -/
def spLo (K : PySem.W.Frag) : Sp := fun vs H Q _ => ∃ (a : Addr) (ns : List Int) (av : Option Nat), vs = [.ref a, atV av] ∧ H a = some (.lst (ns.map V.int)) ∧ Rooms ns av ∧ ∀ H', Same H H' → Q (.int (LL.lone ns av)) H'
/-- the best so far, of the blocks below k -/
def BestOf (rs : List Int) (lv : Option Nat) (k : Nat) : Option Nat → Prop
  | none => ∀ c y, c < k → ¬ LL.Adm rs lv c y
  | some b => b < k ∧ ∃ x, LL.Adm rs lv b x ∧ ∀ c y, c < k → LL.Adm rs lv c y → y ≤ x
theorem ok_lo {f : Addr} {fd : FuncData} (F : Fun K "_law_longest" "_law_longest" sLo f fd) (mL : mg "list" = none) (mr : mg "range" = none) (ms : mg "sum" = none) (ml : mg "len" = none) : FnOk P w K mg base CX0 1 f fd ["_law_rooms", "_law_at"] (spLo K) := by
  refine F.ok scLo (fun vs H Q E h => ?_) (fun cdv A outer s H vs Q E hr h => ?_)
  · obtain ⟨a, ns, av, rfl, _⟩ := h
    rfl
  · obtain ⟨a, ns, av, rfl, ha, R, q⟩ := h
    have hS : SqL K H a (ns.map V.int) := SqL.of ha
    have hs0 := LL.sum_nonneg R.lo
    have hs1 := sum_le R.hi
    have hl100 := R.len
    refine ⟨_, pss_cons (ps_set (i := 2) scLo.nd rfl (.inl rfl) (pe_callTy call_list_of (by rfl) mL PyProof.Rows.boot_list (pa_cons (pv 0) pa_nil)))
      (pss_cons (ps_set (i := 3) scLo.nd rfl (.inl rfl) (pv 1))
      (pss_cons (ps_set (i := 4) scLo.nd rfl (.inl rfl) pe_int)
      (pss_cons (ps_for PassesOwn.never rfl (pi_range1 (by rfl) mr (pa_cons (pe_callB (cr_sum rfl) (by rfl) ms PyProof.Rows.boot_sum (pa_cons (pv 0) pa_nil)) pa_nil)) (pg_name (i := 5) scLo.nd rfl (.inl rfl))
        (pss_cons (ps_set (i := 6) scLo.nd rfl (.inl rfl) pe_non)
        (pss_cons (ps_for PassesOwn.never rfl (pi_range1 (by rfl) mr (pa_cons (pe_callB call_len_seq (by rfl) ml PySem.boot_len (pa_cons (pv 2) pa_nil)) pa_nil)) (pg_name (i := 7) scLo.nd rfl (.inl rfl))
          (pss_one (ps_if (PW.pt (pw_and (pt_cmpR op_ne (pv 7) (pv 3) (nomark _)) (pw_and (pt_cmpR op_gt (pe_ix ix_list (pv 2) (pv 7) (fun _ _ => rfl)) pe_int (nomark _))
              (pw_and1 (PW.pt (pw_or (pt_cmp (pc_isN (pv 6))) (pw_or1 (pt_cmpR op_gt (pe_ix ix_list (pv 2) (pv 7) (fun _ _ => rfl)) (pe_ix ix_list (pv 2) (pv 6) (fun _ _ => rfl)) (nomark _)))))))))
            (pss_one (ps_set (i := 6) scLo.nd rfl (.inl rfl) (pv 7))) pss_nil)))
        (pss_cons (ps_if (pt_cmp (pc_isN (pv 6))) (pss_one (ps_ret (pv 4))) pss_nil)
        (pss_cons (ps_asg (pe_op op_sub (pe_ix ix_list (pv 2) (pv 6) (fun _ _ => rfl)) pe_int) (pg_sub (pv 2) (pv 6) set_list))
        (pss_cons (ps_set (i := 3) scLo.nd rfl (.inl rfl) (pv 6))
        (pss_one (ps_set (i := 4) scLo.nd rfl (.inl rfl) (pe_op op_add (pv 4) pe_int)))))))))
      (pss_one (ps_ret (pv 4)))))), ?_⟩
    refine ⟨.ref a, rfl, a, _, rfl, .inl hS, fun l nl => ?_⟩
    have sm1 : Same H (upd H l (.lst (ns.map V.int))) := same_upd nl
    refine ⟨atV av, rfl, ?_⟩
    refine ⟨.ref a, rfl, a, ns, rfl, sm1.seq hS, ns.sum, rfl, by omega, by omega, for_range (fun i σ Hi => ∃ rs lv y5 y6 y7, σ = [some (.ref a), some (atV av), some (.ref l), some (atV lv), some (.int i), y5, y6, y7] ∧ rs.length = ns.length ∧ LL.Pos0 rs ∧ rs.sum = ns.sum - i ∧ (i : Int) + LL.lone rs lv = LL.lone ns av ∧
        Hi l = some (.lst (rs.map V.int)) ∧ Same H Hi) ⟨ns, av, none, none, none, rfl, rfl, R.lo, by simp, by simp, upd_same, sm1⟩ (fun i σ Hi hi hP => ?_) (fun σ Hi hP => ?_)⟩
    · obtain ⟨rs, lv, y5, y6, y7, rfl, hlen, hpos, hsum, hlone, hl, smi⟩ := hP
      have rne : rs ≠ [] := fun e => R.ne (List.length_eq_zero_iff.mp (by rw [← hlen, e]; rfl))
      have hL : SqL K Hi l (rs.map V.int) := SqL.of hl
      -- the best of all
      refine ⟨.ref l, rfl, l, _, rfl, .inl hL, _, rfl, by rw [List.length_map]; omega, by rw [List.length_map]; omega, for_range (fun k σ Hk => Hk = Hi ∧ ∃ bv y7, σ = [some (.ref a), some (atV av), some (.ref l), some (atV lv), some (.int i), some (.int (0 + i)), some (atV bv), y7] ∧ BestOf rs lv k bv)
        ⟨rfl, none, y7, rfl, fun c y hc => by omega⟩ (fun k σ Hk hk hP => ?_) (fun σ Hk hP => ?_)⟩
      · obtain ⟨rfl, bv, y7, rfl, hB⟩ := hP
        have hkl : k < rs.length := by
          rw [List.length_map] at hk
          omega
        have hx : rs[k]? = some rs[k] := List.getElem?_eq_getElem hkl
        have ax : atI (rs.map V.int) (0 + (k : Int)) = some (.int rs[k]) := by
          rw [Int.zero_add]
          exact seq_get hx
        -- a block that is not admissible
        have skip : (¬ ∃ y, LL.Adm rs lv k y) → BestOf rs lv (k + 1) bv := fun no => by
          cases bv with
          | none =>
            intro c y hc hy
            by_cases e : c = k
            · subst e
              exact no ⟨y, hy⟩
            · exact hB c y (by omega) hy
          | some b =>
            obtain ⟨h1, x, h2, h3⟩ := hB
            refine ⟨by omega, x, h2, fun c y hc hy => ?_⟩
            by_cases e : c = k
            · subst e
              exact absurd ⟨y, hy⟩ no
            · exact h3 c y (by omega) hy
        refine ⟨.int (0 + k), rfl, atV lv, rfl, by rw [Int.zero_add]; exact ne_atV k lv, ?_⟩
        by_cases c1 : lv = some k
        · refine ⟨false, by rw [Int.zero_add, decide_eq_true (atV_eq.mpr c1)]; rfl, iteF (iteF ?_)⟩
          exact ⟨rfl, bv, _, rfl, skip fun ⟨y, hy⟩ => hy.2.1 c1⟩
        · refine ⟨true, by rw [Int.zero_add, decide_eq_false (fun e => c1 (atV_eq.mp e))]; rfl, iteT ?_⟩
          refine ⟨.ref l, rfl, _, rfl, l, _, _, _, rfl, rfl, hL, ax, rs[k], 0, rfl, rfl, ?_⟩
          by_cases c2 : 0 < rs[k]
          · have adm : LL.Adm rs lv k rs[k] := ⟨hx, c1, c2⟩
            have uniq : ∀ y, LL.Adm rs lv k y → y = rs[k] := fun y hy => by
              have := hy.1
              rw [hx] at this
              exact (Option.some.inj this).symm
            refine ⟨true, isT c2, iteT ?_⟩
            cases bv with
            | none =>
              refine ⟨.non, rfl, true, rfl, iteT (iteT ?_)⟩
              refine ⟨_, rfl, rfl, some k, some (.int (0 + k)), by rw [Int.zero_add (k : Int)]; rfl, by omega, rs[k], adm, fun c y hc hy => ?_⟩
              by_cases e : c = k
              · subst e
                exact Int.le_of_eq (uniq y hy)
              · exact absurd hy (hB c y (by omega))
            | some b =>
              obtain ⟨h1, x, h2, h3⟩ := hB
              refine ⟨.int b, rfl, false, rfl, iteF ?_⟩
              refine ⟨.ref l, rfl, _, rfl, l, _, _, _, rfl, rfl, hL, ax, .ref l, rfl, .int b, rfl, l, _, _, _, rfl, rfl, hL, seq_get h2.1, rs[k], x, rfl, rfl, ?_⟩
              by_cases c3 : x < rs[k]
              · refine ⟨true, isT c3, iteT ?_⟩
                refine ⟨_, rfl, rfl, some k, some (.int (0 + k)), by rw [Int.zero_add (k : Int)]; rfl, by omega, rs[k], adm, fun c y hc hy => ?_⟩
                by_cases e : c = k
                · subst e
                  exact Int.le_of_eq (uniq y hy)
                · have := h3 c y (by omega) hy
                  omega
              · refine ⟨false, isF c3, iteF ?_⟩
                refine ⟨rfl, some b, _, rfl, by omega, x, h2, fun c y hc hy => ?_⟩
                by_cases e : c = k
                · subst e
                  have := uniq y hy
                  omega
                · exact h3 c y (by omega) hy
          · refine ⟨false, isF c2, iteF (iteF ?_)⟩
            refine ⟨rfl, bv, _, rfl, skip fun ⟨y, hy⟩ => ?_⟩
            have h4 := hy.1
            rw [hx] at h4
            have h5 : rs[k] = y := Option.some.inj h4
            have := hy.2.2
            omega
      · obtain ⟨rfl, bv, y7, rfl, hB⟩ := hP
        rw [List.length_map] at hB
        have hB : BestOf rs lv rs.length bv := by simpa using hB
        cases bv with
        | none =>
          refine ⟨.non, rfl, true, rfl, iteT ⟨.int i, rfl, ?_⟩⟩
          have e := LL.step_none hpos rne fun c y hy => hB c y (List.getElem?_eq_some_iff.mp hy.1).1 hy
          rw [e] at hlone
          rw [show (i : Int) = LL.lone ns av by omega]
          exact q Hk smi
        | some b =>
          obtain ⟨h1, x, h2, h3⟩ := hB
          refine ⟨.int b, rfl, false, rfl, iteF ?_⟩
          have ib : ixN (rs.map V.int).length (b : Int) = some b := by
            unfold ixN
            rw [List.length_map, if_pos (by omega), if_pos (by omega)]
            simp
          refine ⟨.ref l, rfl, .int b, rfl, l, _, _, _, rfl, rfl, hL, seq_get h2.1, x, 1, rfl, rfl, .ref l, rfl, .int b, rfl, l, _, b, b, rfl, rfl, hl, ib, ?_⟩
          refine ⟨.int b, rfl, .int i, rfl, i, 1, rfl, rfl, ?_⟩
          have e := LL.step_ge hpos h2 fun c y hy => h3 c y (List.getElem?_eq_some_iff.mp hy.1).1 hy
          refine ⟨rs.set b (x - 1), some b, _, _, _, rfl, by rw [List.length_set]; exact hlen, LL.pos_set hpos (by have := h2.2.2; omega), ?_, ?_, ?_, ?_⟩
          · rw [LL.sum_set h2.1, hsum]
            omega
          · omega
          · rw [upd_same, List.map_set]
          · intro b' o e'
            rw [upd_ne (ne_of_none e' nl)]
            exact smi b' o e'
    · obtain ⟨rs, lv, y5, y6, y7, rfl, hlen, hpos, hsum, hlone, hl, smi⟩ := hP
      have rne : rs ≠ [] := fun e => R.ne (List.length_eq_zero_iff.mp (by rw [← hlen, e]; rfl))
      have h0 := LL.lone_nonneg (av := lv) hpos rne
      have h1 := LL.lone_sum (ns := rs) (av := lv)
      refine ⟨_, rfl, ?_⟩
      have e : ((ns.sum.toNat : Nat) : Int) = LL.lone ns av := by omega
      rw [e]
      exact q Hi smi
end
end K48

namespace K48
open PySem PySem.Spec PyProof.Rows L2
theorem cut_take (xs : List V) (b : Nat) (h : b ≤ xs.length) : cutV xs none (some (b : Int)) = xs.take b := by
  unfold cutV
  rw [HT.sIx_none, show HT.sIx xs.length xs.length (some (b : Int)) = min b xs.length from HT.sIx_nat xs.length xs.length b, Nat.min_eq_left h]
  rfl
theorem cut_drop (xs : List V) (b : Nat) (h : b ≤ xs.length) : cutV xs (some (b : Int)) none = xs.drop b := by
  unfold cutV
  rw [show HT.sIx xs.length 0 (some (b : Int)) = min b xs.length from HT.sIx_nat xs.length 0 b, HT.sIx_none, Nat.min_eq_left h]
  apply List.take_of_length_le
  rw [List.length_drop]
  exact Nat.le_refl _
theorem less_is {ns : List Int} {b : Nat} {x : Int} (h : b < ns.length) : (ns.map V.int).take b ++ [V.int x] ++ (ns.map V.int).drop (b + 1) = (ns.set b x).map V.int := by
  rw [List.set_eq_take_append_cons_drop, if_pos h, List.map_append, List.map_cons, List.map_take, List.map_drop, List.append_assoc]
  rfl
section
variable {P : Program} {w : World} {K : PySem.W.Frag} {mg : Str → Option Value} {base : Heap}
/-! ### _law_best_first -/
theorem ok_bf {f g : Addr} {fd gd : FuncData} (F : Fun K "_law_best_first" "_law_best_first" sBF f fd) (G : FnOk P w K mg base CX0 3 g gd ["rooms", "at"] spLL) (kG : PySem.W.keepIn K (.ref g) = true) (bG : Binds K gd ["rooms", "at"] []) (mG : mg "lone_life" = some (.ref g))
    (mi : mg "isinstance" = none) (mI : mg "int" = none) (mB : mg "bool" = none) (mr : mg "range" = none) (mM : mg "max" = none) (ml : mg "len" = none) : FnOk P w K mg base CX0 4 f fd ["_law_rooms", "_law_at"] (spLo K) := by
  refine F.ok scBF (fun vs H Q E h => ?_) (fun cdv A outer s H vs Q E hr h => ?_)
  · obtain ⟨a, ns, av, rfl, _⟩ := h
    rfl
  · obtain ⟨a, ns, av, rfl, ha, R, q⟩ := h
    have hS : SqL K H a (ns.map V.int) := SqL.of ha
    have hl100 := R.len
    refine ⟨_, pss_cons (ps_set (i := 2) scBF.nd rfl (.inl rfl) pe_int)
      (pss_cons (ps_for PassesOwn.never rfl (pi_range1 (by rfl) mr (pa_cons (pe_callB call_len_seq (by rfl) ml PySem.boot_len (pa_cons (pv 0) pa_nil)) pa_nil)) (pg_name (i := 3) scBF.nd rfl (.inl rfl))
        (pss_one (ps_if (PW.pt (pw_and (pt_cmpR op_ne (pv 3) (pv 1) (nomark _)) (pw_and1 (pt_cmpR op_gt (pe_ix ix_list (pv 0) (pv 3) (fun _ _ => rfl)) pe_int (nomark _)))))
          (pss_cons (ps_set (i := 4) scBF.nd rfl (.inl rfl) (pe_op op_cat (pe_op op_cat (pe_slice sl_list (pv 0) po_none (po_some (pv 3))) (pe_lst (pa_cons (pe_op op_sub (pe_ix ix_list (pv 0) (pv 3) (fun _ _ => rfl)) pe_int) pa_nil)))
              (pe_slice sl_list (pv 0) (po_some (pe_op op_add (pv 3) pe_int)) po_none)))
          (pss_cons (ps_set (i := 5) scBF.nd rfl (.inl rfl) (pe_call G hr (by rfl) mG kG bG .nil pass0 (pa_cons (pv 4) (pa_cons (pv 3) pa_nil))))
          (pss_cons (ps_if (PW.pt (pw_or (pt_not (pt_val (pe_callB call_isi (by rfl) mi PyProof.Rows.boot_isinstance (pa_cons (pv 5) (pa_cons (pe_bltn (v := .ty "int") (by rfl) mI PyProof.Rows.boot_int rfl) pa_nil)))))
              (pw_or1 (pt_val (pe_callB call_isi (by rfl) mi PyProof.Rows.boot_isinstance (pa_cons (pv 5) (pa_cons (pe_bltn (v := .ty "bool") (by rfl) mB PyProof.Rows.boot_bool rfl) pa_nil))))))) pss_never pss_nil)
          (pss_one (ps_set (i := 2) scBF.nd rfl (.inl rfl) (pe_callB (call_max2 rfl) (by rfl) mM PyProof.Rows.boot_max (pa_cons (pv 2) (pa_cons (pe_op op_add pe_int (pv 5)) pa_nil)))))))) pss_nil)))
      (pss_one (ps_ret (pv 2)))), ?_⟩
    refine ⟨.ref a, rfl, a, _, rfl, .inl hS, _, rfl, by rw [List.length_map]; omega, by rw [List.length_map]; omega, for_range (fun k σ Hk => ∃ v y3 y4 y5, σ = [some (.ref a), some (atV av), some (.int v), y3, y4, y5] ∧ 0 ≤ v ∧ v ≤ LL.lone ns av ∧ (∀ b x, b < k → LL.Adm ns av b x → 1 + LL.lone (ns.set b (x - 1)) (some b) ≤ v) ∧ Same H Hk)
      ⟨0, none, none, none, rfl, Int.le_refl _, LL.lone_nonneg R.lo R.ne, fun b x hb => by omega, Same.refl H⟩ (fun k σ Hk hk hP => ?_) (fun σ Hk hP => ?_)⟩
    · obtain ⟨v, y3, y4, y5, rfl, v0, v1, hv, sm⟩ := hP
      have hkl : k < ns.length := by
        rw [List.length_map] at hk
        omega
      have hx : ns[k]? = some ns[k] := List.getElem?_eq_getElem hkl
      have hS2 : SqL K Hk a (ns.map V.int) := sm.seq hS
      have ax : atI (ns.map V.int) (0 + (k : Int)) = some (.int ns[k]) := by
        rw [Int.zero_add]
        exact seq_get hx
      have skip : (¬ ∃ y, LL.Adm ns av k y) → ∀ b x, b < k + 1 → LL.Adm ns av b x → 1 + LL.lone (ns.set b (x - 1)) (some b) ≤ v := fun no b x hb hA => by
        by_cases e : b = k
        · subst e
          exact absurd ⟨x, hA⟩ no
        · exact hv b x (by omega) hA
      refine ⟨.int (0 + k), rfl, atV av, rfl, by rw [Int.zero_add]; exact ne_atV k av, ?_⟩
      by_cases c1 : av = some k
      · refine ⟨false, by rw [Int.zero_add, decide_eq_true (atV_eq.mpr c1)]; rfl, iteF (iteF ?_)⟩
        exact ⟨v, _, y4, y5, rfl, v0, v1, skip fun ⟨y, hy⟩ => hy.2.1 c1, sm⟩
      · refine ⟨true, by rw [Int.zero_add, decide_eq_false (fun e => c1 (atV_eq.mp e))]; rfl, iteT ?_⟩
        refine ⟨.ref a, rfl, _, rfl, a, _, _, _, rfl, rfl, hS2, ax, ns[k], 0, rfl, rfl, ?_⟩
        by_cases c2 : 0 < ns[k]
        · have adm : LL.Adm ns av k ns[k] := ⟨hx, c1, c2⟩
          refine ⟨true, isT c2, iteT ?_⟩
          -- less
          have szn : (ns.map V.int).length < sizeLine := by
            rw [List.length_map]
            exact small1000 (by omega)
          refine ⟨.ref a, rfl, .int (0 + k), rfl, _, rfl, a, _, rfl, hS2, fun l1 n1 => ?_⟩
          have s1 := sm.trans (same_upd (o := .lst (cutV (ns.map V.int) none (some (0 + (k : Int))))) n1)
          refine ⟨.ref a, rfl, _, rfl, a, _, _, _, rfl, rfl, s1.seq hS, ax, ns[k], 1, rfl, rfl, show 1 ≤ sizeLine by decide, fun l2 n2 => ?_⟩
          have s2 := s1.trans (same_upd (o := .lst [.int (ns[k] - 1)]) n2)
          have e12 : l1 ≠ l2 := ne_of_none upd_same n2
          refine ⟨l1, l2, _, _, rfl, rfl, by rw [upd_ne e12, upd_same], upd_same, ?_, fun l3 n3 => ?_⟩
          · have := cutV_length (ns.map V.int) none (some (0 + (k : Int)))
            simp only [List.length_singleton]
            omega
          have s3 := s2.trans (same_upd (o := .lst (cutV (ns.map V.int) none (some (0 + (k : Int))) ++ [.int (ns[k] - 1)])) n3)
          refine ⟨.ref a, rfl, .int (0 + k), rfl, _, 1, rfl, rfl, _, rfl, a, _, rfl, s3.seq hS, fun l4 n4 => ?_⟩
          have s4 := s3.trans (same_upd (o := .lst (cutV (ns.map V.int) (some (0 + (k : Int) + 1)) none)) n4)
          have e34 : l3 ≠ l4 := ne_of_none upd_same n4
          have e1 : cutV (ns.map V.int) none (some (0 + (k : Int))) = (ns.map V.int).take k := by
            rw [Int.zero_add]
            exact cut_take _ k (by rw [List.length_map]; omega)
          have e2 : cutV (ns.map V.int) (some (0 + (k : Int) + 1)) none = (ns.map V.int).drop (k + 1) := by
            rw [show (0 : Int) + (k : Int) + 1 = ((k + 1 : Nat) : Int) by omega]
            exact cut_drop _ (k + 1) (by rw [List.length_map]; omega)
          refine ⟨l3, l4, _, _, rfl, rfl, by rw [upd_ne e34, upd_same], upd_same, ?_, fun l5 n5 => ?_⟩
          · rw [e1, e2, List.length_append, List.length_take, List.length_drop, List.length_singleton, List.length_map]
            exact Nat.le_of_lt (small1000 (by omega))
          have s5 := s4.trans (same_upd (o := .lst (cutV (ns.map V.int) none (some (0 + (k : Int))) ++ [.int (ns[k] - 1)] ++ cutV (ns.map V.int) (some (0 + (k : Int) + 1)) none)) n5)
          have hR : Rooms (ns.set k (ns[k] - 1)) (some k) := by
            refine ⟨fun e => R.ne (by simpa using e), by rw [List.length_set]; exact R.len, LL.pos_set R.lo (by omega), fun x h => ?_, fun i e => by cases e; rw [List.length_set]; exact hkl⟩
            have hk9 := R.hi ns[k] (List.mem_of_getElem? hx)
            rcases List.mem_or_eq_of_mem_set h with h | h
            · exact R.hi x h
            · omega
          -- span
          refine ⟨.ref l5, rfl, .int (0 + k), rfl, l5, ns.set k (ns[k] - 1), some k, by rw [Int.zero_add]; rfl, by rw [upd_same, e1, e2, less_is hkl], hR, ?_⟩
          have le := LL.step_le R.lo adm
          have sp0 := LL.lone_nonneg (av := some k) hR.lo hR.ne
          generalize hsp : LL.lone (ns.set k (ns[k] - 1)) (some k) = sp at le sp0
          refine ⟨.int sp, rfl, .int sp, .ty "int", .type "int", .type "int", true, rfl, .ty "int", .base (.int sp), kit_ty (by decide +kernel), true, rfl, iteF ?_⟩
          refine ⟨.int sp, rfl, .int sp, .ty "bool", .type "int", .type "bool", false, rfl, .ty "bool", .base (.int sp), kit_ty (by decide +kernel), false, rfl, iteF ?_⟩
          refine ⟨.int v, rfl, .int sp, rfl, 1, sp, rfl, rfl, v, 1 + sp, rfl, ?_⟩
          refine ⟨_, _, _, _, rfl, ?_, ?_, fun b x hb hA => ?_, s5⟩
          · split <;> omega
          · split <;> omega
          · by_cases e : b = k
            · subst e
              have := hA.1
              rw [hx] at this
              have e3 : ns[b] = x := Option.some.inj this
              rw [← e3, hsp]
              split <;> omega
            · have := hv b x (by omega) hA
              split <;> omega
        · refine ⟨false, isF c2, iteF ?_⟩
          refine ⟨v, _, y4, y5, rfl, v0, v1, skip fun ⟨y, hy⟩ => ?_, sm⟩
          have h4 := hy.1
          rw [hx] at h4
          have h5 : ns[k] = y := Option.some.inj h4
          have := hy.2.2
          omega
    · obtain ⟨v, y3, y4, y5, rfl, v0, v1, hv, sm⟩ := hP
      have e : v = LL.lone ns av := LL.best_is R.lo R.ne v0 v1 fun b x hA => hv b x (by
        have := (List.getElem?_eq_some_iff.mp hA.1).1
        rw [List.length_map]
        simpa using this) hA
      refine ⟨_, rfl, ?_⟩
      rw [e]
      exact q Hk sm
end
end K48

namespace K48
open PySem PySem.Spec PyProof.Rows L2
theorem first_at : ∀ {rs : List Int} {m : Int}, m ∈ rs → ∃ j : Nat, rs[j]? = some m ∧ ∀ (i : Nat) (x : Int), i < j → rs[i]? = some x → x ≠ m
  | [], _, h => by cases h
  | z :: r, m, h => by
    by_cases e : z = m
    · exact ⟨0, by simp [e], fun i x hi => by omega⟩
    · have hr : m ∈ r := by
        rcases List.mem_cons.mp h with h | h
        · exact absurd h.symm e
        · exact h
      obtain ⟨j, h1, h2⟩ := first_at hr
      refine ⟨j + 1, by simpa using h1, fun i x hi hx => ?_⟩
      cases i with
      | zero =>
        have e2 : z = x := by simpa using hx
        rw [← e2]
        exact e
      | succ i => exact h2 i x (by omega) (by simpa using hx)
theorem flat_ints (rs : List Int) : (rs.map V.int).all flatV = true := by
  rw [List.all_map]
  exact List.all_eq_true.mpr fun _ _ => rfl
section
variable {P : Program} {w : World} {K : PySem.W.Frag} {mg : Str → Option Value} {base : Heap}
/-! ### the law -/
def spLaw (K : PySem.W.Frag) : Sp := fun vs H Q _ => ∃ (a : Addr) (ns : List Int), vs = [.ref a] ∧ SqL K H a (ns.map V.int) ∧ ns.length ≤ 63 ∧ ∀ H', Q (.bl true) H'
theorem ok_law {f gd ggr gll gil glo gbf : Addr} {fd fdd fdg fdl fdi fdo fdb : FuncData} (F : Fun K "law" "law" sLaw f fd)
    (GD : FnOk P w K mg base CX0 1 gd fdd ["_law_pool", "_law_many"] spD) (kD : PySem.W.keepIn K (.ref gd) = true) (bD : Binds K fdd ["_law_pool", "_law_many"] []) (mD : mg "_law_digit" = some (.ref gd))
    (GG : FnOk P w K mg base CX0 3 ggr fdg ["_law_pool"] spG) (kGr : PySem.W.keepIn K (.ref ggr) = true) (bGr : Binds K fdg ["_law_pool"] []) (mGr : mg "_law_great" = some (.ref ggr))
    (GL : FnOk P w K mg base CX0 3 gll fdl ["rooms", "at"] spLL) (kL : PySem.W.keepIn K (.ref gll) = true) (bL : Binds K fdl ["rooms", "at"] []) (mLL : mg "lone_life" = some (.ref gll))
    (GI : FnOk P w K mg base CX0 1 gil fdi ["_law_found", "_law_due"] spIL) (kI : PySem.W.keepIn K (.ref gil) = true) (bI : Binds K fdi ["_law_found", "_law_due"] []) (mIL : mg "_law_is_life" = some (.ref gil))
    (GO : FnOk P w K mg base CX0 1 glo fdo ["_law_rooms", "_law_at"] (spLo K)) (kO : PySem.W.keepIn K (.ref glo) = true) (bO : Binds K fdo ["_law_rooms", "_law_at"] []) (mLo : mg "_law_longest" = some (.ref glo))
    (GB : FnOk P w K mg base CX0 4 gbf fdb ["_law_rooms", "_law_at"] (spLo K)) (kB : PySem.W.keepIn K (.ref gbf) = true) (bB : Binds K fdb ["_law_rooms", "_law_at"] []) (mBF : mg "_law_best_first" = some (.ref gbf))
    (mL : mg "list" = none) (mr : mg "range" = none) (ml : mg "len" = none) (mM : mg "max" = none) (ms : mg "sum" = none) : FnOk P w K mg base CX0 5 f fd ["_law_script"] (spLaw K) := by
  refine F.ok scLaw (fun vs H Q E h => ?_) (fun cdv A outer s H vs Q E hr h => ?_)
  · obtain ⟨a, ns, rfl, _⟩ := h
    rfl
  · obtain ⟨a, ns, rfl, hS, hlen, q⟩ := h
    have hr1 := hr.mono (show 1 ≤ 4 by decide)
    have hr3 := hr.mono (show 3 ≤ 4 by decide)
    refine ⟨_, pss_cons (ps_set (i := 1) scLaw.nd rfl (.inr rfl) (pe_lst (pa_cons (pe_callTy call_list_of (by rfl) mL PyProof.Rows.boot_list (pa_cons (pv 0) pa_nil)) (pa_cons pe_int (pa_cons pe_int pa_nil)))))
      (pss_cons (ps_set (i := 2) scLaw.nd rfl (.inl rfl) (pe_cmpR op_eq (pe_call GD hr1 (by rfl) mD kD bD .nil pass0 (pa_cons (pv 1) (pa_cons pe_int pa_nil))) pe_int (nomark _)))
      (pss_cons (ps_set (i := 3) scLaw.nd rfl (.inl rfl) (pe_call GD hr1 (by rfl) mD kD bD .nil pass0 (pa_cons (pv 1) (pa_cons pe_int pa_nil))))
      (pss_cons (ps_if (pt_val (pv 2))
        (pss_cons (ps_set (i := 4) scLaw.nd rfl (.inl rfl) (pe_op op_add pe_int (pe_call GD hr1 (by rfl) mD kD bD .nil pass0 (pa_cons (pv 1) (pa_cons pe_int pa_nil)))))
        (pss_one (ps_setLc (i := 5) (own := [("_law_k", 11)]) (g := gName 11) (tt := tYes) rfl scLaw.nd rfl rfl (sw_true rfl rfl rfl (by decide +kernel)) (pi_range1 (by rfl) mr (pa_cons (pv 4) pa_nil))
          (blkOk_by (N := ["_law_script", "_law_pool", "_law_small", "_law_where", "_law_many", "_law_rooms", "_law_at", "_law_kept", "_law_found", "_law_rest", "_law_due", "_law_k"]) (sc := defScope sLaw) (by decide +kernel))
          (fun _ _ _ _ _ => pg_name (i := 11) scLaw.nd rfl (.inl rfl)) (fun _ _ _ _ _ => pts_nil) (fun _ _ _ _ _ => pe_call GD hr1 (by rfl) mD kD bD .nil pass0 (pa_cons (pv 1) (pa_cons pe_int pa_nil))))))
        (pss_one (ps_set (i := 5) scLaw.nd rfl (.inl rfl) (pe_call GG hr3 (by rfl) mGr kGr bGr .nil pass0 (pa_cons (pv 1) pa_nil)))))
      (pss_by (t' := fun D σ H' => (∃ (p c : Addr) (cs : List Int) (b : Bool) (wh : Int) (y4 : Option V) (l : Addr) (rs : List Int), σ = [some (.ref a), some (.ref p), some (.bl b), some (.int wh), y4, some (.ref l), none, none, none, none, none, none] ∧ Pool H' p c cs ∧ H' l = some (.lst (rs.map V.int)) ∧ l ≠ p ∧ Drawn rs) ∧ ∀ H'', D.rt (.bl true) H'')
      (pss_cons (ps_set (i := 6) scLaw.nd rfl (.inl rfl) pe_non)
      (pss_cons (ps_if (pt_cmpR op_eq (pv 3) pe_int (nomark _))
        (pss_one (ps_set (i := 6) scLaw.nd rfl (.inl rfl) (pe_call GD hr1 (by rfl) mD kD bD .nil pass0 (pa_cons (pv 1) (pa_cons (pe_callB call_len_seq (by rfl) ml PySem.boot_len (pa_cons (pv 5) pa_nil)) pa_nil)))))
        (pss_one (ps_if (pt_cmpR op_gt (pv 3) pe_int (nomark _))
          (pss_one (ps_set (i := 6) scLaw.nd rfl (.inl rfl) (pe_bm PySem.F.plainAttrs_list PySem.F.slot_list_index PySem.F.type_list_index mt_index (pv 5) (pa_cons (pe_callB (cr_max rfl) (by rfl) mM PyProof.Rows.boot_max (pa_cons (pv 5) pa_nil)) pa_nil)))) pss_nil)))
      (pss_by (t' := fun D σ H' => (∃ (p : Addr) (b : Bool) (wh : Int) (y4 : Option V) (l : Addr) (rs : List Int) (av : Option Nat), σ = [some (.ref a), some (.ref p), some (.bl b), some (.int wh), y4, some (.ref l), some (atV av), none, none, none, none, none] ∧ H' l = some (.lst (rs.map V.int)) ∧ Rooms rs av) ∧ ∀ H'', D.rt (.bl true) H'')
      (pss_cons (ps_set (i := 7) scLaw.nd rfl (.inl rfl) (pe_callTy call_list_of (by rfl) mL PyProof.Rows.boot_list (pa_cons (pv 5) pa_nil)))
      (pss_cons (ps_set (i := 8) scLaw.nd rfl (.inl rfl) (pe_call GL hr3 (by rfl) mLL kL bL .nil pass0 (pa_cons (pv 5) (pa_cons (pv 6) pa_nil))))
      (pss_cons (ps_if (pt_cmpR (op_neD hr.units) (pv 5) (pv 7) (nomark _)) pss_never pss_nil)
      (pss_cons (ps_if (PW.pt (pw_and (pt_val (pv 2)) (pw_and (pt_cmpR op_le (pe_callB call_len_seq (by rfl) ml PySem.boot_len (pa_cons (pv 5) pa_nil)) pe_int (nomark _))
          (pw_and1 (pt_not (pt_val (pe_call GI hr1 (by rfl) mIL kI bI .nil pass0 (pa_cons (pv 8) (pa_cons (pe_call GO hr1 (by rfl) mLo kO bO .nil pass0 (pa_cons (pv 7) (pa_cons (pv 6) pa_nil))) pa_nil))))))))) pss_never pss_nil)
      (pss_by (t' := fun D σ H' => (∃ (p : Addr) (b : Bool) (wh : Int) (y4 : Option V) (l k : Addr) (rs : List Int) (av : Option Nat), σ = [some (.ref a), some (.ref p), some (.bl b), some (.int wh), y4, some (.ref l), some (atV av), some (.ref k), some (.int (LL.lone rs av)), none, none, none] ∧ H' k = some (.lst (rs.map V.int)) ∧ Rooms rs av) ∧ ∀ H'', D.rt (.bl true) H'')
      (pss_cons (ps_set (i := 9) scLaw.nd rfl (.inl rfl) (pe_op op_sub (pe_callB (cr_sum rfl) (by rfl) ms PyProof.Rows.boot_sum (pa_cons (pv 7) pa_nil)) (pe_callB (cr_max rfl) (by rfl) mM PyProof.Rows.boot_max (pa_cons (pv 7) pa_nil))))
      (pss_cons (ps_set (i := 10) scLaw.nd rfl (.inl rfl) (pe_call GB hr (by rfl) mBF kB bB .nil pass0 (pa_cons (pv 7) (pa_cons (pv 6) pa_nil))))
      (pss_cons (ps_if (PW.pt (pw_or (pt_cmp (pc_isN (pv 10))) (pw_or1 (pt_not (pt_val (pe_call GI hr1 (by rfl) mIL kI bI .nil pass0 (pa_cons (pv 8) (pa_cons (pv 10) pa_nil)))))))) pss_never pss_nil)
      (pss_one (ps_ret (pe_and (pe_cmpR op_ge (pv 8) pe_int (nomark _)) (pe_and (pe_cmpR op_le (pv 8) (pe_callB (cr_sum rfl) (by rfl) ms PyProof.Rows.boot_sum (pa_cons (pv 7) pa_nil)) (nomark _))
        (pe_one (pe_cmpR op_le (pv 8) (pe_op op_add (pe_op op_mul pe_int (pv 9)) pe_int) (nomark _))))))))))
      ?last))))) ?mid))) ?rest)))), ?_⟩
    case last =>
      rintro D σ H' ⟨⟨p, b, wh, y4, l, k, rs, av, rfl, hk, R⟩, qD⟩
      have hlen : 0 < rs.length := List.length_pos_iff.mpr R.ne
      refine ⟨.ref k, rfl, k, rs, rfl, SqL.of hk, .ref k, rfl, k, rs, rfl, SqL.of hk, hlen, fun m hm hle => ?_⟩
      have em := LL.gr_is R.lo hm hle
      subst em
      refine ⟨_, _, rfl, rfl, ?_⟩
      -- due
      refine ⟨.ref k, rfl, atV av, rfl, k, rs, av, rfl, hk, R, fun H2 sm => ?_⟩
      have hk2 := sm k _ hk
      refine ⟨_, rfl, false, rfl, iteF ?_⟩
      refine ⟨_, rfl, _, rfl, LL.lone rs av, rfl, true, rfl, iteF ?_⟩
      -- the bounds
      refine ⟨_, rfl, _, 0, rfl, rfl, true, isT (LL.lone_nonneg R.lo R.ne), iteT ?_⟩
      refine ⟨_, rfl, .ref k, rfl, k, rs, rfl, SqL.of hk2, _, _, rfl, rfl, true, isT LL.lone_sum, iteT ?_⟩
      refine ⟨_, rfl, _, rfl, 2, _, rfl, rfl, .inl ⟨by decide, by decide⟩, _, 1, rfl, rfl, _, _, rfl, rfl, ?_⟩
      show D.rt (.bl (decide (LL.lone rs av ≤ 2 * (rs.sum - LL.gr rs) + 1))) H2
      rw [decide_eq_true (LL.lone_rest (ns := rs) (av := av))]
      exact qD _
    case mid =>
      rintro D σ H' ⟨⟨p, b, wh, y4, l, rs, av, rfl, hl, R⟩, qD⟩
      refine ⟨.ref l, rfl, l, _, rfl, .inl (SqL.of hl), fun k nk => ?_⟩
      have hl2 : (upd H' k (.lst (rs.map V.int))) l = some (.lst (rs.map V.int)) := by
        rw [upd_ne (ne_of_none hl nk)]
        exact hl
      have hk2 : (upd H' k (.lst (rs.map V.int))) k = some (.lst (rs.map V.int)) := upd_same
      refine ⟨.ref l, rfl, atV av, rfl, l, rs, av, rfl, hl2, R, ?_⟩
      refine ⟨.ref l, rfl, .ref k, rfl, _, _, .lst (SqL.of hl2) (dp_ints K _ rs), .lst (SqL.of hk2) (dp_ints K _ rs), ints_shaped _, ints_shaped _, false, by rw [ints_same]; rfl, iteF ?_⟩
      refine ⟨.bl b, rfl, b, rfl, ?_⟩
      cases b with
      | false => exact iteF (iteF ⟨⟨p, false, wh, y4, l, k, rs, av, rfl, hk2, R⟩, qD⟩)
      | true =>
        refine iteT ?_
        refine ⟨.ref l, rfl, l, _, rfl, .inl (SqL.of hl2), _, 40, rfl, rfl, ?_⟩
        by_cases h40 : ((rs.map V.int).length : Int) ≤ 40
        · refine ⟨true, isT h40, iteT ?_⟩
          refine ⟨_, rfl, .ref k, rfl, atV av, rfl, k, rs, av, rfl, hk2, R, fun H3 sm => ?_⟩
          refine ⟨_, rfl, true, rfl, iteF ?_⟩
          exact ⟨⟨p, true, wh, y4, l, k, rs, av, rfl, sm k _ hk2, R⟩, qD⟩
        · exact ⟨false, isF h40, iteF (iteF ⟨⟨p, true, wh, y4, l, k, rs, av, rfl, hk2, R⟩, qD⟩)⟩
    case rest =>
      rintro D σ H' ⟨⟨p, c, cs, b, wh, y4, l, rs, rfl, hp, hl, lp, dr⟩, qD⟩
      obtain ⟨dne, dlen, db⟩ := dr
      have R0 : ∀ av, (∀ i, av = some i → i < rs.length) → Rooms rs av := fun av h => ⟨dne, dlen, fun x hx => (db x hx).1, fun x hx => (db x hx).2, h⟩
      have hlen : 0 < rs.length := List.length_pos_iff.mpr dne
      refine ⟨_, rfl, rfl, _, rfl, ite2 (fun _ => ?_) (fun _ => ?_)⟩
      · refine ⟨.ref p, rfl, .ref l, rfl, l, _, rfl, .inl (SqL.of hl), p, _, c, cs, rfl, by rw [List.length_map]; omega, by rw [List.length_map]; omega, hp, fun H1 d sb hp1 d0 d1 => ?_⟩
        rw [List.length_map] at d1
        have e : V.int d = atV (some d.toNat) := congrArg V.int (by omega)
        refine ⟨⟨p, b, wh, y4, l, rs, some d.toNat, by rw [← e]; rfl, sb l _ lp hl, R0 _ fun i hi => by cases hi; omega⟩, qD⟩
      · refine ⟨_, rfl, wh, 1, rfl, rfl, _, rfl, ite2 (fun _ => ?_) (fun _ => ?_)⟩
        · refine ⟨.ref l, rfl, .inl ⟨rfl, _, SqL.of hl⟩, .ref l, rfl, l, rs, rfl, SqL.of hl, hlen, fun m hm hle => ?_⟩
          obtain ⟨j, hj, hfirst⟩ := first_at hm
          refine ⟨l, _, .int m, j, .int m, rfl, rfl, SqL.of hl, rfl, flat_ints rs, map_at hj, by show (m == m) = true; exact beq_self_eq_true m, fun i z hi hz => ?_, ?_⟩
          · rw [List.getElem?_map] at hz
            obtain ⟨x, hx, rfl⟩ := Option.map_eq_some_iff.mp hz
            show (x == m) = false
            exact beq_eq_false_iff_ne.mpr (hfirst i x hi hx)
          · exact ⟨⟨p, b, wh, y4, l, rs, some j, rfl, hl, R0 _ fun i hi => by cases hi; exact (List.getElem?_eq_some_iff.mp hj).1⟩, qD⟩
        · exact ⟨⟨p, b, wh, y4, l, rs, none, rfl, hl, R0 _ fun i hi => by cases hi⟩, qD⟩
    -- the pool
    refine ⟨.ref a, rfl, a, _, rfl, .inl hS, fun c nc => ⟨show 3 ≤ sizeLine by decide, fun p np => ?_⟩⟩
    have cp : c ≠ p := ne_of_none upd_same np
    have hp : Pool (upd (upd H c (.lst (ns.map V.int))) p (.lst [.ref c, .int 0, .int 0])) p c ns := ⟨0, 0, upd_same, Int.le_refl _, by rw [upd_ne cp, upd_same]⟩
    refine ⟨.ref p, rfl, p, 3, c, ns, rfl, by decide, by decide, hp, fun H1 d1 sb1 hp1 d10 d11 => ⟨rfl, ?_⟩⟩
    generalize decide (V.int d1 = V.int 0) = b
    refine ⟨.ref p, rfl, p, 4, c, ns, rfl, by decide, by decide, hp1, fun H2 d2 sb2 hp2 d20 d21 => ?_⟩
    refine ⟨.bl b, rfl, b, rfl, ite2 (fun _ => ?_) (fun _ => ?_)⟩
    · refine ⟨.ref p, rfl, p, 100, c, ns, rfl, by decide, by decide, hp2, fun H3 d3 sb3 hp3 d30 d31 => ⟨1, d3, rfl, rfl, ?_⟩⟩
      refine ⟨.int (1 + d3), rfl, 1 + d3, rfl, by omega, by omega, fun D hD => lc_range (fun i Hi => ∃ rs, rs.length = i ∧ (∀ x ∈ rs, 0 ≤ x ∧ x ≤ 1000000000) ∧ Hi D = some (.lst (rs.map V.int)) ∧ Pool Hi p c ns) ⟨[], rfl, fun x hx => (by cases hx), upd_same, hp3.new hD⟩ (fun i Hi hi hP => ?_) (fun Hi hP => ?_)⟩
      · obtain ⟨rs, hlen, hb, hDi, hpi⟩ := hP
        obtain ⟨Dp, Dc⟩ := hp3.ne hD
        refine ⟨rfl, ?_⟩
        refine ⟨.ref p, rfl, p, 4, c, ns, rfl, by decide, by decide, hpi, fun H' d sb hp' d0 d1 => ⟨_, sb D _ Dp hDi, by rw [List.length_map]; exact small1000 (by omega), ?_⟩⟩
        refine ⟨rs ++ [d], by rw [List.length_append, hlen]; rfl, fun x hx => ?_, by rw [upd_same, List.map_append]; rfl, hp'.off Dp Dc⟩
        rcases List.mem_append.mp hx with h | h
        · exact hb x h
        · cases List.mem_singleton.mp h
          omega
      · obtain ⟨rs, hlen, hb, hDi, hpi⟩ := hP
        obtain ⟨Dp, Dc⟩ := hp3.ne hD
        refine ⟨⟨p, c, ns, b, d2, _, D, rs, rfl, hpi, hDi, Dp, fun e => ?_, by omega, hb⟩, q⟩
        rw [e] at hlen
        have : (0 : Nat) = (1 + d3).toNat := hlen
        omega
    · refine ⟨.ref p, rfl, p, c, ns, rfl, hp2, fun H3 l rs sb3 hp3 nl lp hl dr => ?_⟩
      exact ⟨⟨p, c, ns, b, d2, _, l, rs, rfl, hp3, hl, lp, dr⟩, q⟩
end
end K48

namespace K48
open PySem PySem.Spec PyProof.Rows L2
/-! ### what the top has written; the law's own head -/
theorem all_mk {l : PySem.W.OpenLaw} {w : World} {K : PySem.W.Frag} {h : Heap} {mg : Str → Option Value} {fa : Addr} (X : K.In h) (G : h.Ns mainGlobals mg) (hfa : mg "law" = some (.ref fa))
    {f0 f1 f2 f3 f4 f5 f6 f7 f8 f9 : Addr} {od0 an0 od1 an1 od2 an2 od3 an3 od4 an4 od5 an5 od6 an6 od7 an7 od8 an8 od9 an9 : Option Addr} {sl0 sl1 sl2 sl3 sl4 sl5 sl6 sl7 sl8 sl9 : Array (Option Value)} {oc0 kV0 dc0 pm0 cd0 ct0 oc1 kV1 dc1 pm1 cd1 ct1 oc2 kV2 dc2 pm2 cd2 ct2 oc3 kV3 dc3 pm3 cd3 ct3 oc4 kV4 dc4 pm4 cd4 ct4 oc5 kV5 dc5 pm5 cd5 ct5 oc6 kV6 dc6 pm6 cd6 ct6 oc7 kV7 dc7 pm7 cd7 ct7 oc8 kV8 dc8 pm8 cd8 ct8 oc9 kV9 dc9 pm9 cd9 ct9 : Value} {tA tB : Tok}
    (a0 : PySem.W.nsIn K mainGlobals "is_integer" = some (some (.ref f0))) (l0 : K.lookup f0 = some ⟨oc0, od0, .func (PySem.W.fnOf "is_integer" "is_integer" (defArgs sII) (defBody sII) (defScope sII) .none kV0 dc0 pm0 an0 cd0 ct0), sl0⟩) (c0 : PySem.W.codeIn K cd0 "is_integer" = true) (k0 : PySem.W.keepIn K (.ref f0) = true)
    (a1 : PySem.W.nsIn K mainGlobals "in_range" = some (some (.ref f1))) (l1 : K.lookup f1 = some ⟨oc1, od1, .func (PySem.W.fnOf "in_range" "in_range" (defArgs sIR) (defBody sIR) (defScope sIR) .none kV1 dc1 pm1 an1 cd1 ct1), sl1⟩) (c1 : PySem.W.codeIn K cd1 "in_range" = true) (k1 : PySem.W.keepIn K (.ref f1) = true)
    (a2 : PySem.W.nsIn K mainGlobals "lone_life" = some (some (.ref f2))) (l2 : K.lookup f2 = some ⟨oc2, od2, .func (PySem.W.fnOf "lone_life" "lone_life" (defArgs sLL) (defBody sLL) (defScope sLL) .none kV2 dc2 pm2 an2 cd2 ct2), sl2⟩) (c2 : PySem.W.codeIn K cd2 "lone_life" = true) (k2 : PySem.W.keepIn K (.ref f2) = true)
    (a3 : PySem.W.nsIn K mainGlobals "_law_digit" = some (some (.ref f3))) (l3 : K.lookup f3 = some ⟨oc3, od3, .func (PySem.W.fnOf "_law_digit" "_law_digit" (defArgs sD) (defBody sD) (defScope sD) .none kV3 dc3 pm3 an3 cd3 ct3), sl3⟩) (c3 : PySem.W.codeIn K cd3 "_law_digit" = true) (k3 : PySem.W.keepIn K (.ref f3) = true)
    (a4 : PySem.W.nsIn K mainGlobals "_law_is_life" = some (some (.ref f4))) (l4 : K.lookup f4 = some ⟨oc4, od4, .func (PySem.W.fnOf "_law_is_life" "_law_is_life" (defArgs sIL) (defBody sIL) (defScope sIL) .none kV4 dc4 pm4 an4 cd4 ct4), sl4⟩) (c4 : PySem.W.codeIn K cd4 "_law_is_life" = true) (k4 : PySem.W.keepIn K (.ref f4) = true)
    (a5 : PySem.W.nsIn K mainGlobals "_law_room" = some (some (.ref f5))) (l5 : K.lookup f5 = some ⟨oc5, od5, .func (PySem.W.fnOf "_law_room" "_law_room" (defArgs sRm) (defBody sRm) (defScope sRm) .none kV5 dc5 pm5 an5 cd5 ct5), sl5⟩) (c5 : PySem.W.codeIn K cd5 "_law_room" = true) (k5 : PySem.W.keepIn K (.ref f5) = true)
    (a6 : PySem.W.nsIn K mainGlobals "_law_great" = some (some (.ref f6))) (l6 : K.lookup f6 = some ⟨oc6, od6, .func (PySem.W.fnOf "_law_great" "_law_great" (defArgs sG) (defBody sG) (defScope sG) .none kV6 dc6 pm6 an6 cd6 ct6), sl6⟩) (c6 : PySem.W.codeIn K cd6 "_law_great" = true) (k6 : PySem.W.keepIn K (.ref f6) = true)
    (a7 : PySem.W.nsIn K mainGlobals "_law_longest" = some (some (.ref f7))) (l7 : K.lookup f7 = some ⟨oc7, od7, .func (PySem.W.fnOf "_law_longest" "_law_longest" (defArgs sLo) (defBody sLo) (defScope sLo) .none kV7 dc7 pm7 an7 cd7 ct7), sl7⟩) (c7 : PySem.W.codeIn K cd7 "_law_longest" = true) (k7 : PySem.W.keepIn K (.ref f7) = true)
    (a8 : PySem.W.nsIn K mainGlobals "_law_best_first" = some (some (.ref f8))) (l8 : K.lookup f8 = some ⟨oc8, od8, .func (PySem.W.fnOf "_law_best_first" "_law_best_first" (defArgs sBF) (defBody sBF) (defScope sBF) .none kV8 dc8 pm8 an8 cd8 ct8), sl8⟩) (c8 : PySem.W.codeIn K cd8 "_law_best_first" = true) (k8 : PySem.W.keepIn K (.ref f8) = true)
    (a9 : PySem.W.nsIn K mainGlobals "law" = some (some (.ref f9))) (l9 : K.lookup f9 = some ⟨oc9, od9, .func (PySem.W.fnOf "law" "law" (defArgs sLaw) (defBody sLaw) (defScope sLaw) .none kV9 dc9 pm9 an9 cd9 ct9), sl9⟩) (c9 : PySem.W.codeIn K cd9 "law" = true) (k9 : PySem.W.keepIn K (.ref f9) = true)
    (z0 : PySem.W.nsIn K mainGlobals "isinstance" = some none)
    (z1 : PySem.W.nsIn K mainGlobals "int" = some none)
    (z2 : PySem.W.nsIn K mainGlobals "bool" = some none)
    (z3 : PySem.W.nsIn K mainGlobals "list" = some none)
    (z4 : PySem.W.nsIn K mainGlobals "len" = some none)
    (z5 : PySem.W.nsIn K mainGlobals "sum" = some none)
    (z6 : PySem.W.nsIn K mainGlobals "max" = some none)
    (z7 : PySem.W.nsIn K mainGlobals "min" = some none)
    (z8 : PySem.W.nsIn K mainGlobals "range" = some none)
    (zA : PySem.W.nsIn K mainGlobals "MOST_ROOMS" = some (some (.int 100 tA))) (zB : PySem.W.nsIn K mainGlobals "MOST_ROOM" = some (some (.int 1000000000 tB))) :
    ∃ fd : FuncData, (∀ (s : Shared) (v : Value), BindsTo s fd ⟨[v], []⟩ [("_law_script", v)]) ∧ ∀ base : Heap, K.In base → base.Ns mainGlobals mg → FnOk l.prog w K mg base CX0 5 fa fd ["_law_script"] (spLaw K) := by
  have e := hfa.symm.trans (PySem.W.mg_of X G a9)
  cases e
  have F0 := fun_mk (st := sII) l0 c0 k0
  have F1 := fun_mk (st := sIR) l1 c1 k1
  have F2 := fun_mk (st := sLL) l2 c2 k2
  have F3 := fun_mk (st := sD) l3 c3 k3
  have F4 := fun_mk (st := sIL) l4 c4 k4
  have F5 := fun_mk (st := sRm) l5 c5 k5
  have F6 := fun_mk (st := sG) l6 c6 k6
  have F7 := fun_mk (st := sLo) l7 c7 k7
  have F8 := fun_mk (st := sBF) l8 c8 k8
  have F9 := fun_mk (st := sLaw) l9 c9 k9
  have b0 := F0.binds (ps := ["thing"]) fun _ _ _ _ _ _ us hl => match us, hl with | [_], _ => rfl
  have b1 := F1.binds (ps := ["thing", "low", "high"]) fun _ _ _ _ _ _ us hl => match us, hl with | [_, _, _], _ => rfl
  have b2 := F2.binds (ps := ["rooms", "at"]) fun _ _ _ _ _ _ us hl => match us, hl with | [_, _], _ => rfl
  have b3 := F3.binds (ps := ["_law_pool", "_law_many"]) fun _ _ _ _ _ _ us hl => match us, hl with | [_, _], _ => rfl
  have b4 := F4.binds (ps := ["_law_found", "_law_due"]) fun _ _ _ _ _ _ us hl => match us, hl with | [_, _], _ => rfl
  have b5 := F5.binds (ps := ["_law_pool", "_law_kind"]) fun _ _ _ _ _ _ us hl => match us, hl with | [_, _], _ => rfl
  have b6 := F6.binds (ps := ["_law_pool"]) fun _ _ _ _ _ _ us hl => match us, hl with | [_], _ => rfl
  have b7 := F7.binds (ps := ["_law_rooms", "_law_at"]) fun _ _ _ _ _ _ us hl => match us, hl with | [_, _], _ => rfl
  have b8 := F8.binds (ps := ["_law_rooms", "_law_at"]) fun _ _ _ _ _ _ us hl => match us, hl with | [_, _], _ => rfl
  have mIsinstance := PySem.W.mg_none_of X G z0
  have mInt := PySem.W.mg_none_of X G z1
  have mBool := PySem.W.mg_none_of X G z2
  have mList := PySem.W.mg_none_of X G z3
  have mLen := PySem.W.mg_none_of X G z4
  have mSum := PySem.W.mg_none_of X G z5
  have mMax := PySem.W.mg_none_of X G z6
  have mMin := PySem.W.mg_none_of X G z7
  have mRange := PySem.W.mg_none_of X G z8
  have g0 := PySem.W.mg_of X G a0
  have g1 := PySem.W.mg_of X G a1
  have g2 := PySem.W.mg_of X G a2
  have g3 := PySem.W.mg_of X G a3
  have g4 := PySem.W.mg_of X G a4
  have g5 := PySem.W.mg_of X G a5
  have g6 := PySem.W.mg_of X G a6
  have g7 := PySem.W.mg_of X G a7
  have g8 := PySem.W.mg_of X G a8
  have gA := PySem.W.mg_of X G zA
  have gB := PySem.W.mg_of X G zB
  refine ⟨PySem.W.fnOf "law" "law" (defArgs sLaw) (defBody sLaw) (defScope sLaw) .none kV9 dc9 pm9 an9 cd9 ct9, fun s v => .of_eq rfl, fun base _ _ => ?_⟩
  have G0 : FnOk l.prog w K mg base CX0 1 f0 _ ["thing"] spII := ok_ii F0 mIsinstance mInt mBool
  have G1 : FnOk l.prog w K mg base CX0 2 f1 _ ["thing", "low", "high"] spIR := ok_ir F1 G0 F0.kp b0 g0
  have G2 : FnOk l.prog w K mg base CX0 3 f2 _ ["rooms", "at"] spLL := ok_ll F2 G1 F1.kp b1 g1 mIsinstance mList mLen mSum mMax mMin gA gB
  have G3 : FnOk l.prog w K mg base CX0 1 f3 _ ["_law_pool", "_law_many"] spD := ok_d F3 mInt mLen
  have G4 : FnOk l.prog w K mg base CX0 1 f4 _ ["_law_found", "_law_due"] spIL := ok_il F4 mIsinstance mInt mBool
  have G5 : FnOk l.prog w K mg base CX0 2 f5 _ ["_law_pool", "_law_kind"] spRm := ok_rm F5 G3 F3.kp b3 g3 mInt
  have G6 : FnOk l.prog w K mg base CX0 3 f6 _ ["_law_pool"] spG := ok_g F6 G3 F3.kp b3 g3 G5 F5.kp b5 g5 mRange mSum
  have G7 : FnOk l.prog w K mg base CX0 1 f7 _ ["_law_rooms", "_law_at"] (spLo K) := ok_lo F7 mList mRange mSum mLen
  have G8 : FnOk l.prog w K mg base CX0 4 f8 _ ["_law_rooms", "_law_at"] (spLo K) := ok_bf F8 G2 F2.kp b2 g2 mIsinstance mInt mBool mRange mMax mLen
  exact ok_law F9 G3 F3.kp b3 g3 G6 F6.kp b6 g6 G2 F2.kp b2 g2 G4 F4.kp b4 g4 G7 F7.kp b7 g7 G8 F8.kp b8 g8 mList mRange mLen mMax mSum
end K48
open PySem PySem.W PyProof.Rows
set_option maxHeartbeats 0 in
theorem PySem.Challenge.cw_spentblocks_k48_whole_lone_life_by_first_holds : PySem.Challenge.rw_spentblocks_k48_whole_lone_life_by_first.Holds := by
  w_on; o_law; k_head; (case hw => w_witness2)
  k_fill
  refine L2.walk_of (l := PySem.Challenge.rw_spentblocks_k48_whole_lone_life_by_first) (n := 63) (k := 5) (x := "_law_script") (CX := fun _ => L2.CX0) (sp := fun w => K48.spLaw _) rfl (by decide) rfl ⟨rfl, by decide, by decide⟩ (fun w h Y => PySem.W.kIn_of Y) ?F (fun _ _ a ns hl _ hS => ⟨a, ns, rfl, hS, hl, fun _ => rfl⟩) (fun _ _ _ _ _ h => h)
  case F =>
    intro w mg fa h KX G hmg
    refine' K48.all_mk KX G hmg ?a0 ?l0 ?c0 ?k0 ?a1 ?l1 ?c1 ?k1 ?a2 ?l2 ?c2 ?k2 ?a3 ?l3 ?c3 ?k3 ?a4 ?l4 ?c4 ?k4 ?a5 ?l5 ?c5 ?k5 ?a6 ?l6 ?c6 ?k6 ?a7 ?l7 ?c7 ?k7 ?a8 ?l8 ?c8 ?k8 ?a9 ?l9 ?c9 ?k9 ?z0 ?z1 ?z2 ?z3 ?z4 ?z5 ?z6 ?z7 ?z8 ?zA ?zB
    (case a0 => k_is); (case l0 => k_is); (case c0 => k_is); (case k0 => k_is); (case a1 => k_is); (case l1 => k_is); (case c1 => k_is); (case k1 => k_is); (case a2 => k_is); (case l2 => k_is); (case c2 => k_is); (case k2 => k_is); (case a3 => k_is); (case l3 => k_is); (case c3 => k_is); (case k3 => k_is); (case a4 => k_is); (case l4 => k_is); (case c4 => k_is); (case k4 => k_is); (case a5 => k_is); (case l5 => k_is); (case c5 => k_is); (case k5 => k_is); (case a6 => k_is); (case l6 => k_is); (case c6 => k_is); (case k6 => k_is); (case a7 => k_is); (case l7 => k_is); (case c7 => k_is); (case k7 => k_is); (case a8 => k_is); (case l8 => k_is); (case c8 => k_is); (case k8 => k_is); (case a9 => k_is); (case l9 => k_is); (case c9 => k_is); (case k9 => k_is); (case z0 => k_is); (case z1 => k_is); (case z2 => k_is); (case z3 => k_is); (case z4 => k_is); (case z5 => k_is); (case z6 => k_is); (case z7 => k_is); (case z8 => k_is); (case zA => k_is); (case zB => k_is)

