import PyProof.Rows.All
import Wide.All
import OpenK.AllK
import Wide.FinOn
import HandS.ForMost
import HandS.Star
import HandS.IsInst
import HandS.TupAny
import HandS.SortRule
import HandS.Conv
import HandS.Zip
import HandS.Flow
import KE.SortData
import KE.KDictWalk
import KE.KDictDisplayH
import KE.GoesEnum
import PySem.Challenge.RW_parkback_k10_whole_near_rests
set_option Elab.async false
set_option linter.all false
set_option maxHeartbeats 4000000
set_option maxRecDepth 100000
set_option maxHeartbeats 1000000
/-! Parking: the places that fill up do not depend on the order of the cars; below each state there is a rest. Plain Lean. -/
namespace KM
/-! ### counting in an interval -/
def inI (q : Int) (n : Nat) (y : Int) : Bool := decide (q ≤ y ∧ y < q + n)
theorem cnt_succ (q : Int) (n : Nat) : ∀ f : List Int, f.countP (inI q (n + 1)) = f.countP (inI q n) + f.count (q + n)
  | [] => rfl
  | y :: f => by
    have ih := cnt_succ q n f
    rw [List.countP_cons, List.countP_cons, List.count_cons, ih]
    by_cases h1 : q ≤ y ∧ y < q + n
    · have a : inI q n y = true := decide_eq_true h1
      have b : inI q (n + 1) y = true := decide_eq_true (by omega)
      have c : (y == q + (n : Int)) = false := by
        rw [beq_eq_false_iff_ne]
        omega
      rw [a, b, c]
      simp
      omega
    · by_cases h2 : y = q + n
      · have a : inI q n y = false := decide_eq_false (by omega)
        have b : inI q (n + 1) y = true := decide_eq_true (by omega)
        have c : (y == q + (n : Int)) = true := by
          rw [h2]
          exact beq_self_eq_true _
        rw [a, b, c]
        simp
        omega
      · have a : inI q n y = false := decide_eq_false (by omega)
        have b : inI q (n + 1) y = false := decide_eq_false (by omega)
        have c : (y == q + (n : Int)) = false := by
          rw [beq_eq_false_iff_ne]
          exact h2
        rw [a, b, c]
        simp
theorem cnt_zero (q : Int) : ∀ f : List Int, f.countP (inI q 0) = 0 := fun f => by
  rw [List.countP_eq_zero]
  intro y _ h
  have := of_decide_eq_true h
  omega
theorem cnt_low {f : List Int} {q : Int} : ∀ n : Nat, (∀ y, q ≤ y → y < q + n → y ∈ f) → n ≤ f.countP (inI q n)
  | 0, _ => Nat.zero_le _
  | n + 1, h => by
    rw [cnt_succ]
    have ih := cnt_low (f := f) (q := q) n fun y h1 h2 => h y h1 (by omega)
    have : 0 < f.count (q + n) := List.count_pos_iff.mpr (h _ (by omega) (by omega))
    omega
theorem cnt_up {f : List Int} (hf : f.Nodup) {q : Int} : ∀ n : Nat, f.countP (inI q n) ≤ n
  | 0 => by rw [cnt_zero]; exact Nat.le_refl 0
  | n + 1 => by
    rw [cnt_succ]
    have ih := cnt_up hf (q := q) n
    have := List.nodup_iff_count.mp hf (q + n)
    omega
/-! ### closed standings: each place from a car's home up to its own is taken -/
def Closed (z : List (Int × Int)) : Prop := (z.map (·.2)).Nodup ∧ ∀ e ∈ z, e.1 ≤ e.2 ∧ ∀ q, e.1 ≤ q → q ≤ e.2 → q ∈ z.map (·.2)
def Crowd (hs : List Int) (x : Int) : Prop := ∃ n : Nat, n < hs.countP (inI (x - n) (n + 1))
theorem run_low {f : List Int} {x : Int} (hx : x ∈ f) : ∃ n : Nat, (∀ y, x - n ≤ y → y ≤ x → y ∈ f) ∧ x - n - 1 ∉ f := by
  refine Classical.byContradiction fun no => ?_
  have key : ∀ n : Nat, ∀ y, x - n ≤ y → y ≤ x → y ∈ f := by
    intro n
    induction n with
    | zero =>
      intro y h1 h2
      have e : y = x := by omega
      rw [e]
      exact hx
    | succ n ih =>
      intro y h1 h2
      by_cases h3 : x - n ≤ y
      · exact ih y h3 h2
      · have e : y = x - n - 1 := by omega
        rw [e]
        exact Classical.byContradiction fun h4 => no ⟨n, ih, h4⟩
  have h := cnt_low (f := f) (q := x - f.length) (f.length + 1) fun y h1 h2 => key f.length y h1 (by omega)
  have := List.countP_le_length (p := inI (x - f.length) (f.length + 1)) (l := f)
  omega
theorem closed_mem {z : List (Int × Int)} (c : Closed z) (x : Int) : x ∈ z.map (·.2) ↔ Crowd (z.map (·.1)) x := by
  constructor
  · intro hx
    obtain ⟨n, h1, h2⟩ := run_low hx
    refine ⟨n, ?_⟩
    have a : n + 1 ≤ (z.map (·.2)).countP (inI (x - n) (n + 1)) := cnt_low (n + 1) fun y h3 h4 => h1 y h3 (by omega)
    rw [List.countP_map] at a ⊢
    refine Nat.lt_of_lt_of_le (Nat.lt_of_succ_le a) (List.countP_mono_left fun e he hp => ?_)
    have hp := of_decide_eq_true (p := x - n ≤ e.2 ∧ e.2 < x - n + ((n + 1 : Nat) : Int)) hp
    obtain ⟨c1, c2⟩ := c.2 e he
    refine decide_eq_true (p := x - n ≤ e.1 ∧ e.1 < x - n + ((n + 1 : Nat) : Int)) ⟨?_, by omega⟩
    refine Classical.byContradiction fun h3 => h2 (c2 _ (by omega) (by omega))
  · rintro ⟨n, hn⟩
    refine Classical.byContradiction fun hx => ?_
    have a : (z.map (·.1)).countP (inI (x - n) (n + 1)) ≤ (z.map (·.2)).countP (inI (x - n) n) := by
      rw [List.countP_map, List.countP_map]
      refine List.countP_mono_left fun e he hp => ?_
      have hp := of_decide_eq_true (p := x - n ≤ e.1 ∧ e.1 < x - n + ((n + 1 : Nat) : Int)) hp
      obtain ⟨c1, c2⟩ := c.2 e he
      refine decide_eq_true (p := x - n ≤ e.2 ∧ e.2 < x - n + (n : Int)) ⟨by omega, ?_⟩
      refine Classical.byContradiction fun h3 => hx (c2 x (by omega) (by omega))
    have b := cnt_up c.1 (q := x - n) n
    omega
theorem crowd_perm {hs hs' : List Int} (p : hs.Perm hs') (x : Int) : Crowd hs x ↔ Crowd hs' x := by
  unfold Crowd
  constructor
  · rintro ⟨n, h⟩
    exact ⟨n, by rw [← p.countP_eq]; exact h⟩
  · rintro ⟨n, h⟩
    exact ⟨n, by rw [p.countP_eq]; exact h⟩
/-! ### parking one after another -/
def Nf (found : List Int) (h p : Int) : Prop := h ≤ p ∧ p ∉ found ∧ ∀ q, h ≤ q → q < p → q ∈ found
inductive Parks : List Int → List Int → Prop
  | nil : Parks [] []
  | snoc {hs f : List Int} {h p : Int} : Parks hs f → Nf f h p → Parks (hs ++ [h]) (f ++ [p])
theorem Parks.closed {hs f : List Int} (k : Parks hs f) : ∃ z : List (Int × Int), z.map (·.1) = hs ∧ z.map (·.2) = f ∧ Closed z := by
  induction k with
  | nil => exact ⟨[], rfl, rfl, List.nodup_nil, by intro e he; cases he⟩
  | @snoc hs f h p k n ih =>
    obtain ⟨z, e1, e2, c1, c2⟩ := ih
    obtain ⟨n1, n2, n3⟩ := n
    have e3 : (z ++ [(h, p)]).map (·.2) = f ++ [p] := by rw [List.map_append, e2]; rfl
    refine ⟨z ++ [(h, p)], by rw [List.map_append, e1]; rfl, e3, ?_, ?_⟩
    · rw [e3, List.nodup_append]
      refine ⟨by rw [← e2]; exact c1, by simp, ?_⟩
      intro a ha b hb e
      have : b = p := by simpa using hb
      subst this
      subst e
      exact n2 ha
    · intro e he
      rw [e3]
      rcases List.mem_append.mp he with he | he
      · obtain ⟨d1, d2⟩ := c2 e he
        refine ⟨d1, fun q h1 h2 => List.mem_append_left _ ?_⟩
        rw [← e2]
        exact d2 q h1 h2
      · have : e = (h, p) := by simpa using he
        subst this
        refine ⟨n1, fun q h1 h2 => ?_⟩
        by_cases hq : q = p
        · rw [hq]
          exact List.mem_append_right _ (by simp)
        · exact List.mem_append_left _ (n3 q h1 (by show q < p; have h2 : q ≤ p := h2; omega))
theorem Parks.nodup {hs f : List Int} (k : Parks hs f) : f.Nodup := by
  obtain ⟨z, _, e2, c⟩ := k.closed
  rw [← e2]
  exact c.1
theorem Parks.length {hs f : List Int} (k : Parks hs f) : f.length = hs.length := by
  obtain ⟨z, e1, e2, _⟩ := k.closed
  rw [← e1, ← e2, List.length_map, List.length_map]
theorem Parks.mem {hs f : List Int} (k : Parks hs f) (x : Int) : x ∈ f ↔ Crowd hs x := by
  obtain ⟨z, e1, e2, c⟩ := k.closed
  rw [← e1, ← e2]
  exact closed_mem c x
theorem nd_perm {l m : List Int} (a : l.Nodup) (b : m.Nodup) (h : ∀ x, x ∈ l ↔ x ∈ m) : l.Perm m := (List.perm_ext_iff_of_nodup a b).mpr fun x => h x
theorem Parks.perm {hs hs' f f' : List Int} (k : Parks hs f) (k' : Parks hs' f') (p : hs.Perm hs') : f.Perm f' :=
  nd_perm k.nodup k'.nodup fun x => by rw [k.mem, k'.mem, crowd_perm p]
theorem sorted_uniq {l m : List Int} (p : l.Perm m) (a : l.Pairwise (· ≤ ·)) (b : m.Pairwise (· ≤ ·)) : l = m :=
  p.eq_of_pairwise (fun x y _ _ h1 h2 => Int.le_antisymm h1 h2) a b
/-! ### what fills up, as a function -/
/-- the sorted list of places: chosen by what it must be -/
def IsTaken (homes taken : List Int) : Prop := ∃ hs f, hs.Perm homes ∧ Parks hs f ∧ taken.Perm f ∧ taken.Pairwise (· ≤ ·)
theorem IsTaken.uniq {hs hs' t t' : List Int} (a : IsTaken hs t) (b : IsTaken hs' t') (p : hs.Perm hs') : t = t' := by
  obtain ⟨g, f, e, k, q, s⟩ := a
  obtain ⟨g', f', e', k', q', s'⟩ := b
  exact sorted_uniq (q.trans ((k.perm k' (e.trans (p.trans e'.symm))).trans q'.symm)) s s'
theorem IsTaken.nodup {hs t : List Int} (a : IsTaken hs t) : t.Nodup := by
  obtain ⟨g, f, e, k, q, s⟩ := a
  exact q.nodup_iff.mpr k.nodup
theorem IsTaken.length {hs t : List Int} (a : IsTaken hs t) : t.length = hs.length := by
  obtain ⟨g, f, e, k, q, s⟩ := a
  rw [q.length_eq, k.length, e.length_eq]
theorem IsTaken.mem {hs t : List Int} (a : IsTaken hs t) (x : Int) : x ∈ t ↔ Crowd hs x := by
  obtain ⟨g, f, e, k, q, s⟩ := a
  rw [q.mem_iff, k.mem, crowd_perm e]
theorem IsTaken.lt {hs t : List Int} (a : IsTaken hs t) : t.Pairwise (· < ·) := by
  have n := a.nodup
  obtain ⟨g, f, e, k, q, s⟩ := a
  exact s.imp₂ (fun x y h1 h2 => by have h2 : x ≠ y := h2; omega) n
/-! ### below each state there is a rest -/
theorem down (homes : List Int) : ∀ (n : Nat) (st : List Int), st.length = homes.length → st.Nodup → (∀ i (h : i < homes.length) (h2 : i < st.length), homes[i] ≤ st[i]) → (st.sum - homes.sum).toNat ≤ n →
    ∃ t : List Int, t.length = homes.length ∧ Closed (homes.zip t) ∧ ∀ i (h : i < homes.length) (h2 : i < t.length) (h3 : i < st.length), homes[i] ≤ t[i] ∧ t[i] ≤ st[i] := by
  intro n
  induction n with
  | zero =>
    intro st hl nd hb hn
    have sum_le : ∀ (hs ts : List Int), ts.length = hs.length → (∀ i (h : i < hs.length) (h2 : i < ts.length), hs[i] ≤ ts[i]) → hs.sum ≤ ts.sum ∧ (ts.sum ≤ hs.sum → ts = hs) := by
      intro hs
      induction hs with
      | nil =>
        intro ts e _
        have : ts = [] := List.eq_nil_of_length_eq_zero e
        subst this
        exact ⟨Int.le_refl _, fun _ => rfl⟩
      | cons x hs ih =>
        intro ts e h
        cases ts with
        | nil => cases e
        | cons y ts =>
          have e' : ts.length = hs.length := by simpa using e
          have h0 : x ≤ y := h 0 (by simp) (by simp)
          obtain ⟨i1, i2⟩ := ih ts e' fun i a b => by
            have := h (i + 1) (by simpa using a) (by simpa using b)
            simpa using this
          rw [List.sum_cons, List.sum_cons]
          refine ⟨by omega, fun q => ?_⟩
          have h1 : ts = hs := i2 (by omega)
          subst h1
          have : x = y := by omega
          rw [this]
    obtain ⟨s1, s2⟩ := sum_le homes st hl hb
    have e : st = homes := s2 (by omega)
    subst e
    refine ⟨st, rfl, ⟨?_, ?_⟩, fun i h h2 h3 => ⟨Int.le_refl _, Int.le_refl _⟩⟩
    · rw [List.map_snd_zip (by omega)]
      exact nd
    · intro e he
      rw [List.map_snd_zip (by omega)]
      have h1 : e.1 = e.2 := by
        obtain ⟨i, hi, e2⟩ := List.getElem_of_mem he
        rw [List.getElem_zip] at e2
        rw [← e2]
      refine ⟨by omega, fun q h2 h3 => ?_⟩
      have : q = e.2 := by omega
      rw [this]
      exact (List.of_mem_zip he).2
  | succ n ih =>
    intro st hl nd hb hn
    by_cases cl : Closed (homes.zip st)
    · exact ⟨st, hl, cl, fun i h h2 h3 => ⟨hb i h h2, Int.le_refl _⟩⟩
    · have ms : (homes.zip st).map (·.2) = st := List.map_snd_zip (by omega)
      obtain ⟨i, q, h1, h2, h3, h4, h5⟩ : ∃ (i : Nat) (q : Int) (h1 : i < homes.length) (h2 : i < st.length), homes[i] ≤ q ∧ q < st[i] ∧ q ∉ st := by
        refine Classical.byContradiction fun no => cl ⟨by rw [ms]; exact nd, fun e he => ?_⟩
        rw [ms]
        obtain ⟨i, hi, e2⟩ := List.getElem_of_mem he
        rw [List.length_zip] at hi
        have hi1 : i < homes.length := by omega
        have hi2 : i < st.length := by omega
        rw [List.getElem_zip] at e2
        subst e2
        refine ⟨hb i hi1 hi2, fun q a b => ?_⟩
        refine Classical.byContradiction fun hq => no ⟨i, q, hi1, hi2, a, ?_, hq⟩
        have b : q ≤ st[i] := b
        have : q ≠ st[i] := fun z => hq (by rw [z]; exact List.getElem_mem hi2)
        omega
      have sm : ∀ (l : List Int) (i : Nat) (h : i < l.length) (v : Int), (l.set i v).sum = l.sum - l[i] + v := by
        intro l
        induction l with
        | nil => intro i h; cases h
        | cons a l ihl =>
          intro i h v
          cases i with
          | zero =>
            simp only [List.set_cons_zero, List.sum_cons, List.getElem_cons_zero]
            omega
          | succ j =>
            have := ihl j (by simpa using h) v
            simp only [List.set_cons_succ, List.sum_cons, List.getElem_cons_succ, this]
            omega
      have nd' : (st.set i q).Nodup := by
        rw [List.nodup_iff_pairwise_ne] at *
        rw [List.pairwise_iff_getElem] at *
        intro a b ha hb' hab
        rw [List.length_set] at ha hb'
        rw [List.getElem_set, List.getElem_set]
        by_cases e1 : i = a
        · rw [if_pos e1, if_neg (by omega)]
          intro z
          exact h5 (by rw [z]; exact List.getElem_mem hb')
        · rw [if_neg e1]
          by_cases e2 : i = b
          · rw [if_pos e2]
            intro z
            exact h5 (by rw [← z]; exact List.getElem_mem ha)
          · rw [if_neg e2]
            exact nd a b ha hb' hab
      have hb2 : ∀ j (h : j < homes.length) (h2 : j < (st.set i q).length), homes[j] ≤ (st.set i q)[j] := by
        intro j hj hj2
        rw [List.getElem_set]
        by_cases e1 : i = j
        · subst e1
          rw [if_pos rfl]
          exact h3
        · rw [if_neg e1]
          exact hb j hj _
      obtain ⟨t, t1, t2, t3⟩ := ih (st.set i q) (by rw [List.length_set]; exact hl) nd' hb2 (by rw [sm st i h2 q]; omega)
      refine ⟨t, t1, t2, fun j a b c => ?_⟩
      obtain ⟨u1, u2⟩ := t3 j a b (by rw [List.length_set]; exact c)
      refine ⟨u1, Int.le_trans u2 ?_⟩
      rw [List.getElem_set]
      by_cases e1 : i = j
      · subst e1
        rw [if_pos rfl]
        omega
      · rw [if_neg e1]
        exact Int.le_refl _
/-- a rest below the state: it takes just the places of taken -/
theorem rest_below {homes st taken : List Int} (hl : st.length = homes.length) (nd : st.Nodup) (hb : ∀ i (h : i < homes.length) (h2 : i < st.length), homes[i] ≤ st[i]) (tk : IsTaken homes taken) :
    ∃ t : List Int, t.length = homes.length ∧ t.Nodup ∧ (∀ x ∈ t, x ∈ taken) ∧ ∀ i (h : i < homes.length) (h2 : i < t.length) (h3 : i < st.length), homes[i] ≤ t[i] ∧ t[i] ≤ st[i] := by
  obtain ⟨t, t1, t2, t3⟩ := down homes _ st hl nd hb (Nat.le_refl _)
  have ms : (homes.zip t).map (·.2) = t := List.map_snd_zip (by omega)
  have mf : (homes.zip t).map (·.1) = homes := List.map_fst_zip (by omega)
  refine ⟨t, t1, by rw [← ms]; exact t2.1, fun x hx => ?_, t3⟩
  rw [tk.mem, ← mf, ← closed_mem t2 x, ms]
  exact hx
end KM
set_option maxHeartbeats 1000000
/-! The greatest number of stays and how many rests have it: by columns (place by place over sets of cars) as by rows (car by car). Plain Lean. -/
namespace KM
/-! ### (best, ways): a commutative monoid -/
abbrev M := Option (Int × Int)
def op : M → M → M
  | none, y => y
  | some x, none => some x
  | some (a, w), some (b, v) => if a < b then some (b, v) else if b < a then some (a, w) else some (a, w + v)
theorem op_none_left (y : M) : op none y = y := rfl
theorem op_none_right : ∀ x : M, op x none = x
  | none => rfl
  | some _ => rfl
theorem op_comm : ∀ x y : M, op x y = op y x
  | none, y => by rw [op_none_left, op_none_right]
  | some x, none => rfl
  | some (a, w), some (b, v) => by
    simp only [op]
    by_cases h1 : a < b
    · rw [if_pos h1, if_neg (by omega), if_pos h1]
    · rw [if_neg h1]
      by_cases h2 : b < a
      · rw [if_pos h2, if_pos h2]
      · rw [if_neg h2, if_neg h2, if_neg h1]
        have : a = b := by omega
        subst this
        rw [Int.add_comm]
theorem op_assoc : ∀ x y z : M, op (op x y) z = op x (op y z)
  | none, y, z => by rw [op_none_left, op_none_left]
  | some x, none, z => by rw [op_none_right, op_none_left]
  | some x, some y, none => by rw [op_none_right, op_none_right]
  | some (a, w), some (b, v), some (c, u) => by
    simp only [op]
    rcases Int.lt_trichotomy a b with h1 | h1 | h1 <;> rcases Int.lt_trichotomy b c with h2 | h2 | h2 <;> rcases Int.lt_trichotomy a c with h3 | h3 | h3 <;>
      first
      | (exfalso; omega)
      | (try subst h1
         try subst h2
         try subst h3
         simp only [op, Int.lt_irrefl, if_false, if_true, *] <;> (try simp only [op, Int.lt_irrefl, if_false, if_true, *]) <;>
           (repeat (first | rw [if_pos (by omega)] | rw [if_neg (by omega)])) <;> (try (simp only [op])) <;> (repeat (first | rw [if_pos (by omega)] | rw [if_neg (by omega)])) <;> (try (congr 2; omega)) <;> (try rfl))
def sh (s : Int) : M → M := Option.map fun x => (x.1 + s, x.2)
theorem sh_none (s : Int) : sh s none = none := rfl
theorem sh_some (s a w : Int) : sh s (some (a, w)) = some (a + s, w) := rfl
theorem sh_op (s : Int) : ∀ x y : M, sh s (op x y) = op (sh s x) (sh s y)
  | none, y => rfl
  | some x, none => rfl
  | some (a, w), some (b, v) => by
    rw [sh_some, sh_some]
    simp only [op]
    by_cases h1 : a < b
    · rw [if_pos h1, if_pos (show a + s < b + s by omega)]
      rfl
    · rw [if_neg h1, if_neg (show ¬ a + s < b + s by omega)]
      by_cases h2 : b < a
      · rw [if_pos h2, if_pos (show b + s < a + s by omega)]
        rfl
      · rw [if_neg h2, if_neg (show ¬ b + s < a + s by omega)]
        rfl
theorem sh_zero : ∀ x : M, sh 0 x = x
  | none => rfl
  | some (a, w) => by rw [sh_some, Int.add_zero]
theorem sh_sh (s t : Int) : ∀ x : M, sh s (sh t x) = sh (s + t) x
  | none => rfl
  | some (a, w) => by
    rw [sh_some, sh_some, sh_some]
    congr 2
    omega
/-! ### sums -/
section
variable {α β : Type}
def S (l : List α) (f : α → M) : M := l.foldr (fun a acc => op (f a) acc) none
theorem S_nil (f : α → M) : S [] f = none := rfl
theorem S_cons (a : α) (l : List α) (f : α → M) : S (a :: l) f = op (f a) (S l f) := rfl
theorem S_append (f : α → M) : ∀ l m : List α, S (l ++ m) f = op (S l f) (S m f)
  | [], m => rfl
  | a :: l, m => by
    rw [List.cons_append, S_cons, S_cons, S_append f l m, op_assoc]
theorem S_congr {f g : α → M} : ∀ {l : List α}, (∀ a ∈ l, f a = g a) → S l f = S l g
  | [], _ => rfl
  | a :: l, h => by
    rw [S_cons, S_cons, h a List.mem_cons_self, S_congr fun b hb => h b (List.mem_cons_of_mem _ hb)]
theorem S_none {f : α → M} {l : List α} (h : ∀ a ∈ l, f a = none) : S l f = none := by
  induction l with
  | nil => rfl
  | cons a l ih =>
    rw [S_cons, h a List.mem_cons_self, op_none_left]
    exact ih fun b hb => h b (List.mem_cons_of_mem _ hb)
theorem op_four (a b c d : M) : op (op a b) (op c d) = op (op a c) (op b d) := by
  rw [op_assoc, op_assoc, ← op_assoc b c d, op_comm b c, op_assoc c b d]
theorem S_op (f g : α → M) : ∀ l : List α, S l (fun a => op (f a) (g a)) = op (S l f) (S l g)
  | [] => rfl
  | a :: l => by
    rw [S_cons, S_cons, S_cons, S_op f g l, op_four]
theorem S_swap (f : α → β → M) (m : List β) : ∀ l : List α, S l (fun a => S m (f a)) = S m (fun b => S l (fun a => f a b))
  | [] => (S_none fun b _ => rfl).symm
  | a :: l => by
    rw [S_cons, S_swap f m l, ← S_op]
    rfl
theorem S_perm {f : α → M} {l m : List α} (p : l.Perm m) : S l f = S m f := by
  induction p with
  | nil => rfl
  | cons a _ ih => rw [S_cons, S_cons, ih]
  | swap a b l => rw [S_cons, S_cons, S_cons, S_cons, ← op_assoc, op_comm (f b), op_assoc]
  | trans _ _ i1 i2 => exact i1.trans i2
theorem S_map (g : α → β) (f : β → M) : ∀ l : List α, S (l.map g) f = S l (fun a => f (g a))
  | [] => rfl
  | a :: l => by rw [List.map_cons, S_cons, S_cons, S_map g f l]
theorem S_flatMap (g : α → List β) (f : β → M) : ∀ l : List α, S (l.flatMap g) f = S l (fun a => S (g a) f)
  | [] => rfl
  | a :: l => by rw [List.flatMap_cons, S_append, S_cons, S_flatMap g f l]
theorem S_filter (p : α → Bool) (f : α → M) : ∀ l : List α, S (l.filter p) f = S l (fun a => if p a = true then f a else none)
  | [] => rfl
  | a :: l => by
    rw [S_cons, ← S_filter p f l]
    by_cases h : p a = true
    · rw [List.filter_cons_of_pos h, S_cons, if_pos h]
    · rw [List.filter_cons_of_neg h, if_neg h, op_none_left]
theorem S_hom {h : M → M} (h0 : h none = none) (h1 : ∀ x y, h (op x y) = op (h x) (h y)) (f : α → M) : ∀ l : List α, h (S l f) = S l (fun a => h (f a))
  | [] => h0
  | a :: l => by rw [S_cons, h1, S_hom h0 h1 f l, S_cons]
/-- the one item that is looked for -/
theorem S_one [DecidableEq α] {l : List α} (nd : l.Nodup) (k : α) (f : α → M) : S l (fun a => if a = k then f a else none) = if k ∈ l then f k else none := by
  induction l with
  | nil => rfl
  | cons a l ih =>
    obtain ⟨n1, n2⟩ := List.nodup_cons.mp nd
    rw [S_cons, ih n2]
    by_cases e : a = k
    · subst e
      rw [if_pos rfl, if_neg n1, if_pos List.mem_cons_self, op_none_right]
    · rw [if_neg e, op_none_left]
      by_cases h : k ∈ l
      · rw [if_pos h, if_pos (List.mem_cons_of_mem _ h)]
      · rw [if_neg h, if_neg (by intro z; rcases List.mem_cons.mp z with z | z; exact e z.symm; exact h z)]
end
/-! ### rows and columns -/
section
variable (ok : Int → Int → Bool) (bon : Int → Int → Int)
/-- car c at place p -/
def wt (c p : Int) (x : M) : M := if ok c p = true then sh (bon c p) x else none
theorem wt_none (c p : Int) : wt ok bon c p none = none := by
  unfold wt
  split <;> rfl
theorem wt_op (c p : Int) (x y : M) : wt ok bon c p (op x y) = op (wt ok bon c p x) (wt ok bon c p y) := by
  unfold wt
  split
  · exact sh_op _ x y
  · rfl
theorem wt_comm (c p d q : Int) (x : M) : wt ok bon c p (wt ok bon d q x) = wt ok bon d q (wt ok bon c p x) := by
  unfold wt
  by_cases h1 : ok c p = true <;> by_cases h2 : ok d q = true
  · rw [if_pos h1, if_pos h2, if_pos h2, if_pos h1, sh_sh, sh_sh, Int.add_comm]
  · rw [if_pos h1, if_neg h2, if_neg h2, sh_none]
  · rw [if_neg h1, if_pos h2, if_neg h1, sh_none]
  · rw [if_neg h1, if_neg h2]
theorem wt_S {α : Type} (c p : Int) (f : α → M) (l : List α) : wt ok bon c p (S l f) = S l (fun a => wt ok bon c p (f a)) := S_hom (wt_none ok bon c p) (wt_op ok bon c p) f l
/-- the cars one after another, each at one of the places that are left -/
def rowV : List Int → List Int → M
  | [], P => if P = [] then some (0, 1) else none
  | c :: cs, P => S P fun q => wt ok bon c q (rowV cs (P.erase q))
/-- the places one after another, each with one of the cars that are left -/
def colV : List Int → List Int → M
  | [], K => if K = [] then some (0, 1) else none
  | p :: ps, K => S K fun c => wt ok bon c p (colV ps (K.erase c))
theorem rowV_perm : ∀ (K : List Int) {P P' : List Int}, P.Perm P' → rowV ok bon K P = rowV ok bon K P'
  | [], P, P', h => by
    unfold rowV
    by_cases e : P = []
    · subst e
      have : P' = [] := List.Perm.eq_nil h.symm
      rw [if_pos rfl, if_pos this]
    · rw [if_neg e, if_neg]
      intro e2
      subst e2
      exact e (List.Perm.eq_nil h)
  | c :: cs, P, P', h => by
    unfold rowV
    rw [S_perm h]
    exact S_congr fun q _ => by rw [rowV_perm cs (h.erase q)]
theorem erase_pick {p : Int} {ps : List Int} (nd : (p :: ps).Nodup) {q : Int} (hq : q ∈ ps) : (p :: ps).erase q = p :: ps.erase q := by
  have n1 := (List.nodup_cons.mp nd).1
  rw [List.erase_cons_tail]
  simp only [beq_iff_eq]
  intro e
  exact n1 (by rw [e]; exact hq)
theorem row_col : ∀ (K : List Int), K.Nodup → ∀ (p : Int) (ps : List Int), (p :: ps).Nodup →
    rowV ok bon K (p :: ps) = S K fun c => wt ok bon c p (rowV ok bon (K.erase c) ps)
  | [], _, p, ps, _ => by
    unfold rowV
    rw [if_neg (by simp)]
    rfl
  | c :: cs, hK, p, ps, hP => by
    obtain ⟨k1, k2⟩ := List.nodup_cons.mp hK
    obtain ⟨p1, p2⟩ := List.nodup_cons.mp hP
    rw [S_cons, List.erase_cons_head]
    show S (p :: ps) (fun q => wt ok bon c q (rowV ok bon cs ((p :: ps).erase q))) = _
    rw [S_cons, List.erase_cons_head]
    congr 1
    have e1 : S ps (fun q => wt ok bon c q (rowV ok bon cs ((p :: ps).erase q))) = S ps (fun q => S cs fun d => wt ok bon c q (wt ok bon d p (rowV ok bon (cs.erase d) (ps.erase q)))) := by
      refine S_congr fun q hq => ?_
      rw [erase_pick hP hq, row_col cs k2 p (ps.erase q) (List.nodup_cons.mpr ⟨fun z => p1 (List.mem_of_mem_erase z), p2.erase q⟩), wt_S]
    rw [e1, S_swap]
    refine S_congr fun d hd => ?_
    have e2 : (c :: cs).erase d = c :: cs.erase d := erase_pick hK hd
    rw [e2]
    show _ = wt ok bon d p (S ps fun q => wt ok bon c q (rowV ok bon (cs.erase d) (ps.erase q)))
    rw [wt_S]
    exact S_congr fun q _ => wt_comm ok bon _ _ _ _ _
theorem row_eq_col : ∀ (P K : List Int), K.Nodup → P.Nodup → rowV ok bon K P = colV ok bon P K
  | [], K, hK, _ => by
    cases K with
    | nil => rfl
    | cons c cs =>
      unfold colV
      rw [if_neg (by simp)]
      rfl
  | p :: ps, K, hK, hP => by
    rw [row_col ok bon K hK p ps hP]
    show _ = S K fun c => wt ok bon c p (colV ok bon ps (K.erase c))
    refine S_congr fun c _ => ?_
    rw [row_eq_col ps (K.erase c) (hK.erase c) (List.nodup_cons.mp hP).2]
/-! ### the rows of rests -/
/-- each row with each fit place that it does not have yet -/
def ext (taken : List Int) (c : Int → Bool) (rows : List (List Int)) : List (List Int) :=
  rows.flatMap fun row => (taken.filter fun p => c p && !(row.contains p)).map fun p => row ++ [p]
/-- the first k cars: c, c + 1, .. -/
def rowsTo (taken : List Int) (ok : Int → Int → Bool) : Nat → List (List Int)
  | 0 => [[]]
  | k + 1 => ext taken (ok k) (rowsTo taken ok k)
/-- the bonus of a row: of its cars from k on -/
def bonus : Int → List Int → Int
  | _, [] => 0
  | k, p :: r => bon k p + bonus (k + 1) r
theorem bonus_snoc : ∀ (k : Int) (r : List Int) (p : Int), bonus bon k (r ++ [p]) = bonus bon k r + bon (k + r.length) p
  | k, [], p => by
    show bon k p + 0 = 0 + bon (k + 0) p
    rw [Int.add_zero, Int.add_zero, Int.zero_add]
  | k, q :: r, p => by
    show bon k q + bonus bon (k + 1) (r ++ [p]) = bon k q + bonus bon (k + 1) r + bon (k + ((r.length + 1 : Nat) : Int)) p
    rw [bonus_snoc (k + 1) r p, show k + 1 + (r.length : Int) = k + ((r.length + 1 : Nat) : Int) by omega, ← Int.add_assoc]
def cars (k n : Nat) : List Int := (List.range' k n).map fun i : Nat => (i : Int)
theorem cars_succ (k n : Nat) : cars k (n + 1) = (k : Int) :: cars (k + 1) n := rfl
def left (taken row : List Int) : List Int := taken.filter fun p => !(row.contains p)
theorem left_snoc {taken row : List Int} {q : Int} (nd : taken.Nodup) : left taken (row ++ [q]) = (left taken row).erase q := by
  unfold left
  rw [List.Nodup.erase_eq_filter (List.Pairwise.filter _ nd), List.filter_filter]
  refine List.filter_congr fun x _ => ?_
  have e : (row ++ [q]).contains x = (row.contains x || x == q) := by
    rw [Bool.eq_iff_iff, List.contains_iff_mem, Bool.or_eq_true, List.contains_iff_mem, List.mem_append, beq_iff_eq]
    simp
  rw [e, Bool.not_or, Bool.and_comm]
  rfl
theorem rowsTo_len {taken : List Int} {ok : Int → Int → Bool} : ∀ {k : Nat} {row : List Int}, row ∈ rowsTo taken ok k → row.length = k
  | 0, row, h => by
    have : row = [] := by simpa [rowsTo] using h
    rw [this]
    rfl
  | k + 1, row, h => by
    obtain ⟨r, hr, h2⟩ := List.mem_flatMap.mp h
    obtain ⟨p, _, rfl⟩ := List.mem_map.mp h2
    rw [List.length_append, rowsTo_len hr]
    rfl
theorem rowsTo_left {taken : List Int} {ok : Int → Int → Bool} (nd : taken.Nodup) : ∀ {k : Nat} {row : List Int}, row ∈ rowsTo taken ok k → (left taken row).length + k = taken.length
  | 0, row, h => by
    have : row = [] := by simpa [rowsTo] using h
    rw [this]
    unfold left
    rw [List.filter_eq_self.mpr (by intro a _; rfl)]
    rfl
  | k + 1, row, h => by
    obtain ⟨r, hr, h2⟩ := List.mem_flatMap.mp h
    obtain ⟨p, hp, rfl⟩ := List.mem_map.mp h2
    obtain ⟨p1, p2⟩ := List.mem_filter.mp hp
    have ih := rowsTo_left nd hr
    have hm : p ∈ left taken r := List.mem_filter.mpr ⟨p1, by
      simp only [Bool.and_eq_true] at p2
      exact p2.2⟩
    rw [left_snoc nd, List.length_erase_of_mem hm]
    have := List.length_pos_of_mem hm
    omega
theorem rows_step {taken : List Int} (nd : taken.Nodup) (k n : Nat) :
    S (rowsTo taken ok (k + 1)) (fun row => sh (bonus bon 0 row) (rowV ok bon (cars (k + 1) n) (left taken row))) =
    S (rowsTo taken ok k) (fun row => sh (bonus bon 0 row) (rowV ok bon (cars k (n + 1)) (left taken row))) := by
  show S ((rowsTo taken ok k).flatMap _) _ = _
  rw [S_flatMap]
  refine S_congr fun row hr => ?_
  rw [S_map, cars_succ]
  show _ = sh (bonus bon 0 row) (S (left taken row) fun q => wt ok bon k q (rowV ok bon (cars (k + 1) n) ((left taken row).erase q)))
  rw [S_hom (sh_none _) (sh_op _)]
  unfold left
  rw [S_filter, S_filter]
  refine S_congr fun p hp => ?_
  by_cases h1 : row.contains p = true
  · rw [h1]
    simp
  · have h1 : row.contains p = false := by simpa using h1
    rw [h1]
    by_cases h2 : ok k p = true
    · rw [h2]
      simp only [Bool.not_false, Bool.and_self, if_true]
      have e := left_snoc (row := row) (q := p) nd
      unfold left at e
      rw [e]
      unfold wt
      rw [if_pos h2, sh_sh, bonus_snoc, rowsTo_len hr, Int.zero_add]
    · have h2 : ok k p = false := by simpa using h2
      rw [h2]
      simp only [Bool.not_false, Bool.false_and, if_true, if_false, Bool.false_eq_true]
      unfold wt
      rw [if_neg (by rw [h2]; decide), sh_none]
theorem rows_all {taken : List Int} (nd : taken.Nodup) : ∀ (k m : Nat),
    S (rowsTo taken ok k) (fun row => sh (bonus bon 0 row) (rowV ok bon (cars k m) (left taken row))) = rowV ok bon (cars 0 (k + m)) taken
  | 0, m => by
    show op (sh 0 (rowV ok bon (cars 0 m) (left taken []))) none = _
    rw [op_none_right, sh_zero, Nat.zero_add]
    congr 1
    unfold left
    exact List.filter_eq_self.mpr (by intro a _; rfl)
  | k + 1, m => by
    rw [rows_step ok bon nd k m, rows_all nd k (m + 1)]
    congr 2
    omega
/-- all rows, each by its bonus: the value by rows -/
theorem rows_value {taken : List Int} (nd : taken.Nodup) {n : Nat} (hn : taken.length = n) : S (rowsTo taken ok n) (fun row => some (bonus bon 0 row, 1)) = rowV ok bon (cars 0 n) taken := by
  have h := rows_all ok bon nd n 0
  rw [Nat.add_zero] at h
  rw [← h]
  refine S_congr fun row hr => ?_
  have e : left taken row = [] := List.eq_nil_of_length_eq_zero (by have := rowsTo_left nd hr; omega)
  rw [e]
  show _ = sh (bonus bon 0 row) (some (0, 1))
  rw [sh_some, Int.zero_add]
end
/-! ### what a sum of ones is -/
def Agg (l : List Int) : M := S l fun s => some (s, 1)
theorem agg_nil : Agg [] = none := rfl
theorem agg_spec : ∀ {l : List Int} {b w : Int}, Agg l = some (b, w) → b ∈ l ∧ (∀ s ∈ l, s ≤ b) ∧ w = (l.count b : Nat)
  | [], b, w, h => by cases h
  | x :: l, b, w, h => by
    have h : op (some (x, 1)) (Agg l) = some (b, w) := h
    cases e : Agg l with
    | none =>
      rw [e] at h
      have e2 : (x, (1 : Int)) = (b, w) := Option.some.inj h
      cases e2
      have : l = [] := by
        cases l with
        | nil => rfl
        | cons y l =>
          have e : op (some (y, 1)) (Agg l) = none := e
          cases e3 : Agg l with
          | none => rw [e3] at e; cases e
          | some z =>
            rw [e3] at e
            obtain ⟨z1, z2⟩ := z
            simp only [op] at e
            split at e
            · cases e
            · split at e <;> cases e
      subst this
      refine ⟨by simp, by intro s hs; have : s = x := by simpa using hs
                          omega, ?_⟩
      simp
    | some y =>
      obtain ⟨c, v⟩ := y
      obtain ⟨i1, i2, i3⟩ := agg_spec e
      rw [e] at h
      simp only [op] at h
      by_cases h1 : x < c
      · rw [if_pos h1] at h
        cases h
        refine ⟨List.mem_cons_of_mem _ i1, fun s hs => ?_, ?_⟩
        · rcases List.mem_cons.mp hs with rfl | hs
          · omega
          · exact i2 s hs
        · rw [List.count_cons_of_ne (by omega)]
          exact i3
      · rw [if_neg h1] at h
        by_cases h2 : c < x
        · rw [if_pos h2] at h
          cases h
          refine ⟨List.mem_cons_self, fun s hs => ?_, ?_⟩
          · rcases List.mem_cons.mp hs with rfl | hs
            · omega
            · have := i2 s hs
              omega
          · rw [List.count_cons_self]
            have : l.count x = 0 := List.count_eq_zero.mpr fun hm => by
              have := i2 x hm
              omega
            omega
        · rw [if_neg h2] at h
          cases h
          have ex : x = c := by omega
          subst ex
          refine ⟨List.mem_cons_self, fun s hs => ?_, ?_⟩
          · rcases List.mem_cons.mp hs with rfl | hs
            · omega
            · exact i2 s hs
          · rw [List.count_cons_self]
            omega
theorem agg_some {l : List Int} (h : l ≠ []) : ∃ b w, Agg l = some (b, w) := by
  cases e : Agg l with
  | some y => exact ⟨y.1, y.2, rfl⟩
  | none =>
    cases l with
    | nil => exact absurd rfl h
    | cons y l =>
      have e : op (some (y, 1)) (Agg l) = none := e
      cases e3 : Agg l with
      | none => rw [e3] at e; cases e
      | some z =>
        rw [e3] at e
        obtain ⟨z1, z2⟩ := z
        simp only [op] at e
        split at e
        · cases e
        · split at e <;> cases e
/-! ### the dict of the program -/
abbrev D := List (List Int × Int × Int)
def look (d : D) (K : List Int) : M := (d.find? fun e => decide (e.1 = K)).map (·.2)
theorem look_nil (K : List Int) : look [] K = none := rfl
theorem look_cons (e : List Int × Int × Int) (d : D) (K : List Int) : look (e :: d) K = if e.1 = K then some e.2 else look d K := by
  unfold look
  rw [List.find?_cons]
  by_cases h : e.1 = K
  · rw [if_pos h]
    simp [h]
  · rw [if_neg h]
    simp [h]
def setD (d : D) (K : List Int) (y : Int × Int) : D := if (look d K).isSome = true then d.map fun e => if e.1 = K then (e.1, y) else e else d ++ [(K, y)]
theorem look_map (K : List Int) (y : Int × Int) (J : List Int) : ∀ d : D, look (d.map fun e => if e.1 = K then (e.1, y) else e) J = if J = K then (look d J).map (fun _ => y) else look d J
  | [] => by
    split <;> rfl
  | e :: d => by
    have ih := look_map K y J d
    rw [List.map_cons, look_cons, look_cons]
    by_cases h1 : e.1 = K
    · rw [if_pos h1]
      by_cases h2 : e.1 = J
      · rw [if_pos h2, if_pos h2, if_pos (h2.symm.trans h1)]
        rfl
      · rw [if_neg h2, if_neg h2, ih]
    · rw [if_neg h1]
      by_cases h2 : e.1 = J
      · rw [if_pos h2, if_pos h2, if_neg (fun z => h1 (h2.trans z))]
      · rw [if_neg h2, if_neg h2, ih]
theorem look_snoc (K : List Int) (y : Int × Int) (J : List Int) : ∀ d : D, look d K = none → look (d ++ [(K, y)]) J = if J = K then some y else look d J
  | [], _ => by
    show look [(K, y)] J = _
    rw [look_cons, look_nil]
    by_cases h : K = J
    · rw [if_pos h, if_pos h.symm]
    · rw [if_neg h, if_neg fun z => h z.symm]
  | e :: d, h => by
    rw [look_cons] at h
    by_cases h1 : e.1 = K
    · rw [if_pos h1] at h
      cases h
    · rw [if_neg h1] at h
      rw [List.cons_append, look_cons, look_cons, look_snoc K y J d h]
      by_cases h2 : e.1 = J
      · rw [if_pos h2, if_pos h2, if_neg]
        intro z
        exact h1 (h2.trans z)
      · rw [if_neg h2, if_neg h2]
theorem look_setD (d : D) (K : List Int) (y : Int × Int) (J : List Int) : look (setD d K y) J = if J = K then some y else look d J := by
  unfold setD
  by_cases h : (look d K).isSome = true
  · rw [if_pos h, look_map]
    by_cases e : J = K
    · subst e
      rw [if_pos rfl, if_pos rfl]
      cases q : look d J with
      | none => rw [q] at h; cases h
      | some z => rfl
    · rw [if_neg e, if_neg e]
  · rw [if_neg h]
    have hn : look d K = none := by
      cases q : look d K with
      | none => rfl
      | some z => rw [q] at h; exact absurd rfl h
    exact look_snoc K y J d hn
theorem look_none {d : D} {K : List Int} (h : look d K = none) : K ∉ d.map (·.1) := by
  induction d with
  | nil => simp
  | cons e d ih =>
    rw [look_cons] at h
    by_cases h1 : e.1 = K
    · rw [if_pos h1] at h; cases h
    · rw [if_neg h1] at h
      rw [List.map_cons, List.mem_cons]
      rintro (z | z)
      · exact h1 z.symm
      · exact ih h z
theorem keys_setD (d : D) (K : List Int) (y : Int × Int) : (setD d K y).map (·.1) = if (look d K).isSome = true then d.map (·.1) else d.map (·.1) ++ [K] := by
  unfold setD
  by_cases h : (look d K).isSome = true
  · rw [if_pos h, if_pos h, List.map_map]
    refine List.map_congr_left fun e _ => ?_
    show (if e.1 = K then (e.1, y) else e).1 = e.1
    split <;> rfl
  · rw [if_neg h, if_neg h, List.map_append]
    rfl
theorem nd_setD {d : D} (nd : (d.map (·.1)).Nodup) (K : List Int) (y : Int × Int) : ((setD d K y).map (·.1)).Nodup := by
  rw [keys_setD]
  by_cases h : (look d K).isSome = true
  · rw [if_pos h]
    exact nd
  · rw [if_neg h]
    have hn : look d K = none := by
      cases q : look d K with
      | none => rfl
      | some z => rw [q] at h; exact absurd rfl h
    rw [List.nodup_append]
    refine ⟨nd, by simp, fun a ha b hb e => ?_⟩
    have : b = K := by simpa using hb
    subst this
    subst e
    exact look_none hn ha
/-- what the program does for one call of later -/
def upd1 (d : D) (K : List Int) (here many : Int) : D :=
  if ((look d K).getD (-1, 0)).1 < here then setD d K (here, many) else if here = ((look d K).getD (-1, 0)).1 then setD d K (((look d K).getD (-1, 0)).1, ((look d K).getD (-1, 0)).2 + many) else d
theorem look_upd1 (d : D) (K : List Int) {here : Int} (many : Int) (h0 : 0 ≤ here) (J : List Int) : look (upd1 d K here many) J = if J = K then op (look d K) (some (here, many)) else look d J := by
  unfold upd1
  cases q : look d K with
  | none =>
    show look (if (-1 : Int) < here then _ else _) J = _
    rw [if_pos (by omega), look_setD, op_none_left]
  | some y =>
    obtain ⟨b, w⟩ := y
    show look (if b < here then _ else if here = b then setD d K (b, w + many) else d) J = _
    simp only [op]
    by_cases h1 : b < here
    · rw [if_pos h1, if_pos h1, look_setD]
    · rw [if_neg h1, if_neg h1]
      by_cases h2 : here = b
      · rw [if_pos h2, if_neg (show ¬ here < b by omega), look_setD]
      · rw [if_neg h2, if_pos (show here < b by omega)]
        by_cases e : J = K
        · subst e
          rw [if_pos rfl, q]
        · rw [if_neg e]
theorem nd_upd1 {d : D} (nd : (d.map (·.1)).Nodup) (K : List Int) (here many : Int) : ((upd1 d K here many).map (·.1)).Nodup := by
  unfold upd1
  split
  · exact nd_setD nd _ _
  · split
    · exact nd_setD nd _ _
    · exact nd
theorem mem_setD {d : D} {K : List Int} {y : Int × Int} {e : List Int × Int × Int} (h : e ∈ setD d K y) : e ∈ d ∨ e = (K, y) := by
  unfold setD at h
  split at h
  · obtain ⟨e', h1, h2⟩ := List.mem_map.mp h
    by_cases h3 : e'.1 = K
    · rw [if_pos h3] at h2
      right
      rw [← h2, h3]
    · rw [if_neg h3] at h2
      left
      rw [← h2]
      exact h1
  · rcases List.mem_append.mp h with h | h
    · exact .inl h
    · right
      simpa using h
theorem mem_upd1 {d : D} {K : List Int} {here many : Int} {e : List Int × Int × Int} (h : e ∈ upd1 d K here many) : e ∈ d ∨ (e.1 = K ∧ e.2.1 = here) := by
  unfold upd1 at h
  split at h
  · rcases mem_setD h with h | h
    · exact .inl h
    · exact .inr ⟨by rw [h], by rw [h]⟩
  · split at h
    · rename_i hb
      rcases mem_setD h with h | h
      · exact .inl h
      · exact .inr ⟨by rw [h], by rw [h]; exact hb.symm⟩
    · exact .inl h
/-- contributions, one after another -/
def upds (d : D) (cs : List (List Int × Int × Int)) : D := cs.foldl (fun d c => upd1 d c.1 c.2.1 c.2.2) d
theorem upds_snoc (d : D) (cs : List (List Int × Int × Int)) (c : List Int × Int × Int) : upds d (cs ++ [c]) = upd1 (upds d cs) c.1 c.2.1 c.2.2 := by
  unfold upds
  rw [List.foldl_append]
  rfl
theorem upds_append (d : D) (cs cs' : List (List Int × Int × Int)) : upds d (cs ++ cs') = upds (upds d cs) cs' := by
  unfold upds
  rw [List.foldl_append]
theorem look_upds : ∀ (cs : List (List Int × Int × Int)) (d : D), (∀ c ∈ cs, 0 ≤ c.2.1) → ∀ J, look (upds d cs) J = op (look d J) (S cs fun c => if c.1 = J then some c.2 else none)
  | [], d, _, J => by
    rw [S_nil, op_none_right]
    rfl
  | c :: cs, d, h, J => by
    show look (upds (upd1 d c.1 c.2.1 c.2.2) cs) J = _
    rw [look_upds cs _ (fun x hx => h x (List.mem_cons_of_mem _ hx)), look_upd1 d c.1 c.2.2 (h c List.mem_cons_self), S_cons]
    by_cases e : J = c.1
    · subst e
      rw [if_pos rfl, if_pos rfl, op_assoc]
    · rw [if_neg e, if_neg fun z => e z.symm, op_none_left]
theorem nd_upds : ∀ (cs : List (List Int × Int × Int)) {d : D}, (d.map (·.1)).Nodup → ((upds d cs).map (·.1)).Nodup
  | [], d, h => h
  | c :: cs, d, h => nd_upds cs (nd_upd1 h _ _ _)
theorem mem_upds : ∀ (cs : List (List Int × Int × Int)) {d : D} {e : List Int × Int × Int}, e ∈ upds d cs → e ∈ d ∨ ∃ c ∈ cs, e.1 = c.1 ∧ e.2.1 = c.2.1
  | [], d, e, h => .inl h
  | c :: cs, d, e, h => by
    rcases mem_upds cs h with h | ⟨c', h1, h2⟩
    · rcases mem_upd1 h with h | h
      · exact .inl h
      · exact .inr ⟨c, List.mem_cons_self, h⟩
    · exact .inr ⟨c', List.mem_cons_of_mem _ h1, h2⟩
theorem S_look {d : D} (nd : (d.map (·.1)).Nodup) (K : List Int) {h : M → M} (h0 : h none = none) : S d (fun e => if e.1 = K then h (some e.2) else none) = h (look d K) := by
  induction d with
  | nil => exact h0.symm
  | cons e d ih =>
    rw [List.map_cons, List.nodup_cons] at nd
    rw [S_cons, ih nd.2, look_cons]
    by_cases h1 : e.1 = K
    · rw [if_pos h1, if_pos h1]
      have : look d K = none := by
        cases q : look d K with
        | none => rfl
        | some z =>
          exfalso
          unfold look at q
          cases q2 : d.find? fun e => decide (e.1 = K) with
          | none => rw [q2] at q; cases q
          | some y =>
            have a := List.find?_some q2
            have b := List.mem_of_find?_eq_some q2
            have a : y.1 = K := of_decide_eq_true a
            exact nd.1 (by rw [h1, ← a]; exact List.mem_map_of_mem b)
      rw [this, h0, op_none_right]
    · rw [if_neg h1, if_neg h1, op_none_left]
/-! ### one place: from found to later -/
section
variable (ok : Int → Int → Bool) (bon : Int → Int → Int)
/-- sorted, as a function -/
def srt (l : List Int) : List Int := l.mergeSort fun a b => decide (a ≤ b)
theorem srt_perm (l : List Int) : (srt l).Perm l := List.mergeSort_perm _ _
theorem srt_le (l : List Int) : (srt l).Pairwise (· ≤ ·) := by
  have := List.pairwise_mergeSort (le := fun a b : Int => decide (a ≤ b)) (fun a b c h1 h2 => by
    have h1 := of_decide_eq_true h1
    have h2 := of_decide_eq_true h2
    exact decide_eq_true (by omega)) (fun a b => by
    rcases Int.le_total a b with h | h
    · simp [h]
    · simp [h]) l
  exact this.imp fun h => of_decide_eq_true h
theorem srt_uniq {l m : List Int} (p : m.Perm l) (s : m.Pairwise (· ≤ ·)) : m = srt l :=
  (p.trans (srt_perm l).symm).eq_of_pairwise (fun x y _ _ h1 h2 => Int.le_antisymm h1 h2) s (srt_le l)
/-- what one car gives at one entry -/
def con1 (p : Int) (e : List Int × Int × Int) (c : Int) : List (List Int × Int × Int) :=
  if (e.1.contains c = false ∧ ok c p = true) then [(srt (e.1 ++ [c]), e.2.1 + bon c p, e.2.2)] else []
def conE (p : Int) (n : Nat) (e : List Int × Int × Int) : List (List Int × Int × Int) := (cars 0 n).flatMap (con1 ok bon p e)
def stepD (n : Nat) (d : D) (p : Int) : D := upds [] (d.flatMap (conE ok bon p n))
/-- keys are ascending lists of cars, the numbers are not below 0 -/
def Good (n : Nat) (d : D) : Prop := (d.map (·.1)).Nodup ∧ ∀ e ∈ d, e.1.Pairwise (· < ·) ∧ (∀ c ∈ e.1, c ∈ cars 0 n) ∧ 0 ≤ e.2.1
theorem lt_le {l : List Int} (h : l.Pairwise (· < ·)) : l.Pairwise (· ≤ ·) := h.imp fun h => Int.le_of_lt h
theorem lt_nd {l : List Int} (h : l.Pairwise (· < ·)) : l.Nodup := h.imp fun h => Int.ne_of_lt h
theorem srt_lt {l : List Int} (h : l.Nodup) : (srt l).Pairwise (· < ·) := by
  have n : (srt l).Nodup := (srt_perm l).nodup_iff.mpr h
  exact (srt_le l).imp₂ (fun x y h1 h2 => by have h2 : x ≠ y := h2; omega) n
theorem key_iff {K done : List Int} {c : Int} (hK : K.Pairwise (· < ·)) (hd : done.Pairwise (· < ·)) : (done.contains c = false ∧ srt (done ++ [c]) = K) ↔ (c ∈ K ∧ done = K.erase c) := by
  constructor
  · rintro ⟨h1, h2⟩
    have h1 : c ∉ done := by
      intro z
      rw [List.contains_iff_mem.mpr z] at h1
      cases h1
    have p : K.Perm (done ++ [c]) := by rw [← h2]; exact srt_perm _
    refine ⟨p.mem_iff.mpr (by simp), ?_⟩
    have p2 : (K.erase c).Perm done := by
      have := p.erase c
      rw [List.erase_append_right _ h1] at this
      simpa using this
    exact (p2.eq_of_pairwise (fun x y _ _ h1 h2 => Int.le_antisymm h1 h2) (lt_le (hK.sublist List.erase_sublist)) (lt_le hd)).symm
  · rintro ⟨h1, h2⟩
    have h3 : c ∉ done := by
      rw [h2]
      exact fun z => ((lt_nd hK).mem_erase_iff.mp z).1 rfl
    refine ⟨by
      cases q : done.contains c with
      | false => rfl
      | true => exact absurd (List.contains_iff_mem.mp q) h3, ?_⟩
    refine (srt_uniq ?_ (lt_le hK)).symm
    rw [h2]
    exact (List.perm_cons_erase h1).trans (List.perm_append_comm (l₁ := [c]))
theorem con1_nonneg {p : Int} {e : List Int × Int × Int} {c : Int} (hb : ∀ c p, 0 ≤ bon c p) (he : 0 ≤ e.2.1) : ∀ x ∈ con1 ok bon p e c, 0 ≤ x.2.1 := by
  intro x hx
  unfold con1 at hx
  split at hx
  · have : x = (srt (e.1 ++ [c]), e.2.1 + bon c p, e.2.2) := by simpa using hx
    rw [this]
    show 0 ≤ e.2.1 + bon c p
    have := hb c p
    omega
  · cases hx
theorem stepD_good {n : Nat} {d : D} {p : Int} (hb : ∀ c p, 0 ≤ bon c p) (g : Good n d) : Good n (stepD ok bon n d p) := by
  refine ⟨nd_upds _ List.nodup_nil, fun e he => ?_⟩
  rcases mem_upds _ he with he | ⟨x, hx, e1, e2⟩
  · cases he
  · obtain ⟨y, hy, hx⟩ := List.mem_flatMap.mp hx
    obtain ⟨c, hc, hx⟩ := List.mem_flatMap.mp hx
    obtain ⟨g1, g2, g3⟩ := g.2 y hy
    have nn := con1_nonneg ok bon hb g3 x hx
    unfold con1 at hx
    split at hx
    · rename_i hh
      have ex : x = (srt (y.1 ++ [c]), y.2.1 + bon c p, y.2.2) := by simpa using hx
      have h1 : c ∉ y.1 := by
        intro z
        rw [List.contains_iff_mem.mpr z] at hh
        cases hh.1
      rw [e1, e2]
      refine ⟨?_, ?_, nn⟩
      · rw [ex]
        refine srt_lt ?_
        rw [List.nodup_append]
        refine ⟨lt_nd g1, by simp, fun a ha b hb' e => ?_⟩
        have : b = c := by simpa using hb'
        subst this
        subst e
        exact h1 ha
      · rw [ex]
        intro a ha
        have ha : a ∈ srt (y.1 ++ [c]) := ha
        rcases List.mem_append.mp ((srt_perm _).mem_iff.mp ha) with ha | ha
        · exact g2 a ha
        · have : a = c := by simpa using ha
          rw [this]
          exact hc
    · cases hx
theorem sub_filter : ∀ {C K : List Int}, C.Pairwise (· < ·) → K.Pairwise (· < ·) → (∀ c ∈ K, c ∈ C) → C.filter (fun c => K.contains c) = K := by
  intro C K hC hK h
  have p : (C.filter (fun c => K.contains c)).Perm K := by
    refine (List.perm_ext_iff_of_nodup ((lt_nd hC).filter _) (lt_nd hK)).mpr fun x => ?_
    rw [List.mem_filter]
    constructor
    · rintro ⟨_, h2⟩
      exact List.contains_iff_mem.mp h2
    · intro hx
      exact ⟨h x hx, List.contains_iff_mem.mpr hx⟩
  exact p.eq_of_pairwise (fun x y _ _ h1 h2 => Int.le_antisymm h1 h2) (lt_le (hC.filter _)) (lt_le hK)
theorem cars_lt (n : Nat) : ∀ k, (cars k n).Pairwise (· < ·) := by
  intro k
  unfold cars
  rw [List.pairwise_map]
  exact (List.pairwise_lt_range' (s := k) (n := n) (step := 1)).imp fun h => by omega
theorem look_step {n : Nat} {d : D} {p : Int} (hb : ∀ c p, 0 ≤ bon c p) (g : Good n d) {K : List Int} (hK : K.Pairwise (· < ·)) (hKC : ∀ c ∈ K, c ∈ cars 0 n) :
    look (stepD ok bon n d p) K = S K fun c => wt ok bon c p (look d (K.erase c)) := by
  unfold stepD
  rw [look_upds, look_nil, op_none_left, S_flatMap]
  · have e1 : S d (fun e => S (conE ok bon p n e) fun x => if x.1 = K then some x.2 else none) =
        S d (fun e => S (cars 0 n) fun c => if K.contains c = true then (if e.1 = K.erase c then wt ok bon c p (some e.2) else none) else none) := by
      refine S_congr fun e he => ?_
      unfold conE
      rw [S_flatMap]
      refine S_congr fun c hc => ?_
      have ki := key_iff (c := c) hK (g.2 e he).1
      unfold con1
      by_cases h1 : e.1.contains c = false ∧ ok c p = true
      · rw [if_pos h1, S_cons, S_nil, op_none_right]
        by_cases h2 : srt (e.1 ++ [c]) = K
        · obtain ⟨k1, k2⟩ := ki.mp ⟨h1.1, h2⟩
          rw [if_pos h2, if_pos (List.contains_iff_mem.mpr k1), if_pos k2]
          unfold wt
          rw [if_pos h1.2]
          rfl
        · rw [if_neg h2]
          by_cases h3 : K.contains c = true
          · rw [if_pos h3]
            by_cases h4 : e.1 = K.erase c
            · exact absurd (ki.mpr ⟨List.contains_iff_mem.mp h3, h4⟩).2 h2
            · rw [if_neg h4]
          · rw [if_neg h3]
      · rw [if_neg h1, S_nil]
        by_cases h3 : K.contains c = true
        · rw [if_pos h3]
          by_cases h4 : e.1 = K.erase c
          · have := (ki.mpr ⟨List.contains_iff_mem.mp h3, h4⟩).1
            rw [if_pos h4]
            unfold wt
            rw [if_neg fun z => h1 ⟨this, z⟩]
          · rw [if_neg h4]
        · rw [if_neg h3]
    rw [e1, S_swap]
    have e2 : S (cars 0 n) (fun c => S d fun e => if K.contains c = true then (if e.1 = K.erase c then wt ok bon c p (some e.2) else none) else none) =
        S (cars 0 n) (fun c => if K.contains c = true then wt ok bon c p (look d (K.erase c)) else none) := by
      refine S_congr fun c hc => ?_
      by_cases h3 : K.contains c = true
      · rw [if_pos h3]
        have e3 : (fun e : List Int × Int × Int => if K.contains c = true then (if e.1 = K.erase c then wt ok bon c p (some e.2) else none) else none) = fun e => if e.1 = K.erase c then wt ok bon c p (some e.2) else none := by
          funext e
          rw [if_pos h3]
        rw [e3, S_look g.1 _ (wt_none ok bon c p)]
      · rw [if_neg h3]
        exact S_none fun e _ => by rw [if_neg h3]
    rw [e2, ← S_filter, sub_filter (cars_lt n 0) hK hKC]
  · intro x hx
    obtain ⟨e, he, hx⟩ := List.mem_flatMap.mp hx
    obtain ⟨c, hc, hx⟩ := List.mem_flatMap.mp hx
    exact con1_nonneg ok bon hb (g.2 e he).2.2 x hx
def found0 : D := [([], 0, 1)]
def dp (n : Nat) (ps : List Int) : D := ps.foldl (stepD ok bon n) found0
theorem good0 (n : Nat) : Good n found0 := by
  refine ⟨by simp [found0], fun e he => ?_⟩
  have : e = ([], 0, 1) := by simpa [found0] using he
  subst this
  exact ⟨List.Pairwise.nil, fun c hc => by simp at hc, Int.le_refl 0⟩
theorem dp_snoc (n : Nat) (ps : List Int) (p : Int) : dp ok bon n (ps ++ [p]) = stepD ok bon n (dp ok bon n ps) p := by
  unfold dp
  rw [List.foldl_append]
  rfl
theorem dp_good {n : Nat} (hb : ∀ c p, 0 ≤ bon c p) (ps : List Int) : Good n (dp ok bon n ps) := by
  have key : ∀ (ps : List Int) (d : D), Good n d → Good n (ps.foldl (stepD ok bon n) d) := by
    intro ps
    induction ps with
    | nil => intro d h; exact h
    | cons p ps ih => intro d h; exact ih _ (stepD_good ok bon hb h)
  exact key ps _ (good0 n)
theorem dp_look {n : Nat} (hb : ∀ c p, 0 ≤ bon c p) : ∀ (rs : List Int) {K : List Int}, K.Pairwise (· < ·) → (∀ c ∈ K, c ∈ cars 0 n) → look (dp ok bon n rs.reverse) K = colV ok bon rs K
  | [], K, hK, hKC => by
    show look [([], 0, 1)] K = if K = [] then some (0, 1) else none
    rw [look_cons, look_nil]
    by_cases h : K = []
    · rw [if_pos h, if_pos h.symm]
    · rw [if_neg h, if_neg fun z => h z.symm]
  | p :: rs, K, hK, hKC => by
    rw [List.reverse_cons, dp_snoc, look_step ok bon hb (dp_good ok bon hb _) hK hKC]
    show _ = S K fun c => wt ok bon c p (colV ok bon rs (K.erase c))
    refine S_congr fun c _ => ?_
    rw [dp_look hb rs (hK.sublist List.erase_sublist) fun x hx => hKC x (List.mem_of_mem_erase hx)]
/-- THE LAW of stays_in: found at all cars is what all rows give -/
theorem dp_rows {n : Nat} (hb : ∀ c p, 0 ≤ bon c p) {taken : List Int} (nd : taken.Nodup) (hn : taken.length = n) :
    look (dp ok bon n taken) (cars 0 n) = Agg ((rowsTo taken ok n).map (bonus bon 0)) := by
  have h := dp_look ok bon hb taken.reverse (cars_lt n 0) fun c hc => hc
  rw [List.reverse_reverse] at h
  rw [h, ← row_eq_col ok bon taken.reverse (cars 0 n) (lt_nd (cars_lt n 0)) ((List.reverse_perm taken).nodup_iff.mpr nd), rowV_perm ok bon (cars 0 n) (List.reverse_perm taken), ← rows_value ok bon nd hn]
  unfold Agg
  rw [S_map]
end
end KM
set_option maxHeartbeats 1000000
/-! The plain law: what the program and the law reckon of a street and a state. -/
namespace KM
def gt (l : List Int) (c : Int) : Int := l.getD c.toNat 0
def okA (homes : List Int) (c p : Int) : Bool := decide (gt homes c ≤ p)
def okB (homes st : List Int) (c p : Int) : Bool := decide (gt homes c ≤ p ∧ p ≤ gt st c)
def bonS (st : List Int) (c p : Int) : Int := if p = gt st c then 1 else 0
theorem bonS_nonneg (st : List Int) (c p : Int) : 0 ≤ bonS st c p := by
  unfold bonS
  split <;> decide
theorem gt_nat (l : List Int) (k : Nat) : gt l (k : Int) = l.getD k 0 := by
  unfold gt
  rw [Int.toNat_natCast]
/-! ### the order of the rows -/
theorem lex_app : ∀ {a b x y : List Int}, a.length = b.length → a < b → a ++ x < b ++ y
  | [], [], x, y, _, h => absurd h (List.lt_irrefl [])
  | u :: a, v :: b, x, y, e, h => by
    rw [List.cons_append, List.cons_append, List.cons_lt_cons_iff]
    rcases List.cons_lt_cons_iff.mp h with h | ⟨h1, h2⟩
    · exact .inl h
    · exact .inr ⟨h1, lex_app (by simpa using e) h2⟩
theorem lex_same (a : List Int) {p q : Int} (h : p < q) : a ++ [p] < a ++ [q] := by
  induction a with
  | nil => exact List.cons_lt_cons_iff.mpr (.inl h)
  | cons u a ih => exact List.cons_lt_cons_iff.mpr (.inr ⟨rfl, ih⟩)
theorem rowsTo_lt {taken : List Int} {ok : Int → Int → Bool} (ht : taken.Pairwise (· < ·)) : ∀ k : Nat, (rowsTo taken ok k).Pairwise (· < ·)
  | 0 => by simp [rowsTo]
  | k + 1 => by
    have ih := rowsTo_lt (ok := ok) ht k
    show (ext taken (ok k) (rowsTo taken ok k)).Pairwise (· < ·)
    unfold ext
    rw [List.pairwise_flatMap]
    refine ⟨fun row _ => ?_, ?_⟩
    · rw [List.pairwise_map]
      exact (ht.filter _).imp fun h => lex_same row h
    · refine List.Pairwise.imp_of_mem ?_ ih
      intro a b ha hb hab x hx y hy
      obtain ⟨p, _, rfl⟩ := List.mem_map.mp hx
      obtain ⟨q, _, rfl⟩ := List.mem_map.mp hy
      exact lex_app (by rw [rowsTo_len ha, rowsTo_len hb]) hab
/-! ### the law's rests that are below the state are the program's -/
def fitTo (st row : List Int) (k : Nat) : Bool := (List.range k).all fun c => decide (0 ≤ st.getD c 0 - row.getD c 0)
theorem getD_app {row : List Int} {p : Int} {c : Nat} (h : c < row.length) : (row ++ [p]).getD c 0 = row.getD c 0 := by
  rw [List.getD_eq_getElem?_getD, List.getD_eq_getElem?_getD, List.getElem?_append_left h]
theorem getD_last {row : List Int} {p : Int} {k : Nat} (h : row.length = k) : (row ++ [p]).getD k 0 = p := by
  rw [List.getD_eq_getElem?_getD, List.getElem?_append_right (by omega), h, Nat.sub_self]
  rfl
theorem fitTo_snoc {st row : List Int} {p : Int} {k : Nat} (h : row.length = k) : fitTo st (row ++ [p]) (k + 1) = (fitTo st row k && decide (p ≤ st.getD k 0)) := by
  unfold fitTo
  rw [List.range_succ, List.all_append]
  congr 1
  · rw [Bool.eq_iff_iff, List.all_eq_true, List.all_eq_true]
    constructor
    · intro a c hc
      have := a c hc
      rw [getD_app (by rw [List.mem_range] at hc; omega)] at this
      exact this
    · intro a c hc
      rw [getD_app (by rw [List.mem_range] at hc; omega)]
      exact a c hc
  · rw [List.all_cons, List.all_nil, Bool.and_true, getD_last h]
    exact decide_eq_decide.mpr (by omega)
theorem flatMap_filter {α β : Type} (p : α → Bool) (q : β → Bool) (f g : α → List β) : ∀ l : List α, (∀ a ∈ l, (f a).filter q = if p a = true then g a else []) → (l.flatMap f).filter q = (l.filter p).flatMap g
  | [], _ => rfl
  | a :: l, h => by
    rw [List.flatMap_cons, List.filter_append, flatMap_filter p q f g l fun b hb => h b (List.mem_cons_of_mem _ hb), h a List.mem_cons_self]
    by_cases e : p a = true
    · rw [if_pos e, List.filter_cons_of_pos e, List.flatMap_cons]
    · rw [if_neg e, List.filter_cons_of_neg e, List.nil_append]
theorem rows_fit {taken homes st : List Int} : ∀ k : Nat, (rowsTo taken (okA homes) k).filter (fun row => fitTo st row k) = rowsTo taken (okB homes st) k
  | 0 => rfl
  | k + 1 => by
    show (ext taken (okA homes k) (rowsTo taken (okA homes) k)).filter _ = ext taken (okB homes st k) (rowsTo taken (okB homes st) k)
    rw [← rows_fit k]
    unfold ext
    refine flatMap_filter _ _ _ _ _ fun row hr => ?_
    have hl := rowsTo_len hr
    rw [List.filter_map]
    have e : ((fun r => fitTo st r (k + 1)) ∘ fun p => row ++ [p]) = fun p => (fitTo st row k && decide (p ≤ st.getD k 0)) := by
      funext p
      exact fitTo_snoc hl
    rw [e]
    by_cases h : fitTo st row k = true
    · rw [if_pos h, h, List.filter_filter]
      congr 1
      refine List.filter_congr fun p _ => ?_
      unfold okA okB
      rw [gt_nat, gt_nat, Bool.true_and, Bool.decide_and, Bool.and_comm, Bool.and_assoc, Bool.and_assoc, Bool.and_comm (!row.contains p)]
    · have h : fitTo st row k = false := by simpa using h
      rw [h]
      simp
/-! ### there is one -/
theorem mem_rowsTo {taken : List Int} {ok : Int → Int → Bool} {t : List Int} (nd : t.Nodup) (hm : ∀ x ∈ t, x ∈ taken) (hok : ∀ (c : Nat), c < t.length → ok (c : Int) (t.getD c 0) = true) : ∀ k : Nat, k ≤ t.length → t.take k ∈ rowsTo taken ok k
  | 0, _ => by simp [rowsTo]
  | k + 1, h => by
    have ih := mem_rowsTo nd hm hok k (by omega)
    have hk : k < t.length := h
    have e : t.take (k + 1) = t.take k ++ [t[k]] := by
      rw [List.take_add_one, List.getElem?_eq_getElem hk]
      rfl
    have hg : t.getD k 0 = t[k] := by
      rw [List.getD_eq_getElem?_getD, List.getElem?_eq_getElem hk]
      rfl
    rw [e]
    refine List.mem_flatMap.mpr ⟨_, ih, List.mem_map.mpr ⟨t[k], List.mem_filter.mpr ⟨hm _ (List.getElem_mem hk), ?_⟩, rfl⟩⟩
    have h1 := hok k hk
    rw [hg] at h1
    rw [h1, Bool.true_and]
    cases q : (t.take k).contains t[k] with
    | false => rfl
    | true =>
      exfalso
      have hc := List.contains_iff_mem.mp q
      obtain ⟨j, hj⟩ := List.mem_iff_getElem?.mp hc
      rw [List.getElem?_take] at hj
      by_cases hjk : j < k
      · rw [if_pos hjk] at hj
        obtain ⟨hjl, ej⟩ := List.getElem?_eq_some_iff.mp hj
        exact absurd ej ((List.pairwise_iff_getElem.mp nd) j k hjl hk hjk)
      · rw [if_neg hjk] at hj
        cases hj
/-- what the law draws -/
structure OkSt (homes st : List Int) : Prop where
  len : st.length = homes.length
  nd : st.Nodup
  low : ∀ i (h : i < homes.length) (h2 : i < st.length), homes[i] ≤ st[i]
theorem getD_at {l : List Int} {i : Nat} (h : i < l.length) : l.getD i 0 = l[i] := by
  rw [List.getD_eq_getElem?_getD, List.getElem?_eq_getElem h]
  rfl
theorem rests_some {homes st taken : List Int} (o : OkSt homes st) (tk : IsTaken homes taken) : rowsTo taken (okB homes st) homes.length ≠ [] := by
  obtain ⟨t, t1, t2, t3, t4⟩ := rest_below o.len o.nd o.low tk
  have h := mem_rowsTo (ok := okB homes st) t2 t3 (fun c hc => by
    unfold okB
    have h1 : c < homes.length := by omega
    have h2 : c < st.length := by rw [o.len]; exact h1
    rw [gt_nat, gt_nat, getD_at hc, getD_at h1, getD_at h2]
    exact decide_eq_true (t4 c h1 hc h2)) t.length (Nat.le_refl _)
  rw [t1] at h
  exact List.ne_nil_of_mem h
/-! ### stays and calls -/
def unl (st row : List Int) : Int := (((List.range st.length).filter fun c => decide (row.getD c 0 ≠ st.getD c 0)).length : Nat)
theorem bonus_count (st : List Int) : ∀ (row : List Int) (k : Nat), bonus (bonS st) k row + (((List.range row.length).filter fun c => decide (row.getD c 0 ≠ st.getD (k + c) 0)).length : Nat) = row.length
  | [], k => rfl
  | p :: row, k => by
    have ih := bonus_count st row (k + 1)
    rw [List.length_cons, List.range_succ_eq_map, List.filter_cons, List.filter_map, show ((k + 1 : Nat) : Int) = (k : Int) + 1 by omega] at *
    show bonS st k p + bonus (bonS st) (k + 1) row + _ = _
    have e1 : ((fun c => decide ((p :: row).getD c 0 ≠ st.getD (k + c) 0)) ∘ Nat.succ) = fun c => decide (row.getD c 0 ≠ st.getD (k + 1 + c) 0) := by
      funext c
      show decide (row.getD c 0 ≠ st.getD (k + (c + 1)) 0) = _
      rw [show k + (c + 1) = k + 1 + c by omega]
    rw [e1]
    have hb : bonS st k p = if p = st.getD k 0 then 1 else 0 := by
      unfold bonS
      rw [gt_nat]
    rw [hb]
    by_cases h : p = st.getD k 0
    · rw [if_pos h, if_neg (by
        show ¬ decide (p ≠ st.getD (k + 0) 0) = true
        rw [Nat.add_zero, decide_eq_true_eq]
        exact fun z => z h), List.length_map]
      omega
    · rw [if_neg h, if_pos (by
        show decide (p ≠ st.getD (k + 0) 0) = true
        rw [Nat.add_zero, decide_eq_true_eq]
        exact h), List.length_cons, List.length_map]
      omega
theorem bonus_unl {st row : List Int} (h : row.length = st.length) : bonus (bonS st) 0 row + unl st row = st.length := by
  have := bonus_count st row 0
  rw [show ((0 : Nat) : Int) = 0 from rfl] at this
  unfold unl
  rw [← h]
  simp only [Nat.zero_add] at this
  exact this
/-- THE LAW: fewest calls are what is left of the most stays; as many rests have them -/
theorem near_law {st : List Int} {R : List (List Int)} (hR : ∀ r ∈ R, r.length = st.length) {b w m : Int} (ha : Agg (R.map (bonus (bonS st) 0)) = some (b, w)) (hm : m ∈ R.map (unl st)) (hl : ∀ y ∈ R.map (unl st), m ≤ y) :
    (st.length : Int) - b = m ∧ w = ((R.filter fun r => decide (unl st r = m)).length : Nat) := by
  obtain ⟨b1, b2, b3⟩ := agg_spec ha
  have e : (st.length : Int) - b = m := by
    obtain ⟨r, hr, er⟩ := List.mem_map.mp b1
    obtain ⟨q, hq, eq⟩ := List.mem_map.mp hm
    have h1 := bonus_unl (hR r hr)
    have h2 := bonus_unl (hR q hq)
    have h3 := b2 _ (List.mem_map.mpr ⟨q, hq, rfl⟩)
    have h4 := hl _ (List.mem_map.mpr ⟨r, hr, rfl⟩)
    omega
  refine ⟨e, ?_⟩
  rw [b3, List.count_eq_countP, List.countP_map, List.countP_eq_length_filter]
  congr 2
  refine List.filter_congr fun r hr => ?_
  have h1 := bonus_unl (hR r hr)
  show (bonus (bonS st) 0 r == b) = decide (unl st r = m)
  rw [Bool.eq_iff_iff, beq_iff_eq, decide_eq_true_eq]
  omega
end KM
/-! Further rules of the layer: sorted of rows of ints, enumerate of a tuple, items of a dict with tuple keys, a display with one tuple key. -/
namespace KR
open PySem PySem.Spec PyProof.Rows L2
/-! ### sorted(xs), xs a list of tuples of ints that stand in their order -/
def rSortedL (K : PySem.W.Frag) : List V → Hp → VK → Prop := fun vs H Q => ∃ (a : Addr) (bs : List (Addr × List Int)), vs = [V.ref a] ∧ SqL K H a (bs.map fun b => V.ref b.1) ∧ (∀ b ∈ bs, SqT K H b.1 (b.2.map V.int) ∧ b.2 ≠ []) ∧
  (bs.map (·.2)).Pairwise (· < ·) ∧ ∀ p, H p = none → Q (.ref p) (upd H p (.lst (bs.map fun b => V.ref b.1)))
theorem each_refs : ∀ bs : List (Addr × List Int), PySem.W.EachIs (fun (v : Value) (b : Addr × List Int) => v = .ref b.1) (bs.map fun b => Value.ref b.1) bs
  | [] => .nil
  | b :: bs => .cons rfl (each_refs bs)
theorem each_back : ∀ {out : List Value} {bs : List (Addr × List Int)}, PySem.W.EachIs (fun (v : Value) (b : Addr × List Int) => v = .ref b.1) out bs → out = bs.map fun b => Value.ref b.1
  | _, _, .nil => rfl
  | _, _, .cons r t => by rw [r, each_back t]; rfl
theorem vals_refs : ∀ bs : List (Addr × List Int), Vals (bs.map fun b => V.ref b.1) (bs.map fun b => Value.ref b.1)
  | [] => .nil
  | b :: bs => .cons rfl (vals_refs bs)
theorem back_refs : ∀ {bs : List (Addr × List Int)} {us : List Value}, Vals (bs.map fun b => V.ref b.1) us → us = bs.map fun b => Value.ref b.1
  | [], _, .nil => rfl
  | b :: bs, _, .cons r t => by rw [show _ = Value.ref b.1 from r, back_refs t]; rfl
theorem reads_ints {h : Heap} : ∀ {ns : List Int} {us : List Value}, Vals (ns.map V.int) us → ReadsAll h us (ns.map .int) []
  | [], _, .nil => .nil
  | n :: ns, _, .cons r t => by
    obtain ⟨tk, rfl⟩ := r
    exact .cons (.int n tk) (reads_ints t)
section
variable {X : Cx}
theorem cr_sortedL (hu : X.A.units + 64 < cLine) : CallR X (.builtin "sorted") (rSortedL X.K) := by
  intro pins s σ H vs us Q I r ⟨a, bs, ev, hs, hx, hp, q⟩
  subst ev
  rw [Vals.ref1 r]
  obtain ⟨its, rv, hl, hz⟩ := Inv.list I hs
  have ei := back_refs rv
  subst ei
  rw [List.length_map] at hz
  refine PySem.W.sorted_data (R := fun v b => v = .ref b.1) (enc := fun b : Addr × List Int => PyData.tuple (b.2.map .int)) (bs := bs) hl.isList (each_refs bs) ?_ (PySem.W.AllAlike.of fun b b' => ?_) (.inl fun d hd => ?_) hz (fun b hb => ?_) fun out _ ho => ?_
  · have key : ∀ l : List (Addr × List Int), (∀ b ∈ l, b ∈ bs) → PySem.W.EachIs (fun (v : Value) (b : Addr × List Int) => ∃ as, Reads s.heap v (PyData.tuple (b.2.map .int)) as) (l.map fun b => Value.ref b.1) l := by
      intro l
      induction l with
      | nil => intro _; exact .nil
      | cons b l ih =>
        intro hb
        refine .cons ?_ (ih fun x hx => hb x (List.mem_cons_of_mem _ hx))
        obtain ⟨its, r, ⟨o, ho, hc, n, hd⟩, _⟩ := I.tuple (hx b (hb b List.mem_cons_self)).1
        exact ⟨[], .tuple ho hc hd (by simpa using reads_ints r)⟩
    exact key bs fun b hb => hb
  · show PySem.W.alike (.tuple (b.2.map .int)) (.tuple (b'.2.map .int)) = true
    simp only [PySem.W.alike]
    exact PySem.W.alike_ints _ _
  · obtain ⟨b, hb, rfl⟩ := List.mem_map.mp hd
    obtain ⟨_, hne⟩ := hx b hb
    cases e : b.2 with
    | nil => exact absurd e hne
    | cons x r => exact ⟨.int x, r.map .int, rfl⟩
  · have e : (PyData.tuple (b.2.map .int)).depth = 1 := by
      simp only [PyData.depth, PySem.W.depth_ints]
    show X.A.units + 2 + (PyData.tuple (b.2.map .int)).depth < cLine
    rw [e]
    omega
  · have es : bs.mergeSort (PySem.W.dataLe false fun b : Addr × List Int => PyData.tuple (b.2.map .int)) = bs := by
      refine List.mergeSort_of_pairwise ?_
      rw [List.pairwise_map] at hp
      refine hp.imp fun {x y} hxy => ?_
      show (!PySem.W.dataLt (.tuple (y.2.map .int)) (.tuple (x.2.map .int))) = true
      rw [PySem.W.dataLt_tuple]
      show (!PySem.W.rowLt (y.2.map .int) (x.2.map .int)) = true
      rw [PySem.W.dataLt_ints, decide_eq_false (List.lt_asymm hxy)]
      rfl
    rw [es] at ho
    have eo := each_back ho
    subst eo
    obtain ⟨n, hn⟩ := sortedAll_at s.heap (bs.map fun b => Value.ref b.1) (bs.map fun b => Value.ref b.1).toArray
    refine ⟨.ref (s.heap.objs.size + 1), upd H (s.heap.objs.size + 1) (.lst (bs.map fun b => V.ref b.1)), I.laid (t' := s.toks) (fun b o e => sortedAll_old e) (Nat.le_succ _) ⟨by rw [List.length_map]; exact hz, _, n, vals_refs bs, hn⟩, rfl, q _ (I.hok.fresh (Nat.le_succ _))⟩
end
/-! ### iterators that hand out a fresh pair each turn: one bridge from WalksT to the layer's Turn -/
theorem two_cells {h : Heap} {a b : Addr} {oa ob : Obj} {m n : String} (ea : h.get? a = some oa) (ca : oa.cls = .type m) (eb : h.get? b = some ob) (cb : ob.cls = .type n) (ne : m ≠ n) : a ≠ b := by
  rintro rfl
  obtain rfl : oa = ob := Option.some.inj (ea.symm.trans eb)
  exact ne (Value.type.inj (ca.symm.trans cb))
/-- what a turn may lean on: the walk of the library that tells it, and what the pair of this turn stands for -/
def PairTurn (X : Cx) (J : It) (I : Addr) (wr : List Addr) (tn : Nat → Heap → Prop) (H : Hp) (h : Heap) (i : Nat) : Prop :=
  ∃ (fp : List Addr) (n : Nat) (Pt : Nat → Array Value → Prop) (St : Nat → Heap → Prop) (Mid : Nat → Addr → Heap → Prop), WalksT X.prog X.w X.A I fp wr n Pt St Mid ∧ St i h ∧ i < n ∧ (∀ h2, St (i + 1) h2 → tn (i + 1) h2) ∧
    ∀ vals, Pt i vals → ∃ (x y : V) (u v : Value), vals = #[u, v] ∧ RelV x u ∧ RelV y v ∧ ∀ T, H T = none → J.yld i H (.ref T) (upd H T (.tup [x, y]))
def PairStop (X : Cx) (I : Addr) (wr : List Addr) (h : Heap) (i : Nat) : Prop :=
  ∃ (fp : List Addr) (Pt : Nat → Array Value → Prop) (St : Nat → Heap → Prop) (Mid : Nat → Addr → Heap → Prop), WalksT X.prog X.w X.A I fp wr i Pt St Mid ∧ St i h
theorem turn_pairs {P : Program} {w : World} {K : PySem.W.Frag} {elts : List Expr} {kk : Nat} {tpos : Pos} {J : It} {I : Addr} {wr : List Addr} {tn : Nat → Heap → Prop} (mem : I ∈ wr)
    (obj : ∀ i h, tn i h → ∀ b ∈ wr, ∃ o, h.get? b = some o ∧ ∀ v, o.data ≠ .cell v) (keep : ∀ i h h2, tn i h → (∀ b ∈ wr, ∀ o, h.get? b = some o → h2.get? b = some o) → tn i h2)
    (self : ∀ (A : Around) (i : Nat) (s : Shared) (Q : Value → Shared → Prop) (E : Value → Shared → Prop), tn i s.heap → Q (.ref I) s → wpAny (model P w) A (pyIter (.ref I)) Q E s)
    (go_ : ∀ (X : Cx) (pins : List (Addr × Obj)) (s : Shared) (σ : L2.St) (H : Hp) (i : Nat), X.K = K → X.calm = true → Inv X pins σ H s → (∀ b ∈ wr, H b = none) → tn i s.heap → J.go i H → PairTurn X J I wr tn H s.heap i)
    (st_ : ∀ (X : Cx) (pins : List (Addr × Obj)) (s : Shared) (σ : L2.St) (H : Hp) (i : Nat), X.K = K → X.calm = true → Inv X pins σ H s → (∀ b ∈ wr, H b = none) → tn i s.heap → J.stop i H → PairStop X I wr s.heap i) : Turn P w K (.Tuple elts kk tpos) J wr I tn where
  mem := mem
  obj := obj
  keep := keep
  self := self
  item := fun X eP ew eK calm i pins s σ H E inv free at_ go => by
    cases eP; cases ew
    obtain ⟨fp, n, Pt, St, Mid, W, s0, lt, back, hand⟩ := go_ X pins s σ H i eK calm inv (fun b inn => (free b inn).1) at_ go
    refine W.item i s _ _ lt s0 fun T vals h1 tk pv old tup mid k1 => ⟨.ref T, rfl, W.go elts kk tpos i T _ _ _ mid fun h2 s2 k2 => ?_⟩
    obtain ⟨x, y, u, v, rfl, rx, ry, give⟩ := hand vals pv
    have far := W.apart i T h1 mid
    have cell : ObjOk X.prog X.w (upd H T (.tup [x, y])) h2 T (.tup [x, y]) := ⟨by show 2 ≤ sizeLine; decide, [u, v], .cons rx (.cons ry .nil), tup.at fun o e => k2 T o far e⟩
    have inv2 := inv.turnedNew (t' := tk) (ch := wr) (fun b o out e => k2 b o out (k1 b o out e)) free old cell
    exact ⟨.ref T, _, inv2, rfl, give T (inv.hok.fresh old), back h2 s2, fun b inn => (upd_ne fun z => far (by rw [← z]; exact inn)).trans (free b inn).1⟩
  done := fun X eP ew eK calm i pins s σ H E inv free at_ stop => by
    cases eP; cases ew
    obtain ⟨fp, Pt, St, Mid, W, s0⟩ := st_ X pins s σ H i eK calm inv (fun b inn => (free b inn).1) at_ stop
    exact W.done s _ _ s0 fun h1 tk k1 => ⟨rfl, inv.turnedL k1 free⟩
/-! ### enumerate(t), t a tuple -/
/-- the heap after it: the tuple's iterator, and the record that counts -/
abbrev tupIt (a : Addr) : Obj := { cls := .type "tuple_iterator", data := .fields #[.ref a, .int 0 0] }
abbrev enumRec (it : Addr) : Obj := { cls := .type "enumerate", data := .fields #[.none, .bool false, .ref it, rawInt 0, .none, .none] }
abbrev enumHeap (h : Heap) (a : Addr) : Heap := (h.push (tupIt a)).push (enumRec h.objs.size)
set_option maxHeartbeats 1000000 in
theorem new_enumT (a : Addr) (items : Array Value) : Meets (Builtin.«enumerate.__new__» ⟨[.type "enumerate", .ref a], []⟩) fun _ R s => s.heap.IsTuple a items ∧ R (.ok (.ret (.ref (s.heap.push (tupIt a)).objs.size))) { s with heap := enumHeap s.heap a } :=
  Meets.of_wp fun prog w A R s pre => by
    rcases s with ⟨h0, gs, dr, tk0, out⟩
    rcases pre with ⟨tup, fin⟩
    have first : ∀ {B : Around} {E : Value → Shared → Prop} {Q : Value → Shared → Prop}, Q (.ref h0.objs.size) ⟨h0.push (tupIt a), gs, dr, tk0, out⟩ → wpAny (model prog w) B (pyIter (.ref a)) Q E ⟨h0, gs, dr, tk0, out⟩ :=
      fun z => (begins_tuple a items).iter prog w _ _ ⟨h0, gs, dr, tk0, out⟩ _ tup z
    have isSub := sub_enumerate
    wp_walk using first
    refine wpAny_stack_any fun fr => wpAny_pure ?_
    split <;> first
      | (rename_i c _ _ _ _ _; cases (c == Value.type "enumerate") <;> (wp_walk using first; exact ⟨_, rfl, fin⟩))
      | (wp_walk using first; exact ⟨_, rfl, fin⟩)
theorem call_enumT {prog : Program} {w : World} {A : Around} {E : Value → Shared → Prop} {Q : Value → Shared → Prop} {s : Shared} {a : Addr} {items : Array Value} (tup : s.heap.IsTuple a items) (fin : Q (.ref (s.heap.objs.size + 1)) { s with heap := enumHeap s.heap a }) :
    wpAny (model prog w) A (call (.type "enumerate") [.ref a]) Q E s := by
  have sz : (s.heap.push (tupIt a)).objs.size = s.heap.objs.size + 1 := Heap.size_push ..
  refine callType_new F.called_enumerate (by decide) (F.typeCall_enumerate_1 _) (F.newCall_enumerate_1 _) (fun obj => F.args_object_init_2 obj _) F.entry_enumerate_new (new_enumT a items) ⟨tup, ⟨enumRec s.heap.objs.size, ?_, rfl⟩, ?_⟩
  · exact Heap.get?_push_size (s.heap.push (tupIt a)) rfl
  · rw [sz]; exact fin
theorem enumHeap_rec (h : Heap) (a : Addr) : IsEnum (enumHeap h a) (h.objs.size + 1) h.objs.size 0 .none := by
  have q := Heap.get?_push_size (h.push (tupIt a)) (o := enumRec h.objs.size) rfl
  rw [Heap.size_push] at q
  exact q
theorem enumHeap_it (h : Heap) (a : Addr) : (enumHeap h a).IsTupleIter h.objs.size a 0 := ⟨tupIt a, Heap.get?_push_of_some _ (Heap.get?_push_size h rfl), rfl, rfl⟩
/-- the tuple at a (n items), each item in a new pair -/
def IteT (K : PySem.W.Frag) (a : Addr) (n : Nat) : It where
  go i H := i < n ∧ ∃ xs : List V, SqT K H a xs ∧ xs.length = n
  yld i H v H' := ∃ T x, v = .ref T ∧ H T = none ∧ H' = upd H T (.tup [.int (i : Nat), x]) ∧ ∀ xs, SqT K H a xs → xs[i]? = some x
  stop i H := n ≤ i ∧ ∃ xs : List V, SqT K H a xs ∧ xs.length = n
theorem turn_enumT {P : Program} {w : World} {K : PySem.W.Frag} {elts : List Expr} {kk : Nat} {tpos : Pos} {a e it : Addr} {n : Nat} (ne : e ≠ it) :
    Turn P w K (.Tuple elts kk tpos) (IteT K a n) [e, it] e fun i h => (∃ old, IsEnum h e it ((i : Nat) : Int) old) ∧ h.IsTupleIter it a i ∧ i ≤ n := by
  have walk : ∀ {X : Cx} {h : Heap} {i : Nat} {its : List Value}, X.A.in1.handled = none → IsTup h a its.toArray → (∃ old, IsEnum h e it ((i : Nat) : Int) old) → h.IsTupleIter it a i →
      WalksT X.prog X.w X.A e [e, it, a] [e, it] its.toArray.size (fun i vals => ∃ t x, its.toArray[i]? = some x ∧ vals = #[.int i t, x]) (fun i h => (∃ old, IsEnum h e it i old) ∧ h.IsTupleIter it a i ∧ h.IsTuple a its.toArray)
        (fun i T h => (∃ x, IsEnumOut h e it ((i : Int) + 1) x T) ∧ (h.IsTupleIter it a (i + 1) ∧ h.IsTuple a its.toArray) ∧ T ≠ e ∧ T ≠ it) := fun hh tp ⟨old, he⟩ hit => by
    obtain ⟨o1, g1, c1, _⟩ := id tp
    obtain ⟨o2, g2, c2, _⟩ := id hit
    have d1 : a ≠ it := two_cells g1 c1 g2 c2 (by decide)
    have d2 : e ≠ a := two_cells (show _ = some _ from he) rfl g1 c1 (by decide)
    exact WalksT.enumerateD (Draws.tuple hh it a d1 _) e ne (by simp [ne, d2]) (by simp)
  refine turn_pairs (by simp) (fun i h at_ b inn => ?_) (fun i h h2 at_ k => ?_) (fun A i s Q E at_ q => wpAny_pyIter_enum at_.1.choose_spec q) (fun X pins s σ H i eK calm inv free at_ go => ?_) (fun X pins s σ H i eK calm inv free at_ stop => ?_)
  · obtain ⟨⟨old, he⟩, ⟨o, g, _, dt⟩, _⟩ := at_
    rcases List.mem_cons.mp inn with rfl | inn
    · exact ⟨_, he, fun v z => (by cases z)⟩
    · cases List.mem_singleton.mp inn
      exact ⟨o, g, fun v z => (by rw [dt] at z; cases z)⟩
  · obtain ⟨⟨old, he⟩, hit, le⟩ := at_
    exact ⟨⟨old, k e List.mem_cons_self _ he⟩, hit.at (k it (List.mem_cons_of_mem _ List.mem_cons_self)), le⟩
  · subst eK
    obtain ⟨hen, hit, le⟩ := at_
    obtain ⟨lt, xs, hq, len⟩ := go
    obtain ⟨its, rv, tp, _⟩ := inv.tuple hq
    have same := rv.length
    refine ⟨_, _, _, _, _, walk (inv.ok.hd calm) tp hen hit, ⟨hen, hit, tp⟩, by rw [List.size_toArray]; omega, fun h2 st => ⟨st.1, st.2.1, lt⟩, ?_⟩
    rintro vals ⟨t, u, hu, rfl⟩
    obtain ⟨u', hu', ru⟩ := rv.get (List.getElem?_eq_getElem (show i < xs.length by omega))
    obtain rfl : u' = u := Option.some.inj (hu'.symm.trans (by rw [← hu] <;> simp))
    exact ⟨.int (i : Nat), xs[i]'(by omega), _, _, rfl, ⟨t, rfl⟩, ru, fun T hT => ⟨T, _, rfl, hT, rfl, fun ys hy => by rw [inv.tuple_inj hy hq]; exact List.getElem?_eq_getElem _⟩⟩
  · subst eK
    obtain ⟨hen, hit, le⟩ := at_
    obtain ⟨ge, xs, hq, len⟩ := stop
    obtain ⟨its, rv, tp, _⟩ := inv.tuple hq
    obtain rfl : its.toArray.size = i := by
      have := rv.length
      rw [List.size_toArray]
      omega
    exact ⟨_, _, _, _, walk (inv.ok.hd calm) tp hen hit, hen, hit, tp⟩
def iEnumT (K : PySem.W.Frag) (ta : TA) : TI := fun σ H R => ta σ H fun vs H1 => ∃ a xs, vs = [.ref a] ∧ SqT K H1 a xs ∧ R (IteT K a xs.length) H1
theorem pi_enumT {X : Cx} {e : Expr} {ta : TA} {p pos tpos : Pos} {elts : List Expr} {kk : Nat} (hg : Gl X "enumerate") (hm : X.mg "enumerate" = none) (ha : PA X [e] ta) (hs : starEach [e] X.env = [(false, eval e X.env)] := by rfl) :
    PI X (.Tuple elts kk tpos) (.Call (.Name "enumerate" p) [e] [] pos) (iEnumT X.K ta) := by
  constructor
  intro pins s σ H R inv h
  have args := ha.run pos pins s σ H _ inv h
  refine Call_ (ld_blt inv hg hm boot_enumerate (PyProof.Rows.callWith_type1 (thn args fun us s1 post => ?_) hs rfl))
  obtain ⟨vs, H1, inv1, r1, a, xs, rfl, hq, q⟩ := post
  rw [Vals.ref1 r1]
  obtain ⟨its, _, tp, _⟩ := inv1.tuple hq
  have old : ∀ b o, s1.heap.get? b = some o → (enumHeap s1.heap a).get? b = some o := fun b o g => Heap.get?_push_of_some _ (Heap.get?_push_of_some _ g)
  have new : ∀ b ∈ [s1.heap.objs.size + 1, s1.heap.objs.size], s1.heap.objs.size ≤ b := fun b inn => by
    simp only [List.mem_cons, List.not_mem_nil, or_false] at inn
    omega
  refine call_enumT tp (wpAny_pyIter_enum (enumHeap_rec s1.heap a) ⟨_, _, _, _, H1, rfl, inv1.kept (t' := s1.toks) old, turn_enumT (Nat.succ_ne_self _), ⟨⟨_, enumHeap_rec s1.heap a⟩, enumHeap_it s1.heap a, Nat.zero_le _⟩, fun b inn => inv1.fpOk (new b inn) (inv1.hok.fresh (new b inn)), q⟩)
/-- a walk by turns, counted: stop at n, else one more turn -/
theorem counted {J : It} {n : Nat} {g : TG} {tb : TS} {D : Ends} {σ : L2.St} {H : Hp} (Pv : Nat → L2.St → Hp → Prop) (h0 : Pv 0 σ H) (hgo : ∀ i σ H, i < n → Pv i σ H → J.go i H) (hst : ∀ σ H, Pv n σ H → J.stop n H ∧ D.nx σ H)
    (hs : ∀ i σ H v H', i < n → Pv i σ H → J.yld i H v H' → g v σ H' fun σ2 H2 => tb { D with nx := Pv (i + 1), ct := Pv (i + 1), bk := D.nx } σ2 H2) :
    ∃ W : Nat → Nat → L2.St → Hp → Prop, (∃ m, W 0 m σ H) ∧ ∀ i m σ H, W i m σ H → (J.stop i H ∧ D.nx σ H) ∨ (J.go i H ∧ ∃ N : L2.St → Hp → Prop, (∀ σ' H', N σ' H' → ∃ m', m' < m ∧ W (i + 1) m' σ' H') ∧
      ∀ v H', J.yld i H v H' → g v σ H' fun σ2 H2 => tb { D with nx := N, ct := N, bk := D.nx } σ2 H2) := by
  refine ⟨fun i m σ H => i + m = n ∧ Pv i σ H, ⟨n, Nat.zero_add n, h0⟩, fun i m σ H w => ?_⟩
  obtain ⟨sum, p⟩ := w
  cases m with
  | zero =>
    cases sum
    exact .inl (hst σ H p)
  | succ m => exact .inr ⟨hgo i σ H (by omega) p, Pv (i + 1), fun σ' H' p' => ⟨m, Nat.lt_succ_self m, by omega, p'⟩, fun v H' y => hs i σ H v H' (by omega) p y⟩
/-- a loop over it -/
theorem for_enumT {K : PySem.W.Frag} {a : Addr} {xs : List V} {g : TG} {tb : TS} {D : Ends} {σ : L2.St} {H : Hp} (Pv : Nat → L2.St → Hp → Prop) (h0 : Pv 0 σ H) (hq : ∀ i σ H, i ≤ xs.length → Pv i σ H → SqT K H a xs)
    (hs : ∀ (i : Nat) (x : V) (T : Addr) (σ : L2.St) (H : Hp), xs[i]? = some x → Pv i σ H → H T = none → g (.ref T) σ (upd H T (.tup [.int (i : Nat), x])) fun σ2 H2 => tb { D with nx := Pv (i + 1), ct := Pv (i + 1), bk := D.nx } σ2 H2) (hd : ∀ σ H, Pv xs.length σ H → D.nx σ H) :
    ∃ W : Nat → Nat → L2.St → Hp → Prop, (∃ m, W 0 m σ H) ∧ ∀ i m σ H, W i m σ H → ((IteT K a xs.length).stop i H ∧ D.nx σ H) ∨ ((IteT K a xs.length).go i H ∧ ∃ N : L2.St → Hp → Prop, (∀ σ' H', N σ' H' → ∃ m', m' < m ∧ W (i + 1) m' σ' H') ∧
      ∀ v H', (IteT K a xs.length).yld i H v H' → g v σ H' fun σ2 H2 => tb { D with nx := N, ct := N, bk := D.nx } σ2 H2) :=
  counted Pv h0 (fun i σ H lt p => ⟨lt, xs, hq i σ H (Nat.le_of_lt lt) p, rfl⟩) (fun σ H p => ⟨⟨Nat.le_refl _, xs, hq _ σ H (Nat.le_refl _) p, rfl⟩, hd σ H p⟩) fun i σ H v H' lt p y => by
    obtain ⟨T, x, rfl, hT, rfl, f1⟩ := y
    exact hs i x T σ H (f1 xs (hq i σ H (Nat.le_of_lt lt) p)) p hT
/-! ### d.items(), d a locked dict with tuple keys -/
/-- entry by entry: the key's tuple stands in H, the value is told by kvs -/
def EntryT (H : Hp) (kvs : List (List Key × V)) (es : Array DictEntry) : Prop := ∀ i : Nat, i < es.size → ∃ (k : List Key) (v : V) (en : DictEntry) (q : Addr), kvs[i]? = some (k, v) ∧ es[i]? = some en ∧ en.key = .ref q ∧ H q = some (.tup (k.map kV)) ∧ RelV v en.val
theorem lockedT {X : Cx} {pins : List (Addr × Obj)} {σ : L2.St} {H : Hp} {s : Shared} {d : Addr} {o : Obj} {kvs : List (List Key × V)} (inv : Inv X pins σ H s) (hd : H d = some (.frz o (.dT kvs))) :
    ∃ (es : Array DictEntry) (ep : Nat), (d == sysModules) = false ∧ s.heap.DictRaw d es ep ∧ o.data = .dict es ep ∧ es.size = kvs.length ∧ EntryT H kvs es := by
  have told := inv.hok d _ hd
  obtain ⟨here, _, notsys, rows, rel, o2, es, ep, at2, exact_, data, ent, _⟩ := told
  obtain rfl : o = o2 := Option.some.inj (here.symm.trans at2)
  have n1 := size_of_entries ent
  have n2 := Paired.length rel
  refine ⟨es, ep, notsys, ⟨o, here, exact_, data⟩, data, by omega, fun i lt => ?_⟩
  obtain ⟨row, hr, e1, e2, e3⟩ := paired_get rel (List.getElem?_eq_getElem (show i < kvs.length by omega))
  have cell := entry_at ent i
  rw [hr] at cell
  exact ⟨_, _, _, row.2.1, List.getElem?_eq_getElem _, cell, rfl, e2, e3⟩
theorem raw_one {h : Heap} {d : Addr} {e1 e2 : Array DictEntry} {p1 p2 : Nat} {o : Obj} (r : h.DictRaw d e1 p1) (g : h.get? d = some o) (dt : o.data = .dict e2 p2) : e1 = e2 ∧ p1 = p2 := by
  obtain ⟨o1, g1, _, t1⟩ := r
  obtain rfl : o1 = o := Option.some.inj (g1.symm.trans g)
  rw [t1] at dt
  cases dt
  exact ⟨rfl, rfl⟩
/-- its pairs (key, value), each a new tuple -/
def ItiT (d : Addr) (o : Obj) (kvs : List (List Key × V)) : It where
  go i H := H d = some (.frz o (.dT kvs)) ∧ i < kvs.length
  yld i H x H' := ∃ (T q : Addr) (k : List Key) (v : V), kvs[i]? = some (k, v) ∧ x = .ref T ∧ H T = none ∧ H q = some (.tup (k.map kV)) ∧ H' = upd H T (.tup [.ref q, v])
  stop i H := H d = some (.frz o (.dT kvs)) ∧ kvs.length ≤ i
theorem turn_itemsT {P : Program} {w : World} {K : PySem.W.Frag} {d : Addr} {o : Obj} {es : Array DictEntry} {ep : Nat} {kvs : List (List Key × V)} {elts : List Expr} {kk : Nat} {tpos : Pos} {it : Addr} (hod : o.data = .dict es ep) :
    Turn P w K (.Tuple elts kk tpos) (ItiT d o kvs) [it] it fun i h => i ≤ es.size ∧ ∃ ok ov, IsItemIter h it d i es.size ep ok ov := by
  have raw : ∀ {X : Cx} {pins : List (Addr × Obj)} {σ : L2.St} {H : Hp} {s : Shared}, Inv X pins σ H s → (∀ b ∈ [it], H b = none) → H d = some (.frz o (.dT kvs)) → d ≠ it ∧ s.heap.DictRaw d es ep ∧ es.size = kvs.length ∧ EntryT H kvs es := fun inv free hd => by
    obtain ⟨e2, p2, _, r, dt, sz, ent⟩ := lockedT inv hd
    rw [hod] at dt
    cases dt
    exact ⟨ne_of_none hd (free it List.mem_cons_self), r, sz, ent⟩
  refine turn_pairs List.mem_cons_self (fun i h at_ b inn => ?_) (fun i h h2 at_ k => ?_) (fun A i s Q E at_ q => PySem.W.kcp_self at_.2.choose_spec.choose_spec q) (fun X pins s σ H i eK calm inv free at_ go => ?_) (fun X pins s σ H i eK calm inv free at_ stop => ?_)
  · obtain ⟨_, ok, ov, g⟩ := at_
    cases List.mem_singleton.mp inn
    exact ⟨_, g, fun v z => (by cases z)⟩
  · obtain ⟨le, ok, ov, g⟩ := at_
    exact ⟨le, ok, ov, k it List.mem_cons_self _ g⟩
  · obtain ⟨ne, r, sz, ent⟩ := raw inv free go.1
    have lt : i < es.size := by
      have := go.2
      omega
    refine ⟨_, _, _, _, _, WalksT.rawItems (inv.ok.hd calm) it d ne es ep, ⟨at_.2, r⟩, lt, fun h2 st => ⟨lt, st.1⟩, ?_⟩
    rintro vals ⟨_, rfl⟩
    obtain ⟨k, v, en, q, hk, he, hq, ht, hv⟩ := ent i lt
    obtain rfl : es[i] = en := Option.some.inj ((Array.getElem?_eq_getElem lt).symm.trans he)
    exact ⟨.ref q, v, _, _, rfl, hq, hv, fun T hT => ⟨T, q, k, v, hk, rfl, hT, ht, rfl⟩⟩
  · obtain ⟨ne, r, sz, ent⟩ := raw inv free stop.1
    obtain rfl : es.size = i := Nat.le_antisymm (by have := stop.2; omega) at_.1
    exact ⟨_, _, _, _, WalksT.rawItems (inv.ok.hd calm) it d ne es ep, at_.2, r⟩
def iItemsT (td : TE) : TI := fun σ H R => td σ H fun x H1 => ∃ d o kvs, x = .ref d ∧ H1 d = some (.frz o (.dT kvs)) ∧ R (ItiT d o kvs) H1
theorem pi_itemsT {X : Cx} {e : Expr} {td : TE} {apos cpos : Pos} {elts : List Expr} {kk : Nat} {tpos : Pos} (he : PE X e td) (hbase : attributeBase e "items" X.env (eval e X.env) = eval e X.env := by rfl) (hline : (apos.endLine == cpos.line) = true := by rfl) :
    PI X (.Tuple elts kk tpos) (.Call (.Attribute e "items" apos) [] [] cpos) (iItemsT td) := by
  constructor
  intro pins s σ H R inv h
  have base := he.run pins s σ H _ inv h
  refine wpAny_Call_method (id := "dict.items") (T := "dict") hbase rfl hline F.plainAttrs_dict F.slot_dict_items F.type_dict_items (thn base fun u s1 post => ?_)
  obtain ⟨x, H1, inv1, rx, d, o, kvs, rfl, hd, q⟩ := post
  cases (show u = Value.ref d from rx)
  obtain ⟨es, ep, notsys, raw, data, sz, _⟩ := lockedT inv1 hd
  let view : Obj := { cls := .type "dict_items", data := .fields #[.ref d] }
  have old : ∀ b ob, s1.heap.get? b = some ob → (s1.heap.push view).get? b = some ob := fun b ob g => Heap.get?_push_of_some _ g
  have last : wpAny (model X.prog X.w) X.A (pyIter (.ref s1.heap.objs.size)) (PIE X pins σ (.Tuple elts kk tpos) R) X.xe { s1 with heap := s1.heap.push view } :=
    wpAny_pyIter_items_raw (ep := ep) (es := es) (d := d) ⟨_, Heap.get?_push_size _ rfl, rfl, rfl⟩ (raw.at (old d)) (pi_one (tk := s1.toks) (inv1.kept (t' := s1.toks) old) _ (turn_itemsT data) ⟨Nat.zero_le _, .none, .none, Heap.get?_push_size _ rfl⟩ q)
  refine ⟨raw.typeIs, fun a e => ?_, ?_⟩
  · obtain ⟨o', g, ex, _⟩ := raw
    cases e
    exact ⟨o', g, ex.2.1⟩
  · show wpAny _ _ (callWith cpos (.builtin "dict.items") [Value.ref d] [] []) _ X.xe s1
    exact method_meetsIn F.slot_dict_items F.entry_dict_items rfl (PySem.evalArgs_none ⟨rfl, raw.typeIs, F.args_dict_items_1 _, _, meets_dict_items_raw d notsys, ⟨es, ep, raw⟩, last⟩)
/-- a loop over them, the dict locked -/
theorem for_itemsT {d : Addr} {o : Obj} {kvs : List (List Key × V)} {g : TG} {tb : TS} {D : Ends} {σ : L2.St} {H : Hp} (Pv : Nat → L2.St → Hp → Prop) (h0 : Pv 0 σ H) (hq : ∀ i σ H, i ≤ kvs.length → Pv i σ H → H d = some (.frz o (.dT kvs)))
    (hs : ∀ (i : Nat) (k : List Key) (v : V) (T q : Addr) (σ : L2.St) (H : Hp), kvs[i]? = some (k, v) → Pv i σ H → H T = none → H q = some (.tup (k.map kV)) → g (.ref T) σ (upd H T (.tup [.ref q, v])) fun σ2 H2 => tb { D with nx := Pv (i + 1), ct := Pv (i + 1), bk := D.nx } σ2 H2)
    (hd : ∀ σ H, Pv kvs.length σ H → D.nx σ H) :
    ∃ W : Nat → Nat → L2.St → Hp → Prop, (∃ m, W 0 m σ H) ∧ ∀ i m σ H, W i m σ H → ((ItiT d o kvs).stop i H ∧ D.nx σ H) ∨ ((ItiT d o kvs).go i H ∧ ∃ N : L2.St → Hp → Prop, (∀ σ' H', N σ' H' → ∃ m', m' < m ∧ W (i + 1) m' σ' H') ∧
      ∀ v H', (ItiT d o kvs).yld i H v H' → g v σ H' fun σ2 H2 => tb { D with nx := N, ct := N, bk := D.nx } σ2 H2) :=
  counted Pv h0 (fun i σ H lt p => ⟨hq i σ H (Nat.le_of_lt lt) p, lt⟩) (fun σ H p => ⟨⟨hq _ σ H (Nat.le_refl _) p, Nat.le_refl _⟩, hd σ H p⟩) fun i σ H v H' lt p y => by
    obtain ⟨T, q, k, v', hk, rfl, hT, hkt, rfl⟩ := y
    exact hs i k v' T q σ H hk p hT hkt
/-! ### {t: v}, one key, a tuple -/
def tDisp1 (tk tv : TE) : TE := fun σ H Q => ∀ p, H p = none → tk σ (upd H p (.dT [])) fun x H1 => tv σ H1 fun y H2 => ∃ (b : Addr) (k : List Key), x = .ref b ∧ H2 b = some (.tup (k.map kV)) ∧ H2 p = some (.dT []) ∧ Q (.ref p) (upd H2 p (.dT [(k, y)]))
theorem pe_disp1 {X : Cx} {pos : Pos} {k v : Expr} {tk tv : TE} (hu : X.A.units + 1 < cLine) (hk : PE X k tk) (hv : PE X v tv) : PE X (.Dict [some k] [v] pos) (tDisp1 tk tv) := by
  constructor
  intro pins s σ H Q I q
  have hn := I.hok.fresh (a := s.heap.objs.size) (Nat.le_refl _)
  have I1 := I.laid (a := s.heap.objs.size) (o := .dT []) (h' := s.heap.push { cls := .type "dict", data := .dict #[] }) (t' := s.toks) (fun _ _ q => Heap.get?_push_of_some _ q) (Nat.le_refl _) (dt_empty s.heap I.big)
  rw [arm_eval_Dict, zip_pairTrees [some k] [v] X.env pos rfl rfl, dictDisplay_pairs (pairTrees [some k] [v] X.env pos) (by intro z; cases z) (by show 1 < 17; decide)]
  refine wpAny_bind (wpAny_standAt (wpAny_bind (wpAny_subDictH (knd := tupleKind (mixKind X.prog X.w)) (show X.A.units < cLine by omega) (by show 1 ≤ 15; decide) ?_)))
  refine pairTrees_cons_walk (thn (hk.run pins _ σ _ _ I1 (q _ hn)) fun u s1 ⟨x, H1, I1', rx, q1⟩ => thn (hv.run pins s1 σ H1 _ I1' q1) fun w2 s2 ⟨y, H2, I2, ry, b, kk, ex, hb, hd, q2⟩ => pairTrees_nil_walk ?_)
  subst ex
  obtain rfl : u = Value.ref b := rx
  obtain ⟨z, hsm, xs, rel, dd⟩ := dt_of I2.hok hd
  cases rel
  refine ⟨[(kk, b, w2)], ⟨rfl, rfl, key_of I2.hok hb, True.intro⟩, dd, fun h' tk dd' hs => wpAny_pure ⟨.ref s.heap.objs.size, _, ?_, rfl, q2⟩⟩
  obtain ⟨o, es, ep, ho, h2, h3, h4, _, h5⟩ := dd'
  refine d_write I2 (by rw [hd]; exact True.intro) hs ⟨o, ho⟩ ⟨by show 1 ≤ sizeLine; decide, hsm, [(kk, b, w2)], .cons ⟨rfl, ?_, ry⟩ .nil, o, es, ep, ho, h2, h3, h4, h5⟩
  rw [upd_ne (ne_of hb hd (fun z => nomatch z))]
  exact hb
/-! ### sorted(t), t a tuple of ints -/
theorem sorted_tup_ints {prog : Program} {w : World} {A : Around} {s : Shared} {t : Addr} {vs : List Value} {ns : List Int} {Q E : Value → Shared → Prop} (ht : IsTup s.heap t vs.toArray) (hI : PyProof.Rows.IntsAre vs ns) (h64 : vs.length < 64)
    (h : ∀ (h1 h2 : Heap) (d e : Nat) (out : Array Value) (os : List Int), PyProof.Rows.IntsAre out.toList os → os.Perm ns → os.Pairwise (· ≤ ·) → (∀ b o, s.heap.get? b = some o → h1.get? b = some o) → (∀ b o, h1.get? b = some o → h2.get? b = some o) → h1.objs.size ≤ d →
      h2.get? d = some (seqObj "list" out e) → Q (.ref d) { s with heap := h2 }) : wpAny (model prog w) A (call (.builtin "sorted") [.ref t]) Q E s := by
  have short : vs.toArray.size ≤ sizeLine := by rw [List.size_toArray, sizeLine_eq]; omega
  obtain ⟨cell, at_, cls, epoch, data⟩ := ht
  refine Calls.call_function_entry kind_sorted plain_sorted entry_sorted (args_sorted1 (.ref t)) ?_
  unfold Builtin.«sorted»
  refine wpAny_bind (m := checkCount _ _ _ _) (wpAny_pure (wpAny_bind (wpAny_collect_seq t (.inr rfl) at_ cls data (fun h1 k1 => ?_) short)))
  rw [show vs.toArray.toList = vs by simp]
  have laid : (h1.push (seqObj "list" vs.toArray 0)).get? h1.objs.size = some (seqObj "list" vs.toArray 0) := Heap.get?_push_size h1 rfl
  refine wpAny_bind (wpAny_newList (show wpAny _ _ _ _ _ { s with heap := h1.push (seqObj "list" vs.toArray 0) } from wpAny_bind (wpAny_holding ?_)) (by rw [sizeLine_eq]; omega))
  refine wpAny_call_entry slot_list_sort ⟨_, laid, rfl⟩ entry_list_sort (list_sort_tree (s := { s with heap := h1.push (seqObj "list" vs.toArray 0) }) laid hI h64 fun out os a1 a2 a3 => ⟨_, rfl, wpAny_pure ⟨_, rfl, ?_⟩⟩) (args_list_sort _)
  obtain ⟨e, sorted_⟩ := sortedHeap_at laid
  refine h h1 _ h1.objs.size e out os a1 a2 a3 k1 (fun b o old => ?_) (Nat.le_refl _) sorted_
  have lt := Heap.lt_size old
  rw [sortedHeap_old (Nat.ne_of_lt lt) (by rw [Heap.size_push]; exact Nat.lt_succ_of_lt lt), Heap.get?_push_of_some _ old]
def rSortedTu (K : PySem.W.Frag) : List V → Hp → VK → Prop := fun vs H Q => ∃ (a : Addr) (ns : List Int), vs = [V.ref a] ∧ SqT K H a (ns.map V.int) ∧ ns.length < 64 ∧ ∀ (ns' : List Int) (p : Addr), ns'.Perm ns → ns'.Pairwise (· ≤ ·) → H p = none → Q (.ref p) (upd H p (.lst (ns'.map V.int)))
theorem cr_sortedTu {X : Cx} : CallR X (.builtin "sorted") (rSortedTu X.K) := by
  intro pins s σ H vs us Q I r ⟨a, ns, ev, hs, few, q⟩
  subst ev
  rw [Vals.ref1 r]
  obtain ⟨its, rv, tp, _⟩ := I.tuple hs
  have areInts := rv.ints
  refine sorted_tup_ints tp areInts (by rw [areInts.length]; exact few) fun h1 h2 d e out os i1 i2 i3 k1 k2 new at_ => ?_
  have inv1 : Inv X pins σ H { s with heap := h1 } := I.kept (t' := s.toks) k1
  have le : (os.map V.int).length ≤ sizeLine := by
    rw [List.length_map, i2.length_eq]
    exact small64 few
  exact ⟨.ref d, upd H d (.lst (os.map V.int)), inv1.laid (t' := s.toks) k2 new ⟨le, out.toList, e, vals_of_ints i1, at_⟩, rfl, q os d i2 i3 (inv1.hok.fresh new)⟩
end KR
/-! The text by places, facts of the module, small words. -/
namespace KW
open PySem PySem.Spec PyProof.Rows L2 KR
def topS (i : Nat) : Stmt := PySem.Challenge.pw_parkback_k10_whole_near_rests.main.body.getD i (.Pass ⟨0, 0, 0, 0⟩)
abbrev sIsInt : Stmt := topS 1
abbrev sIsIn : Stmt := topS 2
abbrev sIsList : Stmt := topS 3
abbrev sRoom : Stmt := topS 11
abbrev sNeedStreet : Stmt := topS 12
abbrev sNeedPlaces : Stmt := topS 13
abbrev sNeedState : Stmt := topS 14
abbrev sTaken : Stmt := topS 16
abbrev sRestsIn : Stmt := topS 18
abbrev sUnlike : Stmt := topS 19
abbrev sStays : Stmt := topS 20
abbrev sCalls : Stmt := topS 21
abbrev sCount : Stmt := topS 22
abbrev sNear : Stmt := topS 23
abbrev sDraw : Stmt := topS 25
abbrev sPick : Stmt := topS 26
abbrev sAlike : Stmt := topS 27
abbrev sLStreet : Stmt := topS 28
abbrev sLState : Stmt := topS 29
abbrev sFilled : Stmt := topS 30
abbrev sLRests : Stmt := topS 31
abbrev sLaw : Stmt := topS 32
/-! ### parts of expressions, by place -/
def lcScope : Expr → Scope
  | .ListComp _ _ s _ => s
  | _ => { names := [], kind := .function, isCoroutine := false, isGenerator := false }
def retE : Stmt → Expr
  | .Return (some e) _ => e
  | .Assign _ e _ => e
  | _ => .Constant .none 0 ⟨0, 0, 0, 0⟩
def argE (i : Nat) : Expr → Expr
  | .Call _ es _ _ => es.getD i (.Constant .none 0 ⟨0, 0, 0, 0⟩)
  | _ => .Constant .none 0 ⟨0, 0, 0, 0⟩
def bodyAt (s : Stmt) (i : Nat) : Stmt := (defBody s).getD i (.Pass ⟨0, 0, 0, 0⟩)
/-! ### built-ins -/
theorem bInt : bootBuiltins "int" = some (.type "int") := by decide +kernel
theorem bBool : bootBuiltins "bool" = some (.type "bool") := by decide +kernel
theorem bStr : bootBuiltins "str" = some (.type "str") := by decide +kernel
theorem bTuple : bootBuiltins "tuple" = some (.type "tuple") := by decide +kernel
theorem bList : bootBuiltins "list" = some (.type "list") := by decide +kernel
theorem bLen : bootBuiltins "len" = some (.builtin "len") := by decide +kernel
theorem bIsi : bootBuiltins "isinstance" = some (.builtin "isinstance") := by decide +kernel
theorem bAll : bootBuiltins "all" = some (.builtin "all") := by decide +kernel
theorem bMin : bootBuiltins "min" = some (.builtin "min") := by decide +kernel
theorem bMax : bootBuiltins "max" = some (.builtin "max") := by decide +kernel
theorem bSorted : bootBuiltins "sorted" = some (.builtin "sorted") := by decide +kernel
structure Txt (mg : Str → Option Value) : Prop where
  isi : mg "isinstance" = none
  int : mg "int" = none
  bool : mg "bool" = none
  str : mg "str" = none
  tuple : mg "tuple" = none
  list : mg "list" = none
  len : mg "len" = none
  all : mg "all" = none
  min : mg "min" = none
  max : mg "max" = none
  sorted : mg "sorted" = none
  range : mg "range" = none
  enumerate : mg "enumerate" = none
  zip : mg "zip" = none
  places : ∃ t, mg "MOST_PLACES" = some (.int 12 t)
  cars : ∃ t, mg "MOST_CARS" = some (.int 7 t)
/-! ### heaps -/
theorem same_upd {H : Hp} {p : Addr} {o : HO} (free : H p = none) : Same H (upd H p o) := fun b x e => (upd_ne (ne_of_none e free)).trans e
/-- what was tracked, but the object at D, stands -/
def SameBut (D : Addr) (H H' : Hp) : Prop := ∀ b o, H b = some o → b ≠ D → H' b = some o
/-- a new object was filled -/
theorem same_new {D : Addr} {H H' : Hp} {o : HO} (n : H D = none) (h : SameBut D (upd H D o) H') : Same H H' := fun b x e => by
  have hb := ne_of_none e n
  exact h b x (by rw [upd_ne hb]; exact e) hb
theorem sb_refl {D : Addr} {H : Hp} : SameBut D H H := fun b o e _ => e
theorem sb_upd {D : Addr} {H H' : Hp} {o : HO} (h : SameBut D H H') : SameBut D H (upd H' D o) := fun b x e hb => by
  rw [upd_ne hb]
  exact h b x e hb
theorem sb_same {D : Addr} {H H1 H2 : Hp} (h : SameBut D H H1) (s : Same H1 H2) : SameBut D H H2 := fun b x e hb => s b x (h b x e hb)
theorem sb_trans {D : Addr} {H H1 H2 : Hp} (h : SameBut D H H1) (s : SameBut D H1 H2) : SameBut D H H2 := fun b x e hb => s b x (h b x e hb) hb
theorem same_sb {D : Addr} {H H' : Hp} (s : Same H H') : SameBut D H H' := fun b o e _ => s b o e
/-- a street at a: its homes at h -/
structure Street (H : Hp) (a h : Addr) (size : Int) (homes : List Int) : Prop where
  at_ : H a = some (.tup [.int size, .ref h])
  hs : H h = some (.tup (homes.map V.int))
theorem Street.same {H H' : Hp} {a h : Addr} {size : Int} {homes : List Int} (s : Same H H') (x : Street H a h size homes) : Street H' a h size homes := ⟨s _ _ x.at_, s _ _ x.hs⟩
/-- what the law draws -/
structure Drawn (size : Int) (homes st : List Int) : Prop where
  s1 : 1 ≤ size
  s2 : size ≤ 10
  n1 : 1 ≤ homes.length
  n2 : homes.length ≤ 5
  h1 : ∀ x ∈ homes, 0 ≤ x ∧ x ≤ size - 1
  room : ∀ p : Int, 0 ≤ p → p < size → ((homes.filter fun x => decide (p ≤ x)).length : Int) ≤ size - p
  ok : KM.OkSt homes st
  st1 : ∀ x ∈ st, x ≤ size - 1
theorem lt_line {n : Nat} (h : n ≤ 1000) : n < sizeLine := small1000 h
theorem le_line {n : Nat} (h : n ≤ 1000) : n ≤ sizeLine := Nat.le_of_lt (small1000 h)
theorem flat_ints (xs : List Int) : (xs.map V.int).all flatV = true := by
  rw [List.all_map, List.all_eq_true]
  intro x _
  rfl
theorem eqV_int (i j : Int) : eqV (.int i) (.int j) = (i == j) := by
  first
    | rfl
    | (simp [eqV])
theorem inV_int (x : Int) (xs : List Int) : inV (.int x) (xs.map V.int) = xs.contains x := by
  unfold inV
  rw [List.any_map]
  induction xs with
  | nil => rfl
  | cons y xs ih =>
    rw [List.any_cons, List.contains_cons, ih]
    congr 1
    show eqV (.int y) (.int x) = _
    rw [eqV_int, Bool.eq_iff_iff, beq_iff_eq, beq_iff_eq]
    exact eq_comm
theorem get_map {xs : List Int} {i : Nat} {y : V} (h : (xs.map V.int)[i]? = some y) : ∃ z, xs[i]? = some z ∧ y = .int z := by
  rw [List.getElem?_map, Option.map_eq_some_iff] at h
  obtain ⟨z, hz, e⟩ := h
  exact ⟨z, hz, e.symm⟩
theorem map_get {xs : List Int} {i : Nat} {z : Int} (h : xs[i]? = some z) : (xs.map V.int)[i]? = some (.int z) := by
  rw [List.getElem?_map, h]
  rfl
theorem take_snoc {α : Type} {xs : List α} {i : Nat} {x : α} (h : xs[i]? = some x) : xs.take (i + 1) = xs.take i ++ [x] := by
  rw [List.take_add_one, h]
  rfl
theorem filter_take {α : Type} (p : α → Bool) {xs : List α} {i : Nat} {x : α} (h : xs[i]? = some x) : (xs.take (i + 1)).filter p = (xs.take i).filter p ++ (if p x = true then [x] else []) := by
  rw [take_snoc h, List.filter_append]
  congr 1
  by_cases e : p x = true
  · rw [if_pos e, List.filter_cons_of_pos e]
    rfl
  · rw [if_neg e, List.filter_cons_of_neg e]
    rfl
end KW
/-! Comprehensions whose tests and elements are found by Lean: the readings may name the block's context, they are all alike. -/
namespace KW
open PySem PySem.Spec PyProof.Rows L2 KR
section
variable {X : Cx}
abbrev B5 (α : Type) := Shared → Hp → Addr → List (Str × Addr) → List Addr → α
abbrev at0 {α : Type} (X : Cx) (t : B5 α) : α := t X.s_0 X.H_0 0 [] []
theorem pe_lcE {elt tg iter : Expr} {ifs : List Expr} {scope : Scope} {own : List (Str × Nat)} {pos : Pos} {wi : TI} {g : TG} {tt : B5 TT} {te : B5 TE} (hc : X.calm = true) (hN : X.N.Nodup) (hi : PI X tg iter wi) (ok : BlkOk X.N X.env.scope scope own)
    (hg : ∀ (s : Shared) (H : Hp) (C : Addr) (cl : List (Str × Addr)) (fp : List Addr), PG (X.blk s H scope (compEnvC scope cl C X.env) fp) tg g) (ht : ∀ (s : Shared) (H : Hp) (C : Addr) (cl : List (Str × Addr)) (fp : List Addr), PTs (X.blk s H scope (compEnvC scope cl C X.env) fp) ifs (tt s H C cl fp))
    (he : ∀ (s : Shared) (H : Hp) (C : Addr) (cl : List (Str × Addr)) (fp : List Addr), PE (X.blk s H scope (compEnvC scope cl C X.env) fp) elt (te s H C cl fp)) (hs : ∀ x, foldedSetIterable iter X.env x = pure x := by intro _; rfl)
    (htt : ∀ s H C cl fp, tt s H C cl fp = at0 X tt := by intros; rfl) (hte : ∀ s H C cl fp, te s H C cl fp = at0 X te := by intros; rfl) :
    PE X (.ListComp elt [⟨tg, iter, ifs, 0⟩] scope pos) (tLc wi g (at0 X tt) (at0 X te) (own.map (·.2))) :=
  pe_lc hc hN hi ok hg (fun s H C cl fp => by rw [← htt s H C cl fp]; exact ht s H C cl fp) (fun s H C cl fp => by rw [← hte s H C cl fp]; exact he s H C cl fp) hs
theorem ps_setLcE {i : Nat} {y : Str} {py : Pos} {elt tg iter : Expr} {ifs : List Expr} {scope : Scope} {own : List (Str × Nat)} {pos spos : Pos} {wi : TI} {g : TG} {tt : B5 TT} {te : B5 TE} (hc : X.calm = true) (hN : X.N.Nodup) (hy : X.N[i]? = some y) (hyl : X.env.scope.names.lookup y = some .local)
    (hsw : -- the store is the comprehension's own
      swapsWith (.ListComp elt [⟨tg, iter, ifs, 0⟩] scope pos) (some (.Name y py)) spos.line X.env = pure true) (hi : PI X tg iter wi) (ok : BlkOk X.N X.env.scope scope own)
    (hg : ∀ (s : Shared) (H : Hp) (C : Addr) (cl : List (Str × Addr)) (fp : List Addr), PG (X.blk s H scope (compEnvC scope cl C X.env) fp) tg g) (ht : ∀ (s : Shared) (H : Hp) (C : Addr) (cl : List (Str × Addr)) (fp : List Addr), PTs (X.blk s H scope (compEnvC scope cl C X.env) fp) ifs (tt s H C cl fp))
    (he : ∀ (s : Shared) (H : Hp) (C : Addr) (cl : List (Str × Addr)) (fp : List Addr), PE (X.blk s H scope (compEnvC scope cl C X.env) fp) elt (te s H C cl fp)) (hs : ∀ x, foldedSetIterable iter X.env x = pure x := by intro _; rfl)
    (htt : ∀ s H C cl fp, tt s H C cl fp = at0 X tt := by intros; rfl) (hte : ∀ s H C cl fp, te s H C cl fp = at0 X te := by intros; rfl) :
    PS X (.Assign [.Name y py] (.ListComp elt [⟨tg, iter, ifs, 0⟩] scope pos) spos) (tAsg (tLc wi g (at0 X tt) (at0 X te) (own.map (·.2))) (gName i)) :=
  ps_setLc hc hN hy hyl hsw hi ok hg (fun s H C cl fp => by rw [← htt s H C cl fp]; exact ht s H C cl fp) (fun s H C cl fp => by rw [← hte s H C cl fp]; exact he s H C cl fp) hs
theorem ps_setLc2E {i : Nat} {y : Str} {py : Pos} {elt tg iter tg1 iter1 : Expr} {ifs ifs1 : List Expr} {scope : Scope} {own : List (Str × Nat)} {vs1 : List Nat} {pos spos : Pos} {wi : TI} {wi1 : B5 TI} {g g1 : TG} {tt tt1 : B5 TT} {te : B5 TE} (hc : X.calm = true) (hN : X.N.Nodup) (hy : X.N[i]? = some y) (hyl : X.env.scope.names.lookup y = some .local)
    (hsw : -- the store is the comprehension's own
      swapsWith (.ListComp elt [⟨tg, iter, ifs, 0⟩, ⟨tg1, iter1, ifs1, 0⟩] scope pos) (some (.Name y py)) spos.line X.env = pure true) (hi : PI X tg iter wi) (ok : BlkOk X.N X.env.scope scope own) (hv : ∀ i ∈ vs1, i ∈ own.map (·.2))
    (hg : ∀ (s : Shared) (H : Hp) (C : Addr) (cl : List (Str × Addr)) (fp : List Addr), PG (X.blk s H scope (compEnvC scope cl C X.env) fp) tg g) (ht : ∀ (s : Shared) (H : Hp) (C : Addr) (cl : List (Str × Addr)) (fp : List Addr), PTs (X.blk s H scope (compEnvC scope cl C X.env) fp) ifs (tt s H C cl fp))
    (hi1 : ∀ (s : Shared) (H : Hp) (C : Addr) (cl : List (Str × Addr)) (fp : List Addr), PI (X.blk s H scope (compEnvC scope cl C X.env) fp) tg1 iter1 (wi1 s H C cl fp))
    (hg1 : ∀ (s : Shared) (H : Hp) (C : Addr) (cl : List (Str × Addr)) (fp : List Addr), PG (X.blk s H scope (compEnvC scope cl C X.env) fp) tg1 g1) (ht1 : ∀ (s : Shared) (H : Hp) (C : Addr) (cl : List (Str × Addr)) (fp : List Addr), PTs (X.blk s H scope (compEnvC scope cl C X.env) fp) ifs1 (tt1 s H C cl fp))
    (he : ∀ (s : Shared) (H : Hp) (C : Addr) (cl : List (Str × Addr)) (fp : List Addr), PE (X.blk s H scope (compEnvC scope cl C X.env) fp) elt (te s H C cl fp)) (hs : ∀ x, foldedSetIterable iter X.env x = pure x := by intro _; rfl) (hs1 : ∀ env x, foldedSetIterable iter1 env x = pure x := by intro _ _; rfl)
    (htt : ∀ s H C cl fp, tt s H C cl fp = at0 X tt := by intros; rfl) (hwi1 : ∀ s H C cl fp, wi1 s H C cl fp = at0 X wi1 := by intros; rfl) (htt1 : ∀ s H C cl fp, tt1 s H C cl fp = at0 X tt1 := by intros; rfl) (hte : ∀ s H C cl fp, te s H C cl fp = at0 X te := by intros; rfl) :
    PS X (.Assign [.Name y py] (.ListComp elt [⟨tg, iter, ifs, 0⟩, ⟨tg1, iter1, ifs1, 0⟩] scope pos) spos) (tAsg (tLc2 wi g (at0 X tt) (at0 X wi1) g1 (at0 X tt1) (at0 X te) (own.map (·.2)) vs1) (gName i)) :=
  ps_setLc2 hc hN hy hyl hsw hi ok hv hg (fun s H C cl fp => by rw [← htt s H C cl fp]; exact ht s H C cl fp) (fun s H C cl fp => by rw [← hwi1 s H C cl fp]; exact hi1 s H C cl fp) hg1 (fun s H C cl fp => by rw [← htt1 s H C cl fp]; exact ht1 s H C cl fp) (fun s H C cl fp => by rw [← hte s H C cl fp]; exact he s H C cl fp) hs hs1
end
end KW
namespace KW
open PySem PySem.Spec PyProof.Rows L2 KR
section
variable {P : Program} {w : World} {K : PySem.W.Frag} {mg : Str → Option Value} {base : Heap}
/-! ### is_integer, is_in, is_list -/
theorem scIsInt : FnScope ["value"] ["value"] (defScope sIsInt) := ⟨rfl, rfl, rfl, by decide +kernel, rfl, by decide +kernel, by decide +kernel⟩
def spIsInt : Sp := fun vs H Q _ => ∃ i : Int, vs = [.int i] ∧ Q (.bl true) H
theorem ok_isInt {f : Addr} {fd : FuncData} (F : Fun K "is_integer" "is_integer" sIsInt f fd) (T : Txt mg) : FnOk P w K mg base CX0 1 f fd ["value"] spIsInt := by
  refine F.ok scIsInt (fun vs H Q E h => ?_) (fun cdv A outer s H vs Q E hr h => ?_)
  · obtain ⟨i, rfl, _⟩ := h
    rfl
  · obtain ⟨i, rfl, q⟩ := h
    refine ⟨_, (pss_one (ps_ret (pe_and (pe_callB call_isi (by rfl) T.isi bIsi (pa_cons (pv 0) (pa_cons (pe_bltn (v := .ty "int") (by rfl) T.int bInt rfl) pa_nil))) (pe_one (pe_not (pe_callB call_isi (by rfl) T.isi bIsi (pa_cons (pv 0) (pa_cons (pe_bltn (v := .ty "bool") (by rfl) T.bool bBool rfl) pa_nil)))))))), ?_⟩
    refine ⟨_, rfl, .int i, .ty "int", .type "int", .type "int", true, rfl, .ty _, .base (.int i), kit_ty (by decide +kernel), true, rfl, iteT ?_⟩
    exact ⟨_, rfl, .int i, .ty "bool", .type "int", .type "bool", false, rfl, .ty _, .base (.int i), kit_ty (by decide +kernel), false, rfl, q⟩
theorem scIsIn : FnScope ["value", "least", "most"] ["value", "least", "most"] (defScope sIsIn) := ⟨rfl, rfl, rfl, by decide +kernel, rfl, by decide +kernel, by decide +kernel⟩
def spIsIn : Sp := fun vs H Q _ => ∃ v a b : Int, vs = [.int v, .int a, .int b] ∧ a ≤ v ∧ v ≤ b ∧ Q (.bl true) H
theorem ok_isIn {f f1 : Addr} {fd fd1 : FuncData} (F : Fun K "is_in" "is_in" sIsIn f fd) (F1 : Fun K "is_integer" "is_integer" sIsInt f1 fd1) (b1 : Binds K fd1 ["value"] []) (g1 : mg "is_integer" = some (.ref f1)) (T : Txt mg) :
    FnOk P w K mg base CX0 2 f fd ["value", "least", "most"] spIsIn := by
  have G1 : FnOk P w K mg base CX0 1 f1 fd1 ["value"] spIsInt := ok_isInt F1 T
  refine F.ok scIsIn (fun vs H Q E h => ?_) (fun cdv A outer s H vs Q E hr h => ?_)
  · obtain ⟨v, a, b, rfl, _⟩ := h
    rfl
  · obtain ⟨v, a, b, rfl, ha, hb, q⟩ := h
    refine ⟨_, (pss_one (ps_ret (pe_and (pe_call G1 hr (by rfl) g1 F1.kp b1 .nil pass0 (pa_cons (pv 0) pa_nil)) (pe_one (pe_chain op_le op_le (pv 1) (pv 0) (pv 2)))))), ?_⟩
    refine ⟨_, rfl, v, rfl, true, rfl, iteT ?_⟩
    refine ⟨_, rfl, _, rfl, a, v, rfl, rfl, true, congrArg V.bl (decide_eq_true ha), iteT ?_⟩
    refine ⟨_, rfl, v, b, rfl, rfl, ?_⟩
    dsimp only
    rw [decide_eq_true hb]
    exact q
theorem scIsList : FnScope ["value", "least", "most"] ["value", "least", "most"] (defScope sIsList) := ⟨rfl, rfl, rfl, by decide +kernel, rfl, by decide +kernel, by decide +kernel⟩
def spIsList : Sp := fun vs H Q _ => ∃ (t : Addr) (xs : List V) (a b : Int), vs = [.ref t, .int a, .int b] ∧ H t = some (.tup xs) ∧ a ≤ xs.length ∧ (xs.length : Int) ≤ b ∧ Q (.bl true) H
theorem ok_isList {f : Addr} {fd : FuncData} (F : Fun K "is_list" "is_list" sIsList f fd) (T : Txt mg) : FnOk P w K mg base CX0 1 f fd ["value", "least", "most"] spIsList := by
  refine F.ok scIsList (fun vs H Q E h => ?_) (fun cdv A outer s H vs Q E hr h => ?_)
  · obtain ⟨t, xs, a, b, rfl, _⟩ := h
    rfl
  · obtain ⟨t, xs, a, b, rfl, ht, ha, hb, q⟩ := h
    refine ⟨_, (pss_one (ps_ret (pe_and (pe_callB call_isi (by rfl) T.isi bIsi (pa_cons (pv 0) (pa_cons (pe_bltn (v := .ty "tuple") (by rfl) T.tuple bTuple rfl) pa_nil))) (pe_one (pe_chain op_le op_le (pv 1) (pe_callB call_len_seq (by rfl) T.len bLen (pa_cons (pv 0) pa_nil)) (pv 2)))))), ?_⟩
    refine ⟨_, rfl, .ref t, .ty "tuple", .type "tuple", .type "tuple", true, rfl, .ty _, .base (.tup ht), kit_ty (by decide +kernel), true, rfl, iteT ?_⟩
    refine ⟨_, rfl, _, rfl, t, xs, rfl, .inr (SqT.of ht), a, xs.length, rfl, rfl, true, congrArg V.bl (decide_eq_true ha), iteT ?_⟩
    refine ⟨_, rfl, xs.length, b, rfl, rfl, ?_⟩
    dsimp only
    rw [decide_eq_true hb]
    exact q
/-! ### has_room -/
theorem scRoom : FnScope ["places", "homes", "home", "place"] ["places", "homes"] (defScope sRoom) := ⟨rfl, rfl, rfl, by decide +kernel, rfl, by decide +kernel, by decide +kernel⟩
abbrev roomScope : Scope := lcScope (argE 0 (retE (bodyAt sRoom 0)))
def spRoom : Sp := fun vs H Q _ => ∃ (h : Addr) (size : Int) (homes : List Int), vs = [.int size, .ref h] ∧ H h = some (.tup (homes.map V.int)) ∧ homes.length ≤ 5 ∧ 1 ≤ size ∧ size ≤ 10 ∧
  (∀ p : Int, 0 ≤ p → p < size → ((homes.filter fun x => decide (p ≤ x)).length : Int) ≤ size - p) ∧ ∀ H', Same H H' → Q (.bl true) H'
theorem all_true (n : Nat) : ((List.replicate n true).all id) = true := by
  rw [List.all_eq_true]
  intro x hx
  rw [(List.mem_replicate.mp hx).2]
  rfl
theorem ok_room {f : Addr} {fd : FuncData} (F : Fun K "has_room" "has_room" sRoom f fd) (T : Txt mg) : FnOk P w K mg base CX0 1 f fd ["places", "homes"] spRoom := by
  refine F.ok scRoom (fun vs H Q E h => ?_) (fun cdv A outer s H vs Q E hr h => ?_)
  · obtain ⟨h, size, homes, rfl, _⟩ := h
    rfl
  · obtain ⟨h, size, homes, rfl, hh, hn, hs1, hs2, room, q⟩ := h
    refine ⟨_, (pss_one (ps_ret (pe_callB (cr_all rfl) (by rfl) T.all bAll (pa_cons (pe_lcE (own := [("place", 3)]) (g := (gName 3)) rfl scRoom.nd (pi_range1 (by rfl) T.range (pa_cons (pv 0) pa_nil)) (blkOk_by (N := ["places", "homes", "home", "place"]) (sc := defScope sRoom) (by decide +kernel)) (fun _ _ _ _ _ => (pg_name (i := 3) scRoom.nd rfl (Or.inr rfl))) (fun _ _ _ _ _ => pts_nil) (fun _ _ _ _ _ => (pe_cmpR op_le (pe_callB call_len_seq (by rfl) T.len bLen (pa_cons (pe_lcE (own := [("home", 2)]) (g := (gName 2)) rfl scRoom.nd (pi_tup (pv 1)) (blkOk_by (N := ["places", "homes", "home", "place"]) (sc := relS roomScope (defScope sRoom)) (by decide +kernel)) (fun _ _ _ _ _ => (pg_name (i := 2) scRoom.nd rfl (Or.inl rfl))) (fun _ _ _ _ _ => (pts_one (pt_cmpR op_ge (pv 2) (pv 3) (nomark _)))) (fun _ _ _ _ _ => (pv 2))) pa_nil)) (pe_op op_sub (pv 0) (pv 3)) (nomark _)))) pa_nil)))), ?_⟩
    -- [.. for place in range(places)]
    refine ⟨_, rfl, size, rfl, by omega, by omega, fun D nD => lc_range (lo := 0) (n := size.toNat) (fun i H1 => SameBut D (upd H D (.lst [])) H1 ∧ H1 D = some (.lst ((List.replicate i true).map V.bl)))
      ⟨sb_refl, upd_same⟩ ?_ ?_⟩
    · rintro i H1 hi ⟨sb, eD⟩
      have hh1 : H1 h = some (.tup (homes.map V.int)) := sb _ _ (by rw [upd_ne (ne_of_none hh nD)]; exact hh) (ne_of_none hh nD)
      refine ⟨rfl, ?_⟩
      -- [home for home in homes if home >= place]
      refine ⟨_, rfl, h, rfl, ⟨_, SqT.of hh1⟩, fun L nL => lc_tup (K := K) (a := h) (xs := homes.map V.int) (fun j H2 => SameBut L (upd H1 L (.lst [])) H2 ∧ H2 L = some (.lst (((homes.take j).filter fun x => decide ((i : Int) ≤ x)).map V.int)))
        ⟨sb_refl, upd_same⟩ (fun j H2 _ hp => SqT.of (hp.1 _ _ (by rw [upd_ne (ne_of_none hh1 nL)]; exact hh1) (ne_of_none hh1 nL))) ?_ ?_⟩
      · rintro j y H2 hj ⟨sb2, eL⟩
        obtain ⟨z, hz, rfl⟩ := get_map hj
        refine ⟨rfl, ?_⟩
        refine ⟨_, rfl, _, rfl, z, 0 + (i : Int), rfl, rfl, _, rfl, ?_⟩
        rw [Int.zero_add]
        have ef := filter_take (fun x => decide ((i : Int) ≤ x)) hz
        refine ite2 (fun e => ?_) (fun e => ?_)
        · refine ⟨_, rfl, _, eL, lt_line ?_, sb_upd sb2, ?_⟩
          · rw [List.length_map]
            have := List.length_filter_le (fun x => decide ((i : Int) ≤ x)) (homes.take j)
            rw [List.length_take] at this
            omega
          · rw [upd_same, ef, if_pos e, List.map_append]
            rfl
        · refine ⟨sb2, ?_⟩
          rw [ef, if_neg e, List.append_nil]
          exact eL
      · rintro H2 ⟨sb2, eL⟩
        rw [List.length_map, List.take_length] at eL
        refine ⟨L, _, rfl, .inl (SqL.of eL), _, rfl, _, rfl, size, 0 + (i : Int), rfl, rfl, _, _, rfl, rfl, ?_⟩
        have s2 : Same H1 H2 := same_new nL sb2
        have hr : (((homes.filter fun x => decide ((i : Int) ≤ x)).map V.int).length : Int) ≤ size - (0 + (i : Int)) := by
          have := room i (by omega) (by omega)
          rw [List.length_map]
          omega
        dsimp only
        rw [decide_eq_true hr]
        refine ⟨_, s2 _ _ eD, lt_line ?_, sb_upd (sb_same sb s2), ?_⟩
        · rw [List.length_map, List.length_replicate]
          omega
        · rw [upd_same, List.replicate_succ', List.map_append]
          rfl
    · rintro H1 ⟨sb, eD⟩
      refine ⟨D, _, rfl, SqL.of eD, ?_⟩
      rw [all_true]
      exact q _ (same_new nD sb)
/-! ### need_street -/
theorem scNS : FnScope ["street", "home"] ["street"] (defScope sNeedStreet) := ⟨rfl, rfl, rfl, by decide +kernel, rfl, by decide +kernel, by decide +kernel⟩
def spNeedStreet : Sp := fun vs H Q _ => ∃ (a h : Addr) (size : Int) (homes st : List Int), vs = [.ref a] ∧ Street H a h size homes ∧ Drawn size homes st ∧ ∀ H', Same H H' → Q .non H'
theorem ok_needStreet {f fR fI fN fL : Addr} {fd fdR fdI fdN fdL : FuncData} (F : Fun K "need_street" "need_street" sNeedStreet f fd)
    (FR : Fun K "has_room" "has_room" sRoom fR fdR) (bR : Binds K fdR ["places", "homes"] []) (gR : mg "has_room" = some (.ref fR))
    (FI : Fun K "is_in" "is_in" sIsIn fI fdI) (bI : Binds K fdI ["value", "least", "most"] []) (gI : mg "is_in" = some (.ref fI))
    (FN : Fun K "is_integer" "is_integer" sIsInt fN fdN) (bN : Binds K fdN ["value"] []) (gN : mg "is_integer" = some (.ref fN))
    (FL : Fun K "is_list" "is_list" sIsList fL fdL) (bL : Binds K fdL ["value", "least", "most"] []) (gL : mg "is_list" = some (.ref fL)) (T : Txt mg) :
    FnOk P w K mg base CX0 3 f fd ["street"] spNeedStreet := by
  have GR : FnOk P w K mg base CX0 1 fR fdR ["places", "homes"] spRoom := ok_room FR T
  have GI : FnOk P w K mg base CX0 2 fI fdI ["value", "least", "most"] spIsIn := ok_isIn FI FN bN gN T
  have GL : FnOk P w K mg base CX0 1 fL fdL ["value", "least", "most"] spIsList := ok_isList FL T
  obtain ⟨t12, m12⟩ := T.places
  obtain ⟨t7, m7⟩ := T.cars
  refine F.ok scNS (fun vs H Q E h => ?_) (fun cdv A outer s H vs Q E hr h => ?_)
  · obtain ⟨a, h, size, homes, st, rfl, _⟩ := h
    rfl
  · obtain ⟨a, h, size, homes, st, rfl, S, D, q⟩ := h
    have hr1 : Room 1 _ := hr.mono (by decide)
    refine ⟨_, (pss_cons (ps_if (PW.pt (pw_or (pt_not (pt_val (pe_call GL hr1 (by rfl) gL FL.kp bL .nil pass0 (pa_cons (pv 0) (pa_cons pe_int (pa_cons pe_int pa_nil)))))) (pw_or (pt_not (pt_val (pe_call GI hr (by rfl) gI FI.kp bI .nil pass0 (pa_cons (pe_ix ix_tup (pv 0) pe_int (fun _ _ => rfl)) (pa_cons pe_int (pa_cons (pe_glob (v := .int 12) rfl m12 ⟨_, rfl⟩) pa_nil)))))) (pw_or1 (pt_not (pt_val (pe_call GL hr1 (by rfl) gL FL.kp bL .nil pass0 (pa_cons (pe_ix ix_tup (pv 0) pe_int (fun _ _ => rfl)) (pa_cons pe_int (pa_cons (pe_glob (v := .int 7) rfl m7 ⟨_, rfl⟩) pa_nil)))))))))) pss_never pss_nil)
        (pss_one (ps_if (PW.pt (pw_or (pt_not (pt_val (pe_callB (cr_all rfl) (by rfl) T.all bAll (pa_cons (pe_lcE (own := [("home", 1)]) (g := (gName 1)) rfl scNS.nd (pi_tup (pe_ix ix_tup (pv 0) pe_int (fun _ _ => rfl))) (blkOk_by (N := ["street", "home"]) (sc := defScope sNeedStreet) (by decide +kernel)) (fun _ _ _ _ _ => (pg_name (i := 1) scNS.nd rfl (Or.inl rfl))) (fun _ _ _ _ _ => pts_nil) (fun _ _ _ _ _ => (pe_call GI hr (by rfl) gI FI.kp bI .nil pass0 (pa_cons (pv 1) (pa_cons pe_int (pa_cons (pe_op op_sub (pe_ix ix_tup (pv 0) pe_int (fun _ _ => rfl)) pe_int) pa_nil)))))) pa_nil)))) (pw_or1 (pt_not (pt_val (pe_call GR hr1 (by rfl) gR FR.kp bR .nil pass0 (pa_cons (pe_ix ix_tup (pv 0) pe_int (fun _ _ => rfl)) (pa_cons (pe_ix ix_tup (pv 0) pe_int (fun _ _ => rfl)) pa_nil)))))))) pss_never pss_nil))), ?_⟩
    have n5 := D.n2
    have n1 := D.n1
    have z1 := D.s1
    have z2 := D.s2
    -- the first test
    refine ⟨_, rfl, a, _, 2, 2, rfl, S.at_, (by show (2 : Int) ≤ 2; decide), (by show (2 : Int) ≤ 2; decide), true, rfl, iteF ?_⟩
    refine ⟨_, rfl, a, _, 0, .int size, rfl, rfl, SqT.of S.at_, atI_nat (j := 0) rfl, size, 1, 12, rfl, by omega, by omega, true, rfl, iteF ?_⟩
    refine ⟨_, rfl, a, _, 1, .ref h, rfl, rfl, SqT.of S.at_, atI_nat (j := 1) rfl, h, _, 1, 7, rfl, S.hs, by rw [List.length_map]; omega, by rw [List.length_map]; omega, true, rfl, iteF ?_⟩
    -- all([is_in(home, 0, street[0] - 1) for home in street[1]])
    refine ⟨_, rfl, a, _, 1, .ref h, rfl, rfl, SqT.of S.at_, atI_nat (j := 1) rfl, h, rfl, ⟨_, SqT.of S.hs⟩, fun L nL => lc_tup (K := K) (a := h) (xs := homes.map V.int) (fun i H1 => SameBut L (upd H L (.lst [])) H1 ∧ H1 L = some (.lst ((List.replicate i true).map V.bl)))
      ⟨sb_refl, upd_same⟩ (fun i H1 _ hp => SqT.of (hp.1 _ _ (by rw [upd_ne (ne_of_none S.hs nL)]; exact S.hs) (ne_of_none S.hs nL))) ?_ ?_⟩
    · rintro i y H1 hi ⟨sb, eL⟩
      obtain ⟨z, hz, rfl⟩ := get_map hi
      have hm := List.mem_of_getElem? hz
      obtain ⟨q1, q2⟩ := D.h1 z hm
      have ha1 : H1 a = _ := sb _ _ (by rw [upd_ne (ne_of_none S.at_ nL)]; exact S.at_) (ne_of_none S.at_ nL)
      refine ⟨rfl, ?_⟩
      refine ⟨_, rfl, _, rfl, a, _, 0, .int size, rfl, rfl, SqT.of ha1, atI_nat (j := 0) rfl, _, _, rfl, rfl, z, 0, size - 1, rfl, q1, q2, ?_⟩
      refine ⟨_, eL, lt_line ?_, sb_upd sb, ?_⟩
      · rw [List.length_map, List.length_replicate]
        have := (List.getElem?_eq_some_iff.mp hz).1
        omega
      · rw [upd_same, List.replicate_succ', List.map_append]
        rfl
    · rintro H1 ⟨sb, eL⟩
      have s1 : Same H H1 := same_new nL sb
      have S1 := S.same s1
      refine ⟨L, _, rfl, SqL.of eL, true, congrArg V.bl (all_true _), iteF ?_⟩
      refine ⟨_, rfl, a, _, 0, .int size, rfl, rfl, SqT.of S1.at_, atI_nat (j := 0) rfl, _, rfl, a, _, 1, .ref h, rfl, rfl, SqT.of S1.at_, atI_nat (j := 1) rfl, h, size, homes, rfl, S1.hs, n5, z1, z2, D.room, fun H2 s2 => ?_⟩
      exact ⟨true, rfl, iteF (q _ (s1.trans s2))⟩
/-! ### need_places, need_state -/
theorem scNP : FnScope ["street", "state", "places", "homes", "index", "place"] ["street", "state"] (defScope sNeedPlaces) := ⟨rfl, rfl, rfl, by decide +kernel, rfl, by decide +kernel, by decide +kernel⟩
def spNeedPlaces : Sp := fun vs H Q _ => ∃ (a h p : Addr) (size : Int) (homes st : List Int), vs = [.ref a, .ref p] ∧ Street H a h size homes ∧ H p = some (.tup (st.map V.int)) ∧ Drawn size homes st ∧ ∀ H', Same H H' → Q .non H'
theorem cut_to (xs : List V) (i : Nat) : cutV xs none (some (i : Int)) = xs.take i := by
  unfold cutV
  rw [HT.sIx_none, HT.sIx_nat, List.drop_zero, Nat.sub_zero]
  by_cases h : i ≤ xs.length
  · rw [Nat.min_eq_left h]
  · rw [Nat.min_eq_right (by omega), List.take_length, List.take_of_length_le (by omega)]
theorem notin_take {st : List Int} (nd : st.Nodup) {i : Nat} {z : Int} (h : st[i]? = some z) : (st.take i).contains z = false := by
  cases q : (st.take i).contains z with
  | false => rfl
  | true =>
    exfalso
    have hc := List.contains_iff_mem.mp q
    obtain ⟨hi, e⟩ := List.getElem?_eq_some_iff.mp h
    obtain ⟨j, hj⟩ := List.mem_iff_getElem?.mp hc
    rw [List.getElem?_take] at hj
    by_cases hji : j < i
    · rw [if_pos hji] at hj
      obtain ⟨hjl, ej⟩ := List.getElem?_eq_some_iff.mp hj
      exact absurd (ej.trans e.symm) ((List.pairwise_iff_getElem.mp nd) j i hjl hi hji)
    · rw [if_neg hji] at hj
      cases hj
theorem ok_needPlaces {f fI fN fL : Addr} {fd fdI fdN fdL : FuncData} (F : Fun K "need_places" "need_places" sNeedPlaces f fd)
    (FI : Fun K "is_in" "is_in" sIsIn fI fdI) (bI : Binds K fdI ["value", "least", "most"] []) (gI : mg "is_in" = some (.ref fI))
    (FN : Fun K "is_integer" "is_integer" sIsInt fN fdN) (bN : Binds K fdN ["value"] []) (gN : mg "is_integer" = some (.ref fN))
    (FL : Fun K "is_list" "is_list" sIsList fL fdL) (bL : Binds K fdL ["value", "least", "most"] []) (gL : mg "is_list" = some (.ref fL)) (T : Txt mg) :
    FnOk P w K mg base CX0 3 f fd ["street", "state"] spNeedPlaces := by
  have GI : FnOk P w K mg base CX0 2 fI fdI ["value", "least", "most"] spIsIn := ok_isIn FI FN bN gN T
  have GL : FnOk P w K mg base CX0 1 fL fdL ["value", "least", "most"] spIsList := ok_isList FL T
  refine F.ok scNP (fun vs H Q E h => ?_) (fun cdv A outer s H vs Q E hr h => ?_)
  · obtain ⟨a, h, p, size, homes, st, rfl, _⟩ := h
    rfl
  · obtain ⟨a, h, p, size, homes, st, rfl, S, hp, D, q⟩ := h
    have hr1 : Room 1 _ := hr.mono (by decide)
    refine ⟨_, (pss_cons (ps_asg (pv 0) (pg_tup rfl (pgs_cons (pg_name (i := 2) scNP.nd rfl (Or.inl rfl)) (pgs_cons (pg_name (i := 3) scNP.nd rfl (Or.inl rfl)) pgs_nil))))
        (pss_cons (ps_if (pt_not (pt_val (pe_call GL hr1 (by rfl) gL FL.kp bL .nil pass0 (pa_cons (pv 1) (pa_cons (pe_callB call_len_seq (by rfl) T.len bLen (pa_cons (pv 3) pa_nil)) (pa_cons (pe_callB call_len_seq (by rfl) T.len bLen (pa_cons (pv 3) pa_nil)) pa_nil)))))) pss_never pss_nil)
        (pss_one (ps_for PassesOwn.never rfl (pi_enumT (by rfl) T.enumerate (pa_cons (pv 1) pa_nil)) (pg_tup rfl (pgs_cons (pg_name (i := 4) scNP.nd rfl (Or.inl rfl)) (pgs_cons (pg_name (i := 5) scNP.nd rfl (Or.inl rfl)) pgs_nil))) (pss_one (ps_if (PW.pt (pw_or (pt_not (pt_val (pe_call GI hr (by rfl) gI FI.kp bI .nil pass0 (pa_cons (pv 5) (pa_cons (pe_ix ix_tup (pv 3) (pv 4) (fun _ _ => rfl)) (pa_cons (pe_op op_sub (pv 2) pe_int) pa_nil)))))) (pw_or1 (pt_cmpR op_in_seq (pv 5) (pe_slice sl_tup (pv 1) po_none (po_some (pv 4))) (by rfl))))) pss_never pss_nil)))))), ?_⟩
    -- places, homes = street
    refine ⟨_, rfl, a, _, rfl, SqT.of S.at_, rfl, _, _, rfl, _, _, rfl, rfl, ?_⟩
    -- the length
    have hl := D.ok.len
    refine ⟨_, rfl, _, rfl, h, _, rfl, .inr (SqT.of S.hs), _, rfl, h, _, rfl, .inr (SqT.of S.hs), p, _, _, _, rfl, hp, by rw [List.length_map, List.length_map]; omega, by rw [List.length_map, List.length_map]; omega, true, rfl, iteF ?_⟩
    -- for index, place in enumerate(state)
    refine ⟨_, rfl, p, _, rfl, SqT.of hp, for_enumT (K := K) (a := p) (xs := st.map V.int) (fun i σ H' => ∃ v4 v5 : Option V, σ = [some (.ref a), some (.ref p), some (.int size), some (.ref h), v4, v5] ∧ Same H H')
      ⟨_, _, rfl, Same.refl _⟩ (fun i σ H' _ hx => ?_) ?_ ?_⟩
    · obtain ⟨_, _, _, s1⟩ := hx
      exact SqT.of (s1 _ _ hp)
    · rintro i x T σ H1 hi ⟨v4, v5, rfl, s1⟩ nT
      obtain ⟨z, hz, rfl⟩ := get_map hi
      have hil : i < st.length := (List.getElem?_eq_some_iff.mp hz).1
      have hih : i < homes.length := by omega
      have sT : Same H1 (upd H1 T (.tup [.int (i : Nat), .int z])) := same_upd nT
      have s2 : Same H (upd H1 T (.tup [.int (i : Nat), .int z])) := s1.trans sT
      have lo : homes[i] ≤ z := by
        have := D.ok.low i hih hil
        have e := (List.getElem?_eq_some_iff.mp hz).2
        rw [e] at this
        exact this
      have hi2 : z ≤ size - 1 := D.st1 z (List.mem_of_getElem? hz)
      refine ⟨T, _, rfl, SqT.of upd_same, rfl, _, _, rfl, _, _, rfl, rfl, ?_⟩
      refine ⟨_, rfl, _, rfl, _, rfl, h, _, _, .int homes[i], rfl, rfl, SqT.of (s2 _ _ S.hs), atI_nat (map_get (List.getElem?_eq_getElem hih)), _, rfl, _, _, rfl, rfl, z, homes[i], size - 1, rfl, lo, hi2, true, rfl, iteF ?_⟩
      refine ⟨_, rfl, _, rfl, _, rfl, _, rfl, p, _, rfl, SqT.of (s2 _ _ hp), ?_, fun p2 np2 => ?_⟩
      · rw [HT.sIx_nat, List.length_map]
        omega
      · refine ⟨p2, _, rfl, .inr (SqT.of upd_same), rfl, ?_, false, ?_, iteF ?_⟩
        · rw [cut_to, ← List.map_take]
          exact flat_ints _
        · show V.bl (inV (.int z) (cutV (st.map V.int) none (some (i : Int)))) = V.bl false
          rw [cut_to, ← List.map_take, inV_int, notin_take D.ok.nd hz]
        · exact ⟨_, _, rfl, s2.trans (same_upd np2)⟩
    · rintro σ H1 ⟨v4, v5, rfl, s1⟩
      exact q _ s1
theorem scNSt : FnScope ["street", "state"] ["street", "state"] (defScope sNeedState) := ⟨rfl, rfl, rfl, by decide +kernel, rfl, by decide +kernel, by decide +kernel⟩
/-- what need_state leans on -/
structure NeedF (K : PySem.W.Frag) (mg : Str → Option Value) (fS fP fR fI fN fL : Addr) (fdS fdP fdR fdI fdN fdL : FuncData) : Prop where
  FS : Fun K "need_street" "need_street" sNeedStreet fS fdS
  bS : Binds K fdS ["street"] []
  gS : mg "need_street" = some (.ref fS)
  FP : Fun K "need_places" "need_places" sNeedPlaces fP fdP
  bP : Binds K fdP ["street", "state"] []
  gP : mg "need_places" = some (.ref fP)
  FR : Fun K "has_room" "has_room" sRoom fR fdR
  bR : Binds K fdR ["places", "homes"] []
  gR : mg "has_room" = some (.ref fR)
  FI : Fun K "is_in" "is_in" sIsIn fI fdI
  bI : Binds K fdI ["value", "least", "most"] []
  gI : mg "is_in" = some (.ref fI)
  FN : Fun K "is_integer" "is_integer" sIsInt fN fdN
  bN : Binds K fdN ["value"] []
  gN : mg "is_integer" = some (.ref fN)
  FL : Fun K "is_list" "is_list" sIsList fL fdL
  bL : Binds K fdL ["value", "least", "most"] []
  gL : mg "is_list" = some (.ref fL)
def spNeedState : Sp := spNeedPlaces
theorem ok_needState {f fS fP fR fI fN fL : Addr} {fd fdS fdP fdR fdI fdN fdL : FuncData} (F : Fun K "need_state" "need_state" sNeedState f fd) (Z : NeedF K mg fS fP fR fI fN fL fdS fdP fdR fdI fdN fdL) (T : Txt mg) :
    FnOk P w K mg base CX0 4 f fd ["street", "state"] spNeedState := by
  obtain ⟨FS, bS, gS, FP, bP, gP, FR, bR, gR, FI, bI, gI, FN, bN, gN, FL, bL, gL⟩ := Z
  have GS : FnOk P w K mg base CX0 3 fS fdS ["street"] spNeedStreet := ok_needStreet FS FR bR gR FI bI gI FN bN gN FL bL gL T
  have GP : FnOk P w K mg base CX0 3 fP fdP ["street", "state"] spNeedPlaces := ok_needPlaces FP FI bI gI FN bN gN FL bL gL T
  refine F.ok scNSt (fun vs H Q E h => ?_) (fun cdv A outer s H vs Q E hr h => ?_)
  · obtain ⟨a, h, p, size, homes, st, rfl, _⟩ := h
    rfl
  · obtain ⟨a, h, p, size, homes, st, rfl, S, hp, D, q⟩ := h
    refine ⟨_, (pss_cons (ps_expr (pe_call GS hr (by rfl) gS FS.kp bS .nil pass0 (pa_cons (pv 0) pa_nil)))
        (pss_one (ps_expr (pe_call GP hr (by rfl) gP FP.kp bP .nil pass0 (pa_cons (pv 0) (pa_cons (pv 1) pa_nil)))))), ?_⟩
    refine ⟨_, rfl, a, h, size, homes, st, rfl, S, D, fun H1 s1 => ?_⟩
    exact ⟨_, rfl, _, rfl, a, h, p, size, homes, st, rfl, S.same s1, s1 _ _ hp, D, fun H2 s2 => q _ (s1.trans s2)⟩
end
end KW
namespace KW
open PySem PySem.Spec PyProof.Rows L2 KR
section
variable {P : Program} {w : World} {K : PySem.W.Frag} {mg : Str → Option Value} {base : Heap}
theorem fall {f : List Int} {p : Int} (h : p ∈ f) : (f.filter fun x => decide (p + 1 ≤ x)).length < (f.filter fun x => decide (p ≤ x)).length := by
  rw [← List.countP_eq_length_filter, ← List.countP_eq_length_filter]
  induction f with
  | nil => cases h
  | cons y f ih =>
    have mono : f.countP (fun x => decide (p + 1 ≤ x)) ≤ f.countP (fun x => decide (p ≤ x)) := List.countP_mono_left fun x _ hx => by
      have := of_decide_eq_true hx
      exact decide_eq_true (by omega)
    rw [List.countP_cons, List.countP_cons]
    rcases List.mem_cons.mp h with e | h
    · subst e
      rw [if_neg (by rw [decide_eq_true_eq]; omega), if_pos (by rw [decide_eq_true_eq]; omega)]
      omega
    · have := ih h
      by_cases e : p + 1 ≤ y
      · rw [if_pos (decide_eq_true e), if_pos (decide_eq_true (by omega))]
        omega
      · rw [if_neg (by rw [decide_eq_true_eq]; exact e)]
        split <;> omega
theorem SqL.ints {K : PySem.W.Frag} {H : Hp} {p : Addr} {xs : List Int} (h : H p = some (.lst (xs.map V.int))) : SqL K H p (xs.map V.int) := SqL.of h
/-! ### taken_in -/
theorem scTaken : FnScope ["homes", "found", "home", "place"] ["homes"] (defScope sTaken) := ⟨rfl, rfl, rfl, by decide +kernel, rfl, by decide +kernel, by decide +kernel⟩
def spTaken : Sp := fun vs H Q _ => ∃ (h : Addr) (homes : List Int), vs = [.ref h] ∧ H h = some (.tup (homes.map V.int)) ∧ homes.length ≤ 5 ∧
  ∀ (taken : List Int) (p : Addr) (H' : Hp), KM.IsTaken homes taken → Same H H' → H p = none → H' p = some (.lst (taken.map V.int)) → Q (.ref p) H'
theorem ok_taken {f : Addr} {fd : FuncData} (F : Fun K "taken_in" "taken_in" sTaken f fd) (T : Txt mg) : FnOk P w K mg base CX0 1 f fd ["homes"] spTaken := by
  refine F.ok scTaken (fun vs H Q E h => ?_) (fun cdv A outer s H vs Q E hr h => ?_)
  · obtain ⟨h, homes, rfl, _⟩ := h
    rfl
  · obtain ⟨h, homes, rfl, hh, hn, q⟩ := h
    refine ⟨_, (pss_cons (ps_set (i := 1) scTaken.nd rfl (Or.inl rfl) (pe_lst pa_nil))
        (pss_cons (ps_for PassesOwn.never rfl (pi_list (pe_callB cr_sortedTu (by rfl) T.sorted bSorted (pa_cons (pv 0) pa_nil))) (pg_name (i := 2) scTaken.nd rfl (Or.inl rfl)) (pss_cons (ps_set (i := 3) scTaken.nd rfl (Or.inl rfl) (pv 2))
        (pss_cons (ps_while PassesOwn.never (pt_cmpR op_in_seq (pv 3) (pv 1) (by rfl)) (pss_one (ps_aug (i := 3) scTaken.nd rfl (Or.inl rfl) pe_int ip_add)))
        (pss_one (ps_expr (pe_bm PySem.F.plainAttrs_list PySem.F.slot_list_append PySem.F.type_list_append mt_append (pv 1) (pa_cons (pv 3) pa_nil)))))))
        (pss_one (ps_ret (pe_callB cr_sorted (by rfl) T.sorted bSorted (pa_cons (pv 1) pa_nil)))))), ?_⟩
    -- found = []
    refine ⟨Nat.zero_le _, fun fp nf => ?_⟩
    have s1 : Same H (upd H fp (.lst [])) := same_upd nf
    -- for home in sorted(homes)
    refine ⟨_, rfl, h, homes, rfl, SqT.of (s1 _ _ hh), by omega, fun ns L perm srt nL => ?_⟩
    have hlen := perm.length_eq
    have nfL : fp ≠ L := ne_of_none (show upd H fp (.lst []) fp = some (.lst []) from upd_same) nL
    refine ⟨L, rfl, ⟨_, SqL.of upd_same⟩, for_list (K := K) (a := L) (xs := ns.map V.int) (fun i σ H' => ∃ (g : List Int) (v2 v3 : Option V), σ = [some (.ref h), some (.ref fp), v2, v3] ∧
        SameBut fp (upd (upd H fp (.lst [])) L (.lst (ns.map V.int))) H' ∧ H' fp = some (.lst (g.map V.int)) ∧ KM.Parks (ns.take i) g ∧ g.length = i)
      ⟨[], none, none, rfl, sb_refl, by rw [upd_ne nfL, upd_same] <;> rfl, .nil, rfl⟩ (fun i σ H' _ hx => ?_) ?_ ?_⟩
    · obtain ⟨g, v2, v3, _, sb, _⟩ := hx
      exact SqL.of (sb _ _ upd_same nfL.symm)
    · rintro i x σ H1 hi ⟨g, v2, v3, rfl, sb, eF, pk, gl⟩
      obtain ⟨z, hz, rfl⟩ := get_map hi
      have hil : i < ns.length := (List.getElem?_eq_some_iff.mp hz).1
      -- place = home
      refine ⟨_, rfl, ?_⟩
      -- while place in found
      refine ⟨fun m σ H' => ∃ p : Int, σ = [some (.ref h), some (.ref fp), some (.int z), some (.int p)] ∧ H' = H1 ∧ m = (g.filter fun x => decide (p ≤ x)).length ∧ z ≤ p ∧ ∀ r, z ≤ r → r < p → r ∈ g,
        ⟨_, z, rfl, rfl, rfl, Int.le_refl _, fun r h1 h2 => by omega⟩, ?_⟩
      rintro m σ H2 ⟨p, rfl, rfl, rfl, hzp, hpg⟩
      refine ⟨_, rfl, _, rfl, fp, _, rfl, .inl (SqL.of eF), rfl, flat_ints _, g.contains p, congrArg V.bl (inV_int p g), ite2 (fun hc => ?_) (fun hc => ?_)⟩
      · have hm := List.contains_iff_mem.mp hc
        refine ⟨fun σ' H' => σ' = [some (.ref h), some (.ref fp), some (.int z), some (.int (p + 1))] ∧ H' = H2, fun σ' H' ⟨e1, e2⟩ => ⟨_, fall hm, p + 1, e1, e2, rfl, by omega, fun r h1 h2 => ?_⟩, .int p, rfl, p, 1, rfl, rfl, rfl, rfl⟩
        by_cases e : r = p
        · rw [e]; exact hm
        · exact hpg r h1 (by omega)
      · have hm : p ∉ g := fun z => hc (List.contains_iff_mem.mpr z)
        refine ⟨_, rfl, .inl ⟨rfl, _, SqL.of eF⟩, _, rfl, fp, _, _, rfl, rfl, eF, lt_line ?_, ?_⟩
        · rw [List.length_map]
          omega
        · refine ⟨g ++ [p], _, _, rfl, sb_upd sb, ?_, ?_, ?_⟩
          · rw [upd_same, List.map_append]
            rfl
          · rw [take_snoc hz]
            exact pk.snoc ⟨hzp, hm, hpg⟩
          · rw [List.length_append, gl]
            rfl
    · rintro σ H1 ⟨g, v2, v3, rfl, sb, eF, pk, gl⟩
      rw [List.length_map] at pk gl
      rw [List.take_length] at pk
      refine ⟨_, rfl, fp, g, rfl, SqL.of eF, by omega, fun ns2 p2 perm2 srt2 np2 => ?_⟩
      have s2 : Same H H1 := fun b o e => by
        have hb := ne_of_none e nf
        exact sb b o (same_upd nL b o (by rw [upd_ne hb]; exact e)) hb
      exact q ns2 p2 _ ⟨ns, g, perm, pk, perm2, srt2⟩ (s2.trans (same_upd np2)) (s2.free np2) upd_same
/-! ### _law_filled -/
theorem scFilled : FnScope ["_law_homes", "_law_found", "_law_home", "_law_place"] ["_law_homes"] (defScope sFilled) := ⟨rfl, rfl, rfl, by decide +kernel, rfl, by decide +kernel, by decide +kernel⟩
def spFilled : Sp := fun vs H Q _ => ∃ (h : Addr) (homes : List Int), vs = [.ref h] ∧ H h = some (.tup (homes.map V.int)) ∧ homes.length ≤ 5 ∧ (∀ x ∈ homes, x ≤ 9) ∧
  ∀ (taken : List Int) (p : Addr) (H' : Hp), KM.IsTaken homes taken → Same H H' → H p = none → H' p = some (.lst (taken.map V.int)) → Q (.ref p) H'
theorem ok_filled {f : Addr} {fd : FuncData} (F : Fun K "_law_filled" "_law_filled" sFilled f fd) (T : Txt mg) : FnOk P w K mg base CX0 1 f fd ["_law_homes"] spFilled := by
  refine F.ok scFilled (fun vs H Q E h => ?_) (fun cdv A outer s H vs Q E hr h => ?_)
  · obtain ⟨h, homes, rfl, _⟩ := h
    rfl
  · obtain ⟨h, homes, rfl, hh, hn, h9, q⟩ := h
    refine ⟨_, (pss_cons (ps_set (i := 1) scFilled.nd rfl (Or.inl rfl) (pe_lst pa_nil))
        (pss_cons (ps_for PassesOwn.never rfl (pi_tup (pv 0)) (pg_name (i := 2) scFilled.nd rfl (Or.inl rfl)) (pss_cons (ps_set (i := 3) scFilled.nd rfl (Or.inl rfl) (pv 2))
        (pss_cons (ps_while PassesOwn.never (PW.pt (pw_and (pt_cmpR op_in_seq (pv 3) (pv 1) (by rfl)) (pw_and1 (pt_cmpR op_lt (pv 3) pe_int (nomark _))))) (pss_one (ps_set (i := 3) scFilled.nd rfl (Or.inl rfl) (pe_op op_add (pv 3) pe_int))))
        (pss_one (ps_expr (pe_bm PySem.F.plainAttrs_list PySem.F.slot_list_append PySem.F.type_list_append mt_append (pv 1) (pa_cons (pv 3) pa_nil)))))))
        (pss_one (ps_ret (pe_callB cr_sorted (by rfl) T.sorted bSorted (pa_cons (pv 1) pa_nil)))))), ?_⟩
    -- found = []
    refine ⟨Nat.zero_le _, fun fp nf => ?_⟩
    have s1 : Same H (upd H fp (.lst [])) := same_upd nf
    have nfh : h ≠ fp := ne_of_none hh nf
    refine ⟨_, rfl, h, rfl, ⟨_, SqT.of (s1 _ _ hh)⟩, for_tup (K := K) (a := h) (xs := homes.map V.int) (fun i σ H' => ∃ (g : List Int) (v2 v3 : Option V), σ = [some (.ref h), some (.ref fp), v2, v3] ∧
        SameBut fp (upd H fp (.lst [])) H' ∧ H' fp = some (.lst (g.map V.int)) ∧ KM.Parks (homes.take i) g ∧ g.length = i ∧ ∀ x ∈ g, x ≤ 8 + (g.length : Int))
      ⟨[], none, none, rfl, sb_refl, upd_same, .nil, rfl, fun x hx => by cases hx⟩ (fun i σ H' _ hx => ?_) ?_ ?_⟩
    · obtain ⟨g, v2, v3, _, sb, _⟩ := hx
      exact SqT.of (sb _ _ (s1 _ _ hh) nfh)
    · rintro i x σ H1 hi ⟨g, v2, v3, rfl, sb, eF, pk, gl, gb⟩
      obtain ⟨z, hz, rfl⟩ := get_map hi
      have hil : i < homes.length := (List.getElem?_eq_some_iff.mp hz).1
      have z9 := h9 z (List.mem_of_getElem? hz)
      refine ⟨_, rfl, ?_⟩
      refine ⟨fun m σ H' => ∃ p : Int, σ = [some (.ref h), some (.ref fp), some (.int z), some (.int p)] ∧ H' = H1 ∧ m = (g.filter fun x => decide (p ≤ x)).length ∧ z ≤ p ∧ p ≤ 9 + (g.length : Int) ∧ ∀ r, z ≤ r → r < p → r ∈ g,
        ⟨_, z, rfl, rfl, rfl, Int.le_refl _, by omega, fun r h1 h2 => by omega⟩, ?_⟩
      rintro m σ H2 ⟨p, rfl, rfl, rfl, hzp, hp9, hpg⟩
      refine ⟨_, rfl, _, rfl, fp, _, rfl, .inl (SqL.of eF), rfl, flat_ints _, g.contains p, congrArg V.bl (inV_int p g), ite2 (fun hc => ?_) (fun hc => ?_)⟩
      · have hm := List.contains_iff_mem.mp hc
        have hb := gb p hm
        refine ⟨_, rfl, p, 99, rfl, rfl, true, congrArg V.bl (decide_eq_true (by omega)), iteT ?_⟩
        refine ⟨fun σ' H' => σ' = [some (.ref h), some (.ref fp), some (.int z), some (.int (p + 1))] ∧ H' = H2, fun σ' H' ⟨e1, e2⟩ => ⟨_, fall hm, p + 1, e1, e2, rfl, by omega, by omega, fun r h1 h2 => ?_⟩, _, rfl, p, 1, rfl, rfl, rfl, rfl⟩
        by_cases e : r = p
        · rw [e]; exact hm
        · exact hpg r h1 (by omega)
      · have hm : p ∉ g := fun z => hc (List.contains_iff_mem.mpr z)
        refine iteF ?_
        refine ⟨_, rfl, .inl ⟨rfl, _, SqL.of eF⟩, _, rfl, fp, _, _, rfl, rfl, eF, lt_line ?_, ?_⟩
        · rw [List.length_map]
          omega
        · refine ⟨g ++ [p], _, _, rfl, sb_upd sb, ?_, ?_, ?_, fun x hx => ?_⟩
          · rw [upd_same, List.map_append]
            rfl
          · rw [take_snoc hz]
            exact pk.snoc ⟨hzp, hm, hpg⟩
          · rw [List.length_append, gl]
            rfl
          · rw [List.length_append]
            rcases List.mem_append.mp hx with hx | hx
            · have := gb x hx
              simp only [List.length_cons, List.length_nil]
              omega
            · have : x = p := by simpa using hx
              simp only [List.length_cons, List.length_nil]
              omega
    · rintro σ H1 ⟨g, v2, v3, rfl, sb, eF, pk, gl, gb⟩
      rw [List.length_map] at pk gl
      rw [List.take_length] at pk
      refine ⟨_, rfl, fp, g, rfl, SqL.of eF, by omega, fun ns2 p2 perm2 srt2 np2 => ?_⟩
      have s2 : Same H H1 := same_new nf sb
      exact q ns2 p2 _ ⟨homes, g, List.Perm.refl _, pk, perm2, srt2⟩ (s2.trans (same_upd np2)) (s2.free np2) upd_same
end
end KW
namespace KW
open PySem PySem.Spec PyProof.Rows L2 KR
section
variable {P : Program} {w : World} {K : PySem.W.Frag} {mg : Str → Option Value} {base : Heap}
/-! ### walks of lists -/
theorem walk_list {K : PySem.W.Frag} {a : Addr} {xs : List V} {H0 : Hp} {Qd : Hp → Prop} {B : V → Hp → (Hp → Prop) → Prop} (Pv : Nat → Hp → Prop) (h0 : Pv 0 H0) (hl : ∀ i H, i ≤ xs.length → Pv i H → SqL K H a xs)
    (hs : ∀ i x H, xs[i]? = some x → Pv i H → B x H (Pv (i + 1))) (hd : ∀ H, Pv xs.length H → Qd H) : ∃ W : Nat → Nat → Hp → Prop, (∃ m, W 0 m H0) ∧ ∀ i m H, W i m H →
      ((Itl K a).stop i H ∧ Qd H) ∨ ((Itl K a).go i H ∧ ∃ Nx : Hp → Prop, (∀ H', Nx H' → ∃ m', m' < m ∧ W (i + 1) m' H') ∧ ∀ x H', (Itl K a).yld i H x H' → B x H' Nx) := by
  refine ⟨fun i m H => i + m = xs.length ∧ Pv i H, ⟨xs.length, Nat.zero_add _, h0⟩, fun i m H w => ?_⟩
  obtain ⟨sum, p⟩ := w
  have q := hl i H (by omega) p
  cases m with
  | zero =>
    cases sum
    exact .inl ⟨⟨xs, q, Nat.le_refl _⟩, hd H p⟩
  | succ m =>
    have lt : i < xs.length := by omega
    refine .inr ⟨⟨xs, xs[i], q, List.getElem?_eq_getElem lt⟩, Pv (i + 1), fun H' p' => ⟨m, Nat.lt_succ_self m, by omega, p'⟩, fun x H' y => ?_⟩
    obtain ⟨e, y⟩ := y
    cases e
    exact hs i x _ (y xs q) p
/-! ### rows in the heap -/
/-- at D a list of tuples, bs: where each stands and what it holds -/
structure RowsAt (H : Hp) (D : Addr) (bs : List (Addr × List Int)) : Prop where
  l : H D = some (.lst (bs.map fun b => V.ref b.1))
  t : ∀ b ∈ bs, H b.1 = some (.tup (b.2.map V.int))
theorem RowsAt.same {H H' : Hp} {D : Addr} {bs : List (Addr × List Int)} (s : Same H H') (r : RowsAt H D bs) : RowsAt H' D bs := ⟨s _ _ r.l, fun b hb => s _ _ (r.t b hb)⟩
theorem rows_get {bs : List (Addr × List Int)} {i : Nat} {y : V} (h : (bs.map fun b => V.ref b.1)[i]? = some y) : ∃ b, bs[i]? = some b ∧ y = .ref b.1 := by
  rw [List.getElem?_map, Option.map_eq_some_iff] at h
  obtain ⟨b, hb, e⟩ := h
  exact ⟨b, hb, e.symm⟩
/-- one more row: the tuple at t is new or stood already -/
theorem RowsAt.push {H : Hp} {D t : Addr} {bs : List (Addr × List Int)} {r : List Int} (a : RowsAt H D bs) (ht : H t = some (.tup (r.map V.int))) : RowsAt (upd H D (.lst ((bs.map fun b => V.ref b.1) ++ [V.ref t]))) D (bs ++ [(t, r)]) := by
  have ne : ∀ x xs, H x = some (.tup xs) → x ≠ D := fun x xs e => ne_of e a.l (by intro z; cases z)
  refine ⟨by rw [upd_same, List.map_append] <;> rfl, fun b hb => ?_⟩
  rcases List.mem_append.mp hb with hb | hb
  · rw [upd_ne (ne _ _ (a.t b hb))]
    exact a.t b hb
  · have e : b = (t, r) := by simpa using hb
    subst e
    rw [upd_ne (ne _ _ ht)]
    exact ht
theorem lt_big {n : Nat} (h : n ≤ 100000) : n < sizeLine := Nat.lt_of_le_of_lt h (by decide)
theorem le_big {n : Nat} (h : n ≤ 100000) : n ≤ sizeLine := Nat.le_of_lt (lt_big h)
/-- the rows that come of one row, from some places -/
def extR (c : Int → Bool) (r : List Int) (ps : List Int) : List (List Int) := (ps.filter fun p => c p && !(r.contains p)).map fun p => r ++ [p]
theorem ext_eq (taken : List Int) (c : Int → Bool) (rows : List (List Int)) : KM.ext taken c rows = rows.flatMap fun r => extR c r taken := rfl
theorem extR_len (c : Int → Bool) (r ps : List Int) : (extR c r ps).length ≤ ps.length := by
  unfold extR
  rw [List.length_map]
  exact List.length_filter_le _ _
theorem extR_snoc (c : Int → Bool) (r : List Int) {ps : List Int} {j : Nat} {z : Int} (h : ps[j]? = some z) : extR c r (ps.take (j + 1)) = extR c r (ps.take j) ++ (if (c z && !(r.contains z)) = true then [r ++ [z]] else []) := by
  unfold extR
  rw [filter_take _ h, List.map_append]
  congr 1
  split <;> rfl
theorem flat_len {α β : Type} (f : α → List β) (k : Nat) : ∀ l : List α, (∀ a ∈ l, (f a).length ≤ k) → (l.flatMap f).length ≤ k * l.length
  | [], _ => Nat.le_refl _
  | a :: l, h => by
    rw [List.flatMap_cons, List.length_append, List.length_cons, Nat.mul_add]
    have h1 := h a List.mem_cons_self
    have h2 := flat_len f k l fun b hb => h b (List.mem_cons_of_mem _ hb)
    omega
theorem rowsTo_card {taken : List Int} (ok : Int → Int → Bool) (h : taken.length ≤ 5) : ∀ k : Nat, (KM.rowsTo taken ok k).length ≤ 5 ^ k
  | 0 => Nat.le_refl _
  | k + 1 => by
    have ih := rowsTo_card ok h k
    have := flat_len (fun r => extR (ok k) r taken) 5 (KM.rowsTo taken ok k) fun r _ => Nat.le_trans (extR_len _ _ _) h
    show (KM.ext taken (ok k) (KM.rowsTo taken ok k)).length ≤ 5 ^ (k + 1)
    rw [ext_eq, Nat.pow_succ]
    omega
theorem flat_take {α β : Type} (f : α → List β) {l : List α} {i : Nat} {x : α} (h : l[i]? = some x) : (l.take (i + 1)).flatMap f = (l.take i).flatMap f ++ f x := by
  rw [take_snoc h, List.flatMap_append]
  simp
theorem pow5 {k : Nat} (h : k ≤ 5) : 5 ^ k ≤ 3125 := Nat.pow_le_pow_right (by decide) h
/-! ### rests_in -/
theorem scRestsIn : FnScope ["street", "state", "taken", "found", "home", "far", "row", "place"] ["street", "state"] (defScope sRestsIn) := ⟨rfl, rfl, rfl, by decide +kernel, rfl, by decide +kernel, by decide +kernel⟩
def spRestsIn : Sp := fun vs H Q _ => ∃ (a h p : Addr) (size : Int) (homes st : List Int), vs = [.ref a, .ref p] ∧ Street H a h size homes ∧ H p = some (.tup (st.map V.int)) ∧ homes.length ≤ 5 ∧ st.length = homes.length ∧
  ∀ (taken : List Int) (D : Addr) (bs : List (Addr × List Int)) (H' : Hp), KM.IsTaken homes taken → Same H H' → H D = none → RowsAt H' D bs → bs.map (·.2) = KM.rowsTo taken (KM.okB homes st) homes.length → Q (.ref D) H'
theorem ok_restsIn {f fT : Addr} {fd fdT : FuncData} (F : Fun K "rests_in" "rests_in" sRestsIn f fd) (FT : Fun K "taken_in" "taken_in" sTaken fT fdT) (bT : Binds K fdT ["homes"] []) (gT : mg "taken_in" = some (.ref fT)) (T : Txt mg) :
    FnOk P w K mg base CX0 2 f fd ["street", "state"] spRestsIn := by
  have GT : FnOk P w K mg base CX0 1 fT fdT ["homes"] spTaken := ok_taken FT T
  refine F.ok scRestsIn (fun vs H Q E h => ?_) (fun cdv A outer s H vs Q E hr h => ?_)
  · obtain ⟨a, h, p, size, homes, st, rfl, _⟩ := h
    rfl
  · obtain ⟨a, h, p, size, homes, st, rfl, S, hp, hn, hl, q⟩ := h
    refine ⟨_, (pss_cons (ps_asg (pe_tup (pa_cons (pe_call GT hr (by rfl) gT FT.kp bT .nil pass0 (pa_cons (pe_ix ix_tup (pv 0) pe_int (fun _ _ => rfl)) pa_nil)) (pa_cons (pe_lst (pa_cons (pe_tup pa_nil) pa_nil)) pa_nil))) (pg_tup rfl (pgs_cons (pg_name (i := 2) scRestsIn.nd rfl (Or.inr rfl)) (pgs_cons (pg_name (i := 3) scRestsIn.nd rfl (Or.inl rfl)) pgs_nil))))
        (pss_cons (ps_for PassesOwn.never rfl (RZ.pi_zipA (by rfl) T.zip (pa_cons (pe_ix ix_tup (pv 0) pe_int (fun _ _ => rfl)) (pa_cons (pv 1) pa_nil))) (pg_tup rfl (pgs_cons (pg_name (i := 4) scRestsIn.nd rfl (Or.inr rfl)) (pgs_cons (pg_name (i := 5) scRestsIn.nd rfl (Or.inr rfl)) pgs_nil))) (pss_one (ps_setLc2E (i := 3) (own := [("row", 6), ("place", 7)]) (vs1 := [7]) (g := (gName 6)) (g1 := (gName 7)) rfl scRestsIn.nd rfl rfl (sw_true rfl rfl rfl (by decide +kernel)) (pi_list (pv 3)) (blkOk_by (N := ["street", "state", "taken", "found", "home", "far", "row", "place"]) (sc := defScope sRestsIn) (by decide +kernel)) (by decide) (fun _ _ _ _ _ => (pg_name (i := 6) scRestsIn.nd rfl (Or.inl rfl))) (fun _ _ _ _ _ => pts_nil) (fun _ _ _ _ _ => (pi_list (pv 2))) (fun _ _ _ _ _ => (pg_name (i := 7) scRestsIn.nd rfl (Or.inl rfl))) (fun _ _ _ _ _ => (pts_one (PW.pt (pw_and (pt_chain op_le op_le (pv 4) (pv 7) (pv 5)) (pw_and1 (pt_cmpR op_notIn_seq (pv 7) (pv 6) (by rfl))))))) (fun _ _ _ _ _ => (pe_tup (StX.pa_star (pv 6) (pa_cons (pv 7) pa_nil)))))))
        (pss_one (ps_ret (pv 3))))), ?_⟩
    -- taken, found = (taken_in(street[1]), [()])
    refine ⟨_, rfl, a, _, 1, .ref h, rfl, rfl, SqT.of S.at_, atI_nat (j := 1) rfl, h, homes, rfl, S.hs, hn, fun taken tk H1 it s1 ntk etk => ?_⟩
    refine ⟨Nat.zero_le _, fun e0 ne0 => ⟨by show 1 ≤ sizeLine; decide, fun fp nfp => ⟨by show 2 ≤ sizeLine; decide, fun u nu => ?_⟩⟩⟩
    have s2 : Same H1 (upd H1 e0 (.tup [])) := same_upd ne0
    have s3 : Same (upd H1 e0 (.tup [])) (upd (upd H1 e0 (.tup [])) fp (.lst [.ref e0])) := same_upd nfp
    have s4 : Same (upd (upd H1 e0 (.tup [])) fp (.lst [.ref e0])) (upd (upd (upd H1 e0 (.tup [])) fp (.lst [.ref e0])) u (.tup [.ref tk, .ref fp])) := same_upd nu
    refine ⟨u, _, rfl, SqT.of upd_same, rfl, _, _, rfl, _, _, rfl, rfl, ?_⟩
    generalize hH2 : upd (upd (upd H1 e0 (.tup [])) fp (.lst [.ref e0])) u (.tup [.ref tk, .ref fp]) = H2 at s4
    have r0 : RowsAt H2 fp [(e0, [])] := ⟨s4 _ _ upd_same, fun b hb => by
      have e : b = (e0, []) := by simpa using hb
      subst e
      exact s4 _ _ (s3 _ _ upd_same)⟩
    have sH : Same H H2 := ((s1.trans s2).trans s3).trans s4
    have nfp0 : H fp = none := ((s1.trans s2)).free nfp
    have t5 : taken.length ≤ 5 := by rw [it.length]; exact hn
    -- for home, far in zip(street[1], state)
    refine ⟨_, rfl, a, _, 1, .ref h, rfl, rfl, SqT.of (sH _ _ S.at_), atI_nat (j := 1) rfl, _, rfl, h, p, _, _, rfl, .inr ⟨SqT.of (sH _ _ S.hs), SqT.of (sH _ _ hp), RZ.for_zipT (K := K) (a := h) (b := p) (xs := homes.map V.int) (ys := st.map V.int) (by rw [List.length_map, List.length_map, hl])
      (fun i σ H' => ∃ (fp : Addr) (bs : List (Addr × List Int)) (v4 v5 : Option V), σ = [some (.ref a), some (.ref p), some (.ref tk), some (.ref fp), v4, v5, none, none] ∧ Same H H' ∧ H' tk = some (.lst (taken.map V.int)) ∧ H fp = none ∧ RowsAt H' fp bs ∧ bs.map (·.2) = KM.rowsTo taken (KM.okB homes st) i)
      ⟨fp, [(e0, [])], _, _, rfl, sH, s4 _ _ (s3 _ _ (s2 _ _ etk)), nfp0, r0, rfl⟩ (fun i σ H' hx => ?_) ?_ ?_⟩⟩
    · obtain ⟨_, _, _, _, _, sx, _⟩ := hx
      exact ⟨SqT.of (sx _ _ S.hs), SqT.of (sx _ _ hp)⟩
    · rintro i x y T σ H3 hx hy ⟨fp, bs, v4, v5, rfl, sx, etk, nfp, R, eb⟩ nT
      obtain ⟨hm, hhm, rfl⟩ := get_map hx
      obtain ⟨far, hfar, rfl⟩ := get_map hy
      have hi : i < homes.length := (List.getElem?_eq_some_iff.mp hhm).1
      have sT : Same H3 (upd H3 T (.tup [.int hm, .int far])) := same_upd nT
      refine ⟨T, _, rfl, SqT.of upd_same, rfl, _, _, rfl, _, _, rfl, rfl, ?_⟩
      generalize upd H3 T (.tup [.int hm, .int far]) = H4 at sT
      have R4 := R.same sT
      have sx4 := sx.trans sT
      have etk4 := sT _ _ etk
      have okc : ∀ z : Int, KM.okB homes st (i : Int) z = decide (hm ≤ z ∧ z ≤ far) := fun z => by
        unfold KM.okB
        rw [KM.gt_nat, KM.gt_nat, List.getD_eq_getElem?_getD, List.getD_eq_getElem?_getD, hhm, hfar]
        rfl
      have blen : bs.length ≤ 3125 := by
        have := rowsTo_card (KM.okB homes st) t5 i
        rw [← eb, List.length_map] at this
        exact Nat.le_trans this (pow5 (by omega))
      -- found = [(*row, place) for row in found for place in taken if ..]
      refine ⟨_, rfl, fp, rfl, ⟨_, SqL.of R4.l⟩, fun D nD => walk_list (K := K) (a := fp) (xs := bs.map fun b => V.ref b.1) (fun r H' => ∃ cs : List (Addr × List Int), SameBut D (upd H4 D (.lst [])) H' ∧ RowsAt H' D cs ∧ cs.map (·.2) = ((bs.map (·.2)).take r).flatMap fun x => extR (KM.okB homes st i) x taken)
        ⟨[], sb_refl, ⟨upd_same, fun b hb => by cases hb⟩, rfl⟩ (fun r H' _ hx => ?_) ?_ ?_⟩
      · obtain ⟨cs, sb, _⟩ := hx
        exact SqL.of (sb _ _ (same_upd nD _ _ R4.l) (ne_of_none R4.l nD))
      · rintro r x H5 hr5 ⟨cs, sb, C, ec⟩
        obtain ⟨b, hb, rfl⟩ := rows_get hr5
        have hb2 : (bs.map (·.2))[r]? = some b.2 := by rw [List.getElem?_map, hb] <;> rfl
        have hrl : r < bs.length := (List.getElem?_eq_some_iff.mp hb).1
        refine ⟨rfl, ?_⟩
        have sb4 : ∀ z o, H4 z = some o → H5 z = some o := fun z o e => sb z o (same_upd nD z o e) (ne_of_none e nD)
        refine ⟨_, rfl, tk, rfl, ⟨_, SqL.of (sb4 _ _ etk4)⟩, walk_list (K := K) (a := tk) (xs := taken.map V.int) (fun j H' => ∃ cs : List (Addr × List Int), SameBut D (upd H4 D (.lst [])) H' ∧ RowsAt H' D cs ∧ cs.map (·.2) = (((bs.map (·.2)).take r).flatMap fun x => extR (KM.okB homes st i) x taken) ++ extR (KM.okB homes st i) b.2 (taken.take j))
          ⟨cs, sb, C, by rw [ec]; exact (List.append_nil _).symm⟩ (fun j H' _ hx => ?_) ?_ ?_⟩
        · obtain ⟨_, sb', _⟩ := hx
          exact SqL.of (sb' _ _ (same_upd nD _ _ etk4) (ne_of_none etk4 nD))
        · rintro j y H6 hj ⟨cs, sb6, C, ec⟩
          obtain ⟨z, hz, rfl⟩ := get_map hj
          have eb6 : H6 b.1 = some (.tup (b.2.map V.int)) := sb6 _ _ (same_upd nD _ _ (R4.t b (List.mem_of_getElem? hb))) (ne_of_none (R4.t b (List.mem_of_getElem? hb)) nD)
          have es := extR_snoc (KM.okB homes st i) b.2 hz
          rw [okc] at es
          have clen : cs.length ≤ 100000 := by
            have h1 := congrArg List.length ec
            rw [List.length_map, List.length_append] at h1
            have h2 := flat_len (fun x => extR (KM.okB homes st i) x taken) 5 ((bs.map (·.2)).take r) fun x _ => Nat.le_trans (extR_len _ _ _) t5
            have h3 := extR_len (KM.okB homes st i) b.2 (taken.take j)
            rw [List.length_take, List.length_map] at h2
            rw [List.length_take] at h3
            omega
          refine ⟨rfl, ?_⟩
          have no : ¬ (decide (hm ≤ z ∧ z ≤ far) && !(b.2.contains z)) = true → ∃ cs : List (Addr × List Int), SameBut D (upd H4 D (.lst [])) H6 ∧ RowsAt H6 D cs ∧ cs.map (·.2) = (((bs.map (·.2)).take r).flatMap fun x => extR (KM.okB homes st i) x taken) ++ extR (KM.okB homes st i) b.2 (taken.take (j + 1)) := fun e => by
            rw [if_neg e, List.append_nil] at es
            exact ⟨cs, sb6, C, by rw [es]; exact ec⟩
          refine ⟨_, rfl, _, rfl, hm, z, rfl, rfl, _, rfl, ite2 (fun e1 => ?_) (fun e1 => ?_)⟩
          · refine ⟨_, rfl, z, far, rfl, rfl, _, rfl, ite2 (fun e2 => ?_) (fun e2 => ?_)⟩
            · refine ⟨_, rfl, _, rfl, b.1, _, rfl, .inr (SqT.of eb6), rfl, flat_ints _, !(b.2.contains z), congrArg (fun k => V.bl (!k)) (inV_int z b.2), ite2 (fun e3 => ?_) (fun e3 => ?_)⟩
              · have e4 : (decide (hm ≤ z ∧ z ≤ far) && !(b.2.contains z)) = true := by
                  rw [e3, Bool.and_true]
                  exact decide_eq_true ⟨of_decide_eq_true e1, of_decide_eq_true e2⟩
                rw [if_pos e4] at es
                refine ⟨_, rfl, b.1, _, rfl, .inl (SqT.of eb6), _, rfl, le_big ?_, fun t nt => ?_⟩
                · rw [List.length_append, List.length_map]
                  have := KM.rowsTo_len (k := i) (row := b.2) (taken := taken) (ok := KM.okB homes st) (by rw [← eb]; exact List.mem_of_getElem? hb2)
                  simp only [List.length_cons, List.length_nil]
                  omega
                · have st6 : Same H6 (upd H6 t (.tup (b.2.map V.int ++ [V.int z]))) := same_upd nt
                  have C' := C.same st6
                  refine ⟨_, C'.l, lt_big (by rw [List.length_map]; exact clen), cs ++ [(t, b.2 ++ [z])], sb_upd (sb_same sb6 st6), C'.push (by rw [upd_same, List.map_append] <;> rfl), ?_⟩
                  rw [List.map_append, ec, es, List.append_assoc] <;> rfl
              · exact no fun e => e3 (by rw [Bool.and_eq_true] at e; exact e.2)
            · exact iteF (no fun e => e2 (by rw [Bool.and_eq_true, decide_eq_true_eq] at e; exact decide_eq_true e.1.2))
          · exact ⟨false, rfl, iteF (iteF (no fun e => e1 (by rw [Bool.and_eq_true, decide_eq_true_eq] at e; exact decide_eq_true e.1.1)))⟩
        · rintro H6 ⟨cs, sb6, C, ec⟩
          rw [List.length_map, List.take_length] at ec
          exact ⟨cs, sb6, C, by rw [ec, flat_take _ hb2]⟩
      · rintro H5 ⟨cs, sb, C, ec⟩
        have s5 : Same H4 H5 := same_new nD sb
        rw [List.length_map, List.take_of_length_le (by rw [List.length_map]; exact Nat.le_refl _), eb] at ec
        exact ⟨D, cs, _, _, rfl, sx4.trans s5, s5 _ _ etk4, sx4.free nD, C, ec⟩
    · rintro σ H3 ⟨fp, bs, v4, v5, rfl, sx, etk, nfp, R, eb⟩
      rw [List.length_map] at eb
      exact ⟨_, rfl, q taken fp bs H3 it sx nfp R eb⟩
/-! ### the places, by themselves -/
theorem nf_some (f : List Int) : ∀ (n : Nat) (h : Int), (f.filter fun x => decide (h ≤ x)).length ≤ n → ∃ p, KM.Nf f h p
  | n, h, hn => by
    by_cases hm : h ∈ f
    · have hf := fall hm
      cases n with
      | zero => omega
      | succ n =>
        obtain ⟨p, p1, p2, p3⟩ := nf_some f n (h + 1) (by omega)
        refine ⟨p, by omega, p2, fun q h1 h2 => ?_⟩
        by_cases e : q = h
        · rw [e]; exact hm
        · exact p3 q (by omega) h2
    · exact ⟨h, Int.le_refl _, hm, fun q h1 h2 => by omega⟩
theorem parks_some (hs : List Int) : ∀ n : Nat, n ≤ hs.length → ∃ f, KM.Parks (hs.take n) f
  | 0, _ => ⟨[], .nil⟩
  | n + 1, h => by
    obtain ⟨f, k⟩ := parks_some hs n (by omega)
    have hl : n < hs.length := h
    obtain ⟨p, np⟩ := nf_some f _ hs[n] (Nat.le_refl _)
    refine ⟨f ++ [p], ?_⟩
    rw [take_snoc (List.getElem?_eq_getElem hl)]
    exact k.snoc np
theorem taken_some (homes : List Int) : ∃ taken, KM.IsTaken homes taken := by
  obtain ⟨f, k⟩ := parks_some homes homes.length (Nat.le_refl _)
  rw [List.take_length] at k
  exact ⟨KM.srt f, homes, f, List.Perm.refl _, k, KM.srt_perm f, KM.srt_le f⟩
/-! ### _law_rests -/
theorem scLRests : FnScope ["_law_street_here", "_law_found", "_law_home", "_law_later", "_law_part", "_law_place"] ["_law_street_here"] (defScope sLRests) := ⟨rfl, rfl, rfl, by decide +kernel, rfl, by decide +kernel, by decide +kernel⟩
def spLRests : Sp := fun vs H Q _ => ∃ (a h : Addr) (size : Int) (homes : List Int), vs = [.ref a] ∧ Street H a h size homes ∧ homes.length ≤ 5 ∧ 1 ≤ homes.length ∧ (∀ x ∈ homes, x ≤ 9) ∧
  ∀ (taken : List Int) (D : Addr) (bs : List (Addr × List Int)) (H' : Hp), KM.IsTaken homes taken → Same H H' → H D = none → RowsAt H' D bs → bs.map (·.2) = KM.rowsTo taken (KM.okA homes) homes.length → Q (.ref D) H'
theorem ok_lrests {f fF : Addr} {fd fdF : FuncData} (F : Fun K "_law_rests" "_law_rests" sLRests f fd) (FF : Fun K "_law_filled" "_law_filled" sFilled fF fdF) (bF : Binds K fdF ["_law_homes"] []) (gF : mg "_law_filled" = some (.ref fF)) (T : Txt mg) :
    FnOk P w K mg base CX0 2 f fd ["_law_street_here"] spLRests := by
  have GF : FnOk P w K mg base CX0 1 fF fdF ["_law_homes"] spFilled := ok_filled FF T
  refine F.ok scLRests (fun vs H Q E h => ?_) (fun cdv A outer s H vs Q E hr h => ?_)
  · obtain ⟨a, h, size, homes, rfl, _⟩ := h
    rfl
  · obtain ⟨a, h, size, homes, rfl, S, hn, hn1, h9, q⟩ := h
    refine ⟨_, (pss_cons (ps_set (i := 1) scLRests.nd rfl (Or.inl rfl) (pe_lst (pa_cons (pe_tup pa_nil) pa_nil)))
        (pss_cons (ps_for PassesOwn.never rfl (pi_tup (pe_ix ix_tup (pv 0) pe_int (fun _ _ => rfl))) (pg_name (i := 2) scLRests.nd rfl (Or.inr rfl)) (pss_cons (ps_set (i := 3) scLRests.nd rfl (Or.inl rfl) (pe_lst pa_nil))
        (pss_cons (ps_for PassesOwn.never rfl (pi_list (pv 1)) (pg_name (i := 4) scLRests.nd rfl (Or.inr rfl)) (pss_one (ps_set (i := 3) scLRests.nd rfl (Or.inl rfl) (pe_op op_cat (pv 3) (pe_lcE (own := [("_law_place", 5)]) (g := (gName 5)) rfl scLRests.nd (pi_list (pe_call GF hr (by rfl) gF FF.kp bF .nil pass0 (pa_cons (pe_ix ix_tup (pv 0) pe_int (fun _ _ => rfl)) pa_nil))) (blkOk_by (N := ["_law_street_here", "_law_found", "_law_home", "_law_later", "_law_part", "_law_place"]) (sc := defScope sLRests) (by decide +kernel)) (fun _ _ _ _ _ => (pg_name (i := 5) scLRests.nd rfl (Or.inl rfl))) (fun _ _ _ _ _ => (pts_one (PW.pt (pw_and (pt_cmpR op_ge (pv 5) (pv 2) (nomark _)) (pw_and1 (pt_cmpR op_notIn_seq (pv 5) (pv 4) (by rfl))))))) (fun _ _ _ _ _ => (pe_op op_catA (pv 4) (pe_tup (pa_cons (pv 5) pa_nil)))))))))
        (pss_one (ps_set (i := 1) scLRests.nd rfl (Or.inl rfl) (pv 3))))))
        (pss_one (ps_ret (pe_callB (cr_sortedL hr.units) (by rfl) T.sorted bSorted (pa_cons (pv 1) pa_nil)))))), ?_⟩
    obtain ⟨taken, it⟩ := taken_some homes
    have t5 : taken.length ≤ 5 := by rw [it.length]; exact hn
    refine ⟨Nat.zero_le _, fun e0 ne0 => ⟨by show 1 ≤ sizeLine; decide, fun fp nfp => ?_⟩⟩
    have s2 : Same H (upd H e0 (.tup [])) := same_upd ne0
    have s3 : Same (upd H e0 (.tup [])) (upd (upd H e0 (.tup [])) fp (.lst [.ref e0])) := same_upd nfp
    generalize hH2 : upd (upd H e0 (.tup [])) fp (.lst [.ref e0]) = H2 at s3
    have r0 : RowsAt H2 fp [(e0, [])] := ⟨by rw [← hH2]; exact upd_same, fun b hb => by
      have e : b = (e0, []) := by simpa using hb
      subst e
      exact s3 _ _ upd_same⟩
    have sH : Same H H2 := s2.trans s3
    have nfp0 : H fp = none := s2.free nfp
    -- for home in street[1]
    refine ⟨_, rfl, a, _, 1, .ref h, rfl, rfl, SqT.of (sH _ _ S.at_), atI_nat (j := 1) rfl, h, rfl, ⟨_, SqT.of (sH _ _ S.hs)⟩, for_tup (K := K) (a := h) (xs := homes.map V.int)
      (fun i σ H' => ∃ (fp : Addr) (bs : List (Addr × List Int)) (v2 v3 v4 : Option V), σ = [some (.ref a), some (.ref fp), v2, v3, v4, none] ∧ Same H H' ∧ H fp = none ∧ RowsAt H' fp bs ∧ bs.map (·.2) = KM.rowsTo taken (KM.okA homes) i)
      ⟨fp, [(e0, [])], none, none, none, rfl, sH, nfp0, r0, rfl⟩ (fun i σ H' _ hx => ?_) ?_ ?_⟩
    · obtain ⟨_, _, _, _, _, _, sx, _⟩ := hx
      exact SqT.of (sx _ _ S.hs)
    · rintro i x σ H3 hx ⟨fp, bs, v2, v3, v4, rfl, sx, nfp, R, eb⟩
      obtain ⟨hm, hhm, rfl⟩ := get_map hx
      have hi : i < homes.length := (List.getElem?_eq_some_iff.mp hhm).1
      have okc : ∀ z : Int, KM.okA homes (i : Int) z = decide (hm ≤ z) := fun z => by
        unfold KM.okA
        rw [KM.gt_nat, List.getD_eq_getElem?_getD, hhm]
        rfl
      have blen : bs.length ≤ 3125 := by
        have := rowsTo_card (KM.okA homes) t5 i
        rw [← eb, List.length_map] at this
        exact Nat.le_trans this (pow5 (by omega))
      -- later = []
      refine ⟨Nat.zero_le _, fun lp nlp => ?_⟩
      have sl : Same H3 (upd H3 lp (.lst [])) := same_upd nlp
      have nlp0 : H lp = none := sx.free nlp
      generalize hH4 : upd H3 lp (.lst []) = H4 at sl
      have l0 : RowsAt H4 lp [] := ⟨by rw [← hH4]; exact upd_same, fun b hb => by cases hb⟩
      have R4 := R.same sl
      -- for part in found
      refine ⟨_, rfl, fp, rfl, ⟨_, SqL.of R4.l⟩, for_list (K := K) (a := fp) (xs := bs.map fun b => V.ref b.1)
        (fun r σ H' => ∃ (lp : Addr) (cs : List (Addr × List Int)) (v4 : Option V), σ = [some (.ref a), some (.ref fp), some (.int hm), some (.ref lp), v4, none] ∧ Same H H' ∧ H lp = none ∧ RowsAt H' fp bs ∧ RowsAt H' lp cs ∧
          cs.map (·.2) = ((bs.map (·.2)).take r).flatMap fun x => extR (KM.okA homes i) x taken)
        ⟨lp, [], v4, rfl, sx.trans sl, nlp0, R4, l0, rfl⟩ (fun r σ H' _ hx => ?_) ?_ ?_⟩
      · obtain ⟨_, _, _, _, _, _, R', _⟩ := hx
        exact SqL.of R'.l
      · rintro r x σ H5 hr5 ⟨lp, cs, v4, rfl, s5, nlp, R5, C5, ec⟩
        obtain ⟨b, hb, rfl⟩ := rows_get hr5
        have hb2 : (bs.map (·.2))[r]? = some b.2 := by rw [List.getElem?_map, hb] <;> rfl
        have hrl : r < bs.length := (List.getElem?_eq_some_iff.mp hb).1
        have ebt : H5 b.1 = some (.tup (b.2.map V.int)) := R5.t b (List.mem_of_getElem? hb)
        -- later + [..]: the list of the places anew
        refine ⟨_, rfl, _, rfl, a, _, 1, .ref h, rfl, rfl, SqT.of (s5 _ _ S.at_), atI_nat (j := 1) rfl, h, homes, rfl, s5 _ _ S.hs, hn, h9, fun taken' tk H6 it' s6 ntk etk => ?_⟩
        obtain rfl : taken = taken' := it.uniq it' (List.Perm.refl _)
        have ec' := ec
        have rlen := KM.rowsTo_len (k := i) (row := b.2) (taken := taken) (ok := KM.okA homes) (by rw [← eb]; exact List.mem_of_getElem? hb2)
        have clen : cs.length ≤ 50000 := by
          have h1 := congrArg List.length ec'
          rw [List.length_map] at h1
          have h2 := flat_len (fun x => extR (KM.okA homes i) x taken) 5 ((bs.map (·.2)).take r) fun x _ => Nat.le_trans (extR_len _ _ _) t5
          rw [List.length_take, List.length_map] at h2
          omega
        have eb6 := s6 _ _ ebt
        refine ⟨tk, rfl, ⟨_, SqL.of etk⟩, fun D nD => lc_list (K := K) (a := tk) (xs := taken.map V.int) (fun j H' => ∃ ds : List (Addr × List Int), SameBut D (upd H6 D (.lst [])) H' ∧ RowsAt H' D ds ∧ ds.map (·.2) = extR (KM.okA homes i) b.2 (taken.take j))
          ⟨[], sb_refl, ⟨upd_same, fun b hb => by cases hb⟩, rfl⟩ (fun j H' _ hx => ?_) ?_ ?_⟩
        · obtain ⟨_, sb', _⟩ := hx
          exact SqL.of (sb' _ _ (same_upd nD _ _ etk) (ne_of_none etk nD))
        · rintro j y H7 hj ⟨ds, sb7, C, ed⟩
          obtain ⟨z, hz, rfl⟩ := get_map hj
          have eb7 : H7 b.1 = some (.tup (b.2.map V.int)) := sb7 _ _ (same_upd nD _ _ eb6) (ne_of_none eb6 nD)
          have es := extR_snoc (KM.okA homes i) b.2 hz
          rw [okc] at es
          have dlen : ds.length ≤ 100000 := by
            have h1 := congrArg List.length ed
            rw [List.length_map] at h1
            have h3 := extR_len (KM.okA homes i) b.2 (taken.take j)
            rw [List.length_take] at h3
            omega
          refine ⟨rfl, ?_⟩
          have no : ¬ (decide (hm ≤ z) && !(b.2.contains z)) = true → ∃ ds : List (Addr × List Int), SameBut D (upd H6 D (.lst [])) H7 ∧ RowsAt H7 D ds ∧ ds.map (·.2) = extR (KM.okA homes i) b.2 (taken.take (j + 1)) := fun e => by
            rw [if_neg e, List.append_nil] at es
            exact ⟨ds, sb7, C, by rw [es]; exact ed⟩
          refine ⟨_, rfl, _, rfl, z, hm, rfl, rfl, _, rfl, ite2 (fun e1 => ?_) (fun e1 => ?_)⟩
          · refine ⟨_, rfl, _, rfl, b.1, _, rfl, .inr (SqT.of eb7), rfl, flat_ints _, !(b.2.contains z), congrArg (fun k => V.bl (!k)) (inV_int z b.2), ite2 (fun e3 => ?_) (fun e3 => ?_)⟩
            · have e4 : (decide (hm ≤ z) && !(b.2.contains z)) = true := by
                rw [e3, Bool.and_true]
                exact e1
              rw [if_pos e4] at es
              -- part + (place,)
              refine ⟨_, rfl, _, rfl, by show 1 ≤ sizeLine; decide, fun o no => ?_⟩
              have so : Same H7 (upd H7 o (.tup [V.int z])) := same_upd no
              have fin : ∀ (t : Addr) (H8 : Hp), Same H7 H8 → H8 t = some (.tup ((b.2 ++ [z]).map V.int)) → ∃ acc, H8 D = some (.lst acc) ∧ acc.length < sizeLine ∧ ∃ ds : List (Addr × List Int), SameBut D (upd H6 D (.lst [])) (upd H8 D (.lst (acc ++ [V.ref t]))) ∧ RowsAt (upd H8 D (.lst (acc ++ [V.ref t]))) D ds ∧ ds.map (·.2) = extR (KM.okA homes i) b.2 (taken.take (j + 1)) := fun t H8 s8 et => by
                have C' := C.same s8
                refine ⟨_, C'.l, lt_big (by rw [List.length_map]; exact dlen), ds ++ [(t, b.2 ++ [z])], sb_upd (sb_same sb7 s8), C'.push et, ?_⟩
                rw [List.map_append, ed, es] <;> rfl
              refine ⟨b.1, o, b.2.map V.int, [V.int z], rfl, rfl, SqT.of (so _ _ eb7), SqT.of upd_same, le_big (by rw [List.length_map]; show b.2.length + 1 ≤ 100000; omega), fun e => ?_, fun _ e => (by cases e), fun _ _ t nt => ?_⟩
              · have e0 : b.2 = [] := by simpa using e
                refine fin o _ so ?_
                rw [e0, upd_same] <;> rfl
              · refine fin t _ (so.trans (same_upd nt)) ?_
                rw [upd_same, List.map_append] <;> rfl
            · exact no fun e => e3 (by rw [Bool.and_eq_true] at e; exact e.2)
          · exact iteF (no fun e => e1 (by rw [Bool.and_eq_true] at e; exact e.1))
        · rintro H7 ⟨ds, sb7, C, ed⟩
          have s7 : Same H6 H7 := same_new nD sb7
          have C7 := C5.same (s6.trans s7)
          rw [List.length_map, List.take_length] at ed
          have dlen : ds.length ≤ 5 := by
            have h1 := congrArg List.length ed
            rw [List.length_map] at h1
            have h3 := extR_len (KM.okA homes i) b.2 taken
            omega
          refine ⟨lp, D, _, _, rfl, rfl, C7.l, C.l, le_big (by rw [List.length_map, List.length_map]; omega), fun n nn => ?_⟩
          have sn : Same H7 (upd H7 n (.lst ((cs.map fun b => V.ref b.1) ++ ds.map fun b => V.ref b.1))) := same_upd nn
          have s57 := (s5.trans (s6.trans s7))
          refine ⟨n, cs ++ ds, _, rfl, s57.trans sn, s57.free nn, (R5.same (s6.trans s7)).same sn, ⟨by rw [upd_same, List.map_append], fun x hx => ?_⟩, ?_⟩
          · rcases List.mem_append.mp hx with hx | hx
            · exact sn _ _ (C7.t x hx)
            · exact sn _ _ (C.t x hx)
          · rw [List.map_append, ec', ed, flat_take _ hb2]
      · rintro σ H5 ⟨lp, cs, v4, rfl, s5, nlp, R5, C5, ec⟩
        rw [List.length_map, List.take_of_length_le (by rw [List.length_map]; exact Nat.le_refl _), eb] at ec
        exact ⟨_, rfl, lp, cs, _, _, _, rfl, s5, nlp, C5, ec⟩
    · rintro σ H3 ⟨fp, bs, v2, v3, v4, rfl, sx, nfp, R, eb⟩
      rw [List.length_map] at eb
      · refine ⟨_, rfl, fp, bs, rfl, SqL.of R.l, fun b hb => ⟨SqT.of (R.t b hb), ?_⟩, ?_, fun L nL => ?_⟩
        · intro e
          have := KM.rowsTo_len (k := homes.length) (row := b.2) (taken := taken) (ok := KM.okA homes) (by rw [← eb]; exact List.mem_map_of_mem hb)
          rw [e] at this
          simp at this
          omega
        · rw [eb]
          exact KM.rowsTo_lt it.lt _
        · have sL : Same H3 (upd H3 L (.lst (bs.map fun b => V.ref b.1))) := same_upd nL
          exact q taken L bs _ it (sx.trans sL) (sx.free nL) ⟨upd_same, fun b hb => sL _ _ (R.t b hb)⟩ eb
end
end KW
namespace KW
open PySem PySem.Spec PyProof.Rows L2 KR
/-! ### the dict in the heap -/
def inl (K : List Int) : List Key := K.map Sum.inl
theorem inl_kV (K : List Int) : (inl K).map kV = K.map V.int := by
  unfold inl
  rw [List.map_map]
  rfl
theorem inl_inj : ∀ {K J : List Int}, inl K = inl J → K = J
  | [], [], _ => rfl
  | [], _ :: _, h => by cases h
  | _ :: _, [], h => by cases h
  | a :: K, b :: J, h => by
    have h := List.cons.inj h
    rw [Sum.inl.inj h.1, inl_inj h.2]
def EntOk (H : Hp) (p : List Key × V) (e : List Int × Int × Int) : Prop := p.1 = inl e.1 ∧ ∃ t, p.2 = .ref t ∧ H t = some (.tup [.int e.2.1, .int e.2.2])
abbrev RelD (H : Hp) : List (List Key × V) → KM.D → Prop := Paired (EntOk H)
theorem RelD.keep {H H' : Hp} {kvs : List (List Key × V)} {d : KM.D} (r : RelD H kvs d) (k : ∀ t xs, H t = some (.tup xs) → H' t = some (.tup xs)) : RelD H' kvs d :=
  Paired.mapP r fun p e ⟨h1, t, h2, h3⟩ => ⟨h1, t, h2, k _ _ h3⟩
theorem RelD.val {H : Hp} {kvs : List (List Key × V)} {d : KM.D} (r : RelD H kvs d) (K : List Int) :
    (KM.look d K = none → valV kvs (inl K) = none) ∧ (∀ y, KM.look d K = some y → ∃ t, valV kvs (inl K) = some (.ref t) ∧ H t = some (.tup [.int y.1, .int y.2])) := by
  induction r with
  | nil => exact ⟨fun _ => rfl, fun y h => by cases h⟩
  | @cons p e kvs d h t ih =>
    obtain ⟨h1, u, h2, h3⟩ := h
    rw [KM.look_cons]
    by_cases hk : e.1 = K
    · rw [if_pos hk]
      refine ⟨fun h => (by cases h), fun y hy => ?_⟩
      cases hy
      exact ⟨u, by rw [valV_pos (by rw [h1, hk]), h2], h3⟩
    · rw [if_neg hk]
      have hn : ¬ p.1 = inl K := fun z => hk (inl_inj (h1.symm.trans z))
      rw [valV_neg hn]
      exact ih
theorem paired_app {α β : Type} {G : α → β → Prop} : ∀ {l : List α} {m : List β} {l' : List α} {m' : List β}, Paired G l m → Paired G l' m' → Paired G (l ++ l') (m ++ m')
  | _, _, _, _, .nil, h => h
  | _, _, _, _, .cons a t, h => .cons a (paired_app t h)
theorem RelD.put {H : Hp} {kvs : List (List Key × V)} {d : KM.D} (r : RelD H kvs d) (K : List Int) {t : Addr} {b w : Int} (ht : H t = some (.tup [.int b, .int w])) : RelD H (putK kvs (inl K) (.ref t)) (KM.setD d K (b, w)) := by
  have e : (valV kvs (inl K)).isSome = (KM.look d K).isSome := by
    obtain ⟨v1, v2⟩ := r.val K
    cases q : KM.look d K with
    | none => rw [v1 q] <;> rfl
    | some y =>
      obtain ⟨u, e1, _⟩ := v2 y q
      rw [e1] <;> rfl
  unfold putK KM.setD
  rw [valV_any, e]
  by_cases h : (KM.look d K).isSome = true
  · rw [if_pos h, if_pos h]
    clear e h
    induction r with
    | nil => exact .nil
    | @cons p e kvs d h t' ih =>
      obtain ⟨h1, u, h2, h3⟩ := h
      refine .cons ?_ ih
      show EntOk H (if p.1 = inl K then (p.1, V.ref t) else p) (if e.1 = K then (e.1, (b, w)) else e)
      by_cases hk : e.1 = K
      · rw [if_pos hk, if_pos (by rw [h1, hk])]
        exact ⟨h1, t, rfl, ht⟩
      · have hn : ¬ p.1 = inl K := fun z => hk (inl_inj (h1.symm.trans z))
        rw [if_neg hk, if_neg hn]
        exact ⟨h1, u, h2, h3⟩
  · rw [if_neg h, if_neg h]
    exact paired_app r (.cons ⟨rfl, t, rfl, ht⟩ .nil)
theorem setD_len (d : KM.D) (K : List Int) (y : Int × Int) : (KM.setD d K y).length ≤ d.length + 1 := by
  unfold KM.setD
  split
  · rw [List.length_map]
    omega
  · rw [List.length_append]
    exact Nat.le_refl _
theorem upd1_len (d : KM.D) (K : List Int) (x y : Int) : (KM.upd1 d K x y).length ≤ d.length + 1 := by
  unfold KM.upd1
  split
  · exact setD_len _ _ _
  · split
    · exact setD_len _ _ _
    · omega
theorem upds_len : ∀ (cs : List (List Int × Int × Int)) (d : KM.D), (KM.upds d cs).length ≤ d.length + cs.length
  | [], d => Nat.le_refl _
  | c :: cs, d => by
    have h1 := upds_len cs (KM.upd1 d c.1 c.2.1 c.2.2)
    have h2 := upd1_len d c.1 c.2.1 c.2.2
    show (KM.upds (KM.upd1 d c.1 c.2.1 c.2.2) cs).length ≤ _
    rw [List.length_cons]
    omega
theorem con1_len (ok : Int → Int → Bool) (bon : Int → Int → Int) (p : Int) (e : List Int × Int × Int) (c : Int) : (KM.con1 ok bon p e c).length ≤ 1 := by
  unfold KM.con1
  split <;> simp
theorem cars_len (n : Nat) : (KM.cars 0 n).length = n := by
  unfold KM.cars
  rw [List.length_map, List.length_range']
theorem cars_get {n j : Nat} (h : j < n) : (KM.cars 0 n)[j]? = some (j : Int) := by
  unfold KM.cars
  rw [List.getElem?_map, List.getElem?_range' h]
  simp
theorem conE_len (ok : Int → Int → Bool) (bon : Int → Int → Int) (p : Int) {n : Nat} (hn : n ≤ 5) (e : List Int × Int × Int) : (KM.conE ok bon p n e).length ≤ 5 := by
  unfold KM.conE
  have := flat_len (KM.con1 ok bon p e) 1 (KM.cars 0 n) fun c _ => con1_len ok bon p e c
  rw [cars_len] at this
  omega
theorem stepD_len (ok : Int → Int → Bool) (bon : Int → Int → Int) {n : Nat} (hn : n ≤ 5) (d : KM.D) (p : Int) : (KM.stepD ok bon n d p).length ≤ 5 * d.length := by
  unfold KM.stepD
  have h1 := upds_len (d.flatMap (KM.conE ok bon p n)) []
  have h2 := flat_len (KM.conE ok bon p n) 5 d fun e _ => conE_len ok bon p hn e
  rw [List.length_nil] at h1
  omega
theorem dp_len (ok : Int → Int → Bool) (bon : Int → Int → Int) {n : Nat} (hn : n ≤ 5) (ps : List Int) : ∀ k : Nat, k ≤ ps.length → (KM.dp ok bon n (ps.take k)).length ≤ 5 ^ k
  | 0, _ => Nat.le_refl _
  | k + 1, h => by
    have ih := dp_len ok bon hn ps k (by omega)
    have hk : k < ps.length := h
    rw [take_snoc (List.getElem?_eq_getElem hk), KM.dp_snoc, Nat.pow_succ]
    have := stepD_len ok bon hn (KM.dp ok bon n (ps.take k)) ps[k]
    omega
theorem key_len {n : Nat} {d : KM.D} (g : KM.Good n d) (hn : n ≤ 5) : ∀ e ∈ d, e.1.length ≤ 5 := fun e he => by
  obtain ⟨g1, g2, _⟩ := g.2 e he
  have := KM.sub_filter (KM.cars_lt n 0) g1 g2
  have h := List.length_filter_le (fun c => e.1.contains c) (KM.cars 0 n)
  rw [this, cars_len] at h
  omega
section
variable {P : Program} {w : World} {K : PySem.W.Frag} {mg : Str → Option Value} {base : Heap}
/-! ### unlike -/
theorem scUnlike : FnScope ["one", "other", "car"] ["one", "other"] (defScope sUnlike) := ⟨rfl, rfl, rfl, by decide +kernel, rfl, by decide +kernel, by decide +kernel⟩
def spUnlike : Sp := fun vs H Q _ => ∃ (x y : Addr) (a b : List Int), vs = [.ref x, .ref y] ∧ H x = some (.tup (a.map V.int)) ∧ H y = some (.tup (b.map V.int)) ∧ b.length = a.length ∧ a.length ≤ 5 ∧
  ∀ (D : Addr) (xs : List V) (H' : Hp), Same H H' → H D = none → H' D = some (.lst xs) → (xs.length : Int) = KM.unl a b → Q (.ref D) H'
theorem ok_unlike {f : Addr} {fd : FuncData} (F : Fun K "unlike" "unlike" sUnlike f fd) (T : Txt mg) : FnOk P w K mg base CX0 1 f fd ["one", "other"] spUnlike := by
  refine F.ok scUnlike (fun vs H Q E h => ?_) (fun cdv A outer s H vs Q E hr h => ?_)
  · obtain ⟨x, y, a, b, rfl, _⟩ := h
    rfl
  · obtain ⟨x, y, a, b, rfl, hx, hy, hl, hn, q⟩ := h
    refine ⟨_, (pss_one (ps_ret (pe_lcE (own := [("car", 2)]) (g := (gName 2)) rfl scUnlike.nd (pi_range1 (by rfl) T.range (pa_cons (pe_callB call_len_seq (by rfl) T.len bLen (pa_cons (pv 0) pa_nil)) pa_nil)) (blkOk_by (N := ["one", "other", "car"]) (sc := defScope sUnlike) (by decide +kernel)) (fun _ _ _ _ _ => (pg_name (i := 2) scUnlike.nd rfl (Or.inl rfl))) (fun _ _ _ _ _ => (pts_one (pt_cmpR op_ne (pe_ix ix_tup (pv 0) (pv 2) (fun _ _ => rfl)) (pe_ix ix_tup (pv 1) (pv 2) (fun _ _ => rfl)) (nomark _)))) (fun _ _ _ _ _ => (pv 2))))), ?_⟩
    refine ⟨_, rfl, x, _, rfl, .inr (SqT.of hx), _, rfl, by rw [List.length_map]; omega, by rw [List.length_map]; omega, fun D nD => lc_range (lo := 0) (n := _) (fun i H' => SameBut D (upd H D (.lst [])) H' ∧ H' D = some (.lst (((List.range i).filter fun c => decide (b.getD c 0 ≠ a.getD c 0)).map fun c : Nat => V.int (0 + (c : Int)))))
      ⟨sb_refl, upd_same⟩ ?_ ?_⟩
    · rintro i H1 hi ⟨sb, eD⟩
      rw [List.length_map, Int.toNat_natCast] at hi
      have hx1 : H1 x = _ := sb _ _ (same_upd nD _ _ hx) (ne_of_none hx nD)
      have hy1 : H1 y = _ := sb _ _ (same_upd nD _ _ hy) (ne_of_none hy nD)
      have hib : i < b.length := by omega
      refine ⟨rfl, ?_⟩
      refine ⟨_, rfl, _, rfl, x, _, _, .int a[i], rfl, rfl, SqT.of hx1, ?_, _, rfl, _, rfl, y, _, _, .int b[i], rfl, rfl, SqT.of hy1, ?_, rfl, _, rfl, ite2 (fun e => ?_) (fun e => ?_)⟩
      · rw [Int.zero_add]
        exact atI_nat (map_get (List.getElem?_eq_getElem hi))
      · rw [Int.zero_add]
        exact atI_nat (map_get (List.getElem?_eq_getElem hib))
      · have e1 : a[i] ≠ b[i] := fun z => by
          rw [z] at e
          simp at e
        refine ⟨_, rfl, _, eD, lt_line ?_, sb_upd sb, ?_⟩
        · rw [List.length_map]
          have := List.length_filter_le (fun c => decide (b.getD c 0 ≠ a.getD c 0)) (List.range i)
          rw [List.length_range] at this
          omega
        · rw [upd_same, List.range_succ, List.filter_append, List.filter_cons_of_pos (by rw [decide_eq_true_eq, KM.getD_at hi, KM.getD_at hib]; exact fun z => e1 z.symm), List.filter_nil, List.map_append]
          rfl
      · have e1 : a[i] = b[i] := by
          by_cases z : a[i] = b[i]
          · exact z
          · exfalso
            refine e ?_
            rw [decide_eq_false fun q => z (V.int.inj q)]
            rfl
        refine ⟨sb, ?_⟩
        rw [List.range_succ, List.filter_append, List.filter_cons_of_neg (by rw [decide_eq_true_eq, KM.getD_at hi, KM.getD_at hib]; exact fun z => z e1.symm), List.filter_nil, List.append_nil]
        exact eD
    · rintro H1 ⟨sb, eD⟩
      rw [List.length_map, Int.toNat_natCast] at eD
      refine q D _ H1 (same_new nD sb) nD eD ?_
      rw [List.length_map]
      rfl
/-! ### stays_in -/
theorem scStays : FnScope ["street", "state", "found", "place", "later", "done", "stay", "many", "car", "home", "key", "here", "best", "ways"] ["street", "state"] (defScope sStays) := ⟨rfl, rfl, rfl, by decide +kernel, rfl, by decide +kernel, by decide +kernel⟩
def spStays : Sp := fun vs H Q _ => ∃ (a h p : Addr) (size : Int) (homes st : List Int), vs = [.ref a, .ref p] ∧ Street H a h size homes ∧ H p = some (.tup (st.map V.int)) ∧ homes.length ≤ 5 ∧ KM.OkSt homes st ∧
  ∀ (taken : List Int) (t : Addr) (b w : Int) (H' : Hp), KM.IsTaken homes taken → Same H H' → H' t = some (.tup [.int b, .int w]) → KM.Agg ((KM.rowsTo taken (KM.okB homes st) homes.length).map (KM.bonus (KM.bonS st) 0)) = some (b, w) → Q (.ref t) H'
theorem tup_keep {H H' : Hp} {d : Addr} {kvs : List (List Key × V)} (s : SameBut d H H') (hd : H d = some (.dT kvs)) : ∀ t xs, H t = some (.tup xs) → H' t = some (.tup xs) := fun t xs e => s t _ e (ne_of e hd (by intro z; cases z))
theorem ok_stays {f fT : Addr} {fd fdT : FuncData} (F : Fun K "stays_in" "stays_in" sStays f fd) (FT : Fun K "taken_in" "taken_in" sTaken fT fdT) (bT : Binds K fdT ["homes"] []) (gT : mg "taken_in" = some (.ref fT)) (T : Txt mg) :
    FnOk P w K mg base CX0 2 f fd ["street", "state"] spStays := by
  have GT : FnOk P w K mg base CX0 1 fT fdT ["homes"] spTaken := ok_taken FT T
  refine F.ok scStays (fun vs H Q E h => ?_) (fun cdv A outer s H vs Q E hr h => ?_)
  · obtain ⟨a, h, p, size, homes, st, rfl, _⟩ := h
    rfl
  · obtain ⟨a, h, p, size, homes, st, rfl, S, hp, hn, O, q⟩ := h
    have hu := hu_of hr
    refine ⟨_, (pss_cons (ps_set (i := 2) scStays.nd rfl (Or.inl rfl) (pe_disp1 hu (pe_tup pa_nil) (pe_tup (pa_cons pe_int (pa_cons pe_int pa_nil)))))
        (pss_cons (ps_for PassesOwn.never rfl (pi_list (pe_call GT hr (by rfl) gT FT.kp bT .nil pass0 (pa_cons (pe_ix ix_tup (pv 0) pe_int (fun _ _ => rfl)) pa_nil))) (pg_name (i := 3) scStays.nd rfl (Or.inl rfl)) (pss_cons (ps_set (i := 4) scStays.nd rfl (Or.inl rfl) pe_dnewT)
        (pss_cons (ps_lock (ps_for PassesOwn.never rfl (pi_itemsT (pv 2)) (pg_tup rfl (pgs_cons (pg_name (i := 5) scStays.nd rfl (Or.inl rfl)) (pgs_cons (pg_tup rfl (pgs_cons (pg_name (i := 6) scStays.nd rfl (Or.inl rfl)) (pgs_cons (pg_name (i := 7) scStays.nd rfl (Or.inl rfl)) pgs_nil))) pgs_nil))) (pss_one (ps_for PassesOwn.never rfl (pi_enumT (by rfl) T.enumerate (pa_cons (pe_ix ix_tup (pv 0) pe_int (fun _ _ => rfl)) pa_nil)) (pg_tup rfl (pgs_cons (pg_name (i := 8) scStays.nd rfl (Or.inl rfl)) (pgs_cons (pg_name (i := 9) scStays.nd rfl (Or.inl rfl)) pgs_nil))) (pss_one (ps_if (PW.pt (pw_and (pt_cmpR op_notIn_seq (pv 8) (pv 5) (by rfl)) (pw_and1 (pt_chain op_le op_le (pv 9) (pv 3) (pe_ix ix_tup (pv 1) (pv 8) (fun _ _ => rfl)))))) (pss_cons (ps_set (i := 10) scStays.nd rfl (Or.inl rfl) (pe_callTy call_tuple_of (by rfl) T.tuple bTuple (pa_cons (pe_callB cr_sorted (by rfl) T.sorted bSorted (pa_cons (pe_lst (StX.pa_star (pv 5) (pa_cons (pv 8) pa_nil))) pa_nil)) pa_nil)))
        (pss_cons (ps_set (i := 11) scStays.nd rfl (Or.inl rfl) (pe_op op_add (pv 6) (pe_callTy call_int1 (by rfl) T.int bInt (pa_cons (pe_cmpR op_eq (pv 3) (pe_ix ix_tup (pv 1) (pv 8) (fun _ _ => rfl)) (nomark _)) pa_nil))))
        (pss_cons (ps_asg (pe_dget2 hu (pv 4) (pv 10) (pe_tup (pa_cons (pe_un un_neg pe_int) (pa_cons pe_int pa_nil))) (by exact ⟨rfl, rfl, rfl, rfl⟩)) (pg_tup rfl (pgs_cons (pg_name (i := 12) scStays.nd rfl (Or.inl rfl)) (pgs_cons (pg_name (i := 13) scStays.nd rfl (Or.inl rfl)) pgs_nil))))
        (pss_one (ps_if (pt_cmpR op_gt (pv 11) (pv 12) (nomark _)) (pss_one (ps_dput hu (pv 4) (pv 10) (pe_tup (pa_cons (pv 11) (pa_cons (pv 7) pa_nil))) rfl)) (pss_one (ps_if (pt_cmpR op_eq (pv 11) (pv 12) (nomark _)) (pss_one (ps_dput hu (pv 4) (pv 10) (pe_tup (pa_cons (pv 12) (pa_cons (pe_op op_add (pv 13) (pv 7)) pa_nil))) rfl)) pss_nil))))))) pss_nil))))))
        (pss_one (ps_set (i := 2) scStays.nd rfl (Or.inl rfl) (pv 4))))))
        (pss_one (ps_ret (pe_dget hu (pv 2) (pe_tupRg rfl (by rfl) T.tuple (prg_1 (by rfl) T.range (pe_callB call_len_seq (by rfl) T.len bLen (pa_cons (pv 1) pa_nil)))) (fun _ _ => rfl)))))), ?_⟩
    have hl := O.len
    -- found = {(): (0, 1)}
    intro fd nfd
    have sf : Same H (upd H fd (.dT [])) := same_upd nfd
    refine ⟨Nat.zero_le _, fun e0 ne0 => ⟨by show 2 ≤ sizeLine; decide, fun t0 nt0 => ?_⟩⟩
    have s0 : Same (upd H fd (.dT [])) (upd (upd H fd (.dT [])) e0 (.tup [])) := same_upd ne0
    have s1 : Same (upd (upd H fd (.dT [])) e0 (.tup [])) (upd (upd (upd H fd (.dT [])) e0 (.tup [])) t0 (.tup [.int 0, .int 1])) := same_upd nt0
    generalize hH1 : upd (upd (upd H fd (.dT [])) e0 (.tup [])) t0 (.tup [.int 0, .int 1]) = H1 at s1
    have et0 : H1 t0 = some (.tup [.int 0, .int 1]) := by rw [← hH1]; exact upd_same
    have efd : H1 fd = some (.dT []) := s1 _ _ (s0 _ _ upd_same)
    refine ⟨e0, [], rfl, s1 _ _ upd_same, efd, ?_⟩
    have sH1 : Same H H1 := (sf.trans s0).trans s1
    have sH2 : Same H (upd H1 fd (.dT [([], .ref t0)])) := fun b o e => by
      rw [upd_ne (ne_of_none e nfd)]
      exact sH1 _ _ e
    have et2 : (upd H1 fd (.dT [([], V.ref t0)])) t0 = some (.tup [.int 0, .int 1]) := by
      rw [upd_ne (ne_of et0 efd (by intro z; cases z))]
      exact et0
    have r0 : RelD (upd H1 fd (.dT [([], V.ref t0)])) [([], V.ref t0)] KM.found0 := .cons ⟨rfl, t0, rfl, et2⟩ .nil
    have efd2 : (upd H1 fd (.dT [([], V.ref t0)])) fd = some (.dT [([], V.ref t0)]) := upd_same
    generalize upd H1 fd (.dT [([], V.ref t0)]) = H2 at sH2 r0 efd2
    -- for place in taken_in(street[1])
    refine ⟨_, rfl, a, _, 1, .ref h, rfl, rfl, SqT.of (sH2 _ _ S.at_), atI_nat (j := 1) rfl, h, homes, rfl, sH2 _ _ S.hs, hn, fun taken tk H3 it s3 ntk etk => ?_⟩
    have t5 : taken.length = homes.length := it.length
    refine ⟨tk, rfl, ⟨_, SqL.of etk⟩, for_list (K := K) (a := tk) (xs := taken.map V.int)
      (fun i σ H' => ∃ (fd : Addr) (kvs : List (List Key × V)) (v3 v4 v5 v6 v7 v8 v9 v10 v11 v12 v13 : Option V), σ = [some (.ref a), some (.ref p), some (.ref fd), v3, v4, v5, v6, v7, v8, v9, v10, v11, v12, v13] ∧
        Same H H' ∧ H' tk = some (.lst (taken.map V.int)) ∧ H fd = none ∧ H' fd = some (.dT kvs) ∧ RelD H' kvs (KM.dp (KM.okB homes st) (KM.bonS st) homes.length (taken.take i)))
      ⟨fd, _, none, none, none, none, none, none, none, none, none, none, none, rfl, sH2.trans s3, etk, nfd, s3 _ _ efd2, r0.keep fun t xs e => s3 _ _ e⟩ (fun i σ H' _ hx => ?_) ?_ ?_⟩
    · obtain ⟨_, _, _, _, _, _, _, _, _, _, _, _, _, _, _, e, _⟩ := hx
      exact SqL.of e
    · rintro i x σ H4 hx ⟨fd, kvs, v3, v4, v5, v6, v7, v8, v9, v10, v11, v12, v13, rfl, s4, etk, nfd, efd, R⟩
      obtain ⟨pl, hpl, rfl⟩ := get_map hx
      have hi : i < taken.length := (List.getElem?_eq_some_iff.mp hpl).1
      have dlen := dp_len (KM.okB homes st) (KM.bonS st) hn taken i (by omega)
      have d3125 := Nat.le_trans dlen (pow5 (by omega))
      have elen_of := key_len (KM.dp_good (KM.okB homes st) (KM.bonS st) (n := homes.length) (KM.bonS_nonneg st) (taken.take i)) hn
      rw [take_snoc hpl, KM.dp_snoc]
      generalize KM.dp (KM.okB homes st) (KM.bonS st) homes.length (taken.take i) = d at R d3125 elen_of
      -- later = {}
      intro ld nld
      have sl : Same H4 (upd H4 ld (.dT [])) := same_upd nld
      have eld : (upd H4 ld (.dT [])) ld = some (.dT []) := upd_same
      have nld0 : H ld = none := s4.free nld
      generalize upd H4 ld (.dT []) = H5 at sl eld
      have nef : fd ≠ ld := ne_of_none efd nld
      -- for done, (stay, many) in found.items(), found locked
      refine ⟨fd, _, sl _ _ efd, True.intro, fun od => ?_⟩
      have sk : ∀ b o, H4 b = some o → b ≠ fd → (upd H5 fd (.frz od (.dT kvs))) b = some o := fun b o e hb => by
        rw [upd_ne hb]
        exact sl _ _ e
      have ek : (upd H5 fd (.frz od (.dT kvs))) fd = some (.frz od (.dT kvs)) := upd_same
      have el6 : (upd H5 fd (.frz od (.dT kvs))) ld = some (.dT []) := by
        rw [upd_ne nef.symm]
        exact eld
      generalize hH6 : upd H5 fd (.frz od (.dT kvs)) = H6 at sk ek el6
      have R6 : RelD H6 kvs d := R.keep fun t xs e => sk t _ e (ne_of e efd (by intro z; cases z))
      have sH6 : ∀ b o, H b = some o → H6 b = some o := fun b o e => sk b o (s4 _ _ e) (ne_of_none e nfd)
      refine ⟨_, rfl, fd, od, kvs, rfl, ek, for_itemsT (d := fd) (o := od) (kvs := kvs)
        (fun r σ H' => ∃ (ls : List (List Key × V)) (v5 v6 v7 v8 v9 v10 v11 v12 v13 : Option V), σ = [some (.ref a), some (.ref p), some (.ref fd), some (.int pl), some (.ref ld), v5, v6, v7, v8, v9, v10, v11, v12, v13] ∧
          SameBut ld H6 H' ∧ H' ld = some (.dT ls) ∧ RelD H' ls (KM.upds [] ((d.take r).flatMap (KM.conE (KM.okB homes st) (KM.bonS st) pl homes.length))))
        ⟨[], v5, v6, v7, v8, v9, v10, v11, v12, v13, rfl, sb_refl, el6, .nil⟩ (fun r σ H' _ hx => ?_) ?_ ?_⟩
      · obtain ⟨_, _, _, _, _, _, _, _, _, _, _, sb, _⟩ := hx
        exact sb _ _ ek nef
      · rintro r k v T0 q0 σ H7 hkv ⟨ls, v5, v6, v7, v8, v9, v10, v11, v12, v13, rfl, sb7, el7, R7⟩ nT hq0
        obtain ⟨e, he, ek1, t, ev, ht⟩ := paired_get R6 hkv
        have ek1 : k = inl e.1 := ek1
        have ev : v = .ref t := ev
        subst ek1 ev
        rw [inl_kV] at hq0
        have ht7 := sb7 _ _ ht (ne_of ht el6 (by intro z; cases z))
        have sT : Same H7 (upd H7 T0 (.tup [.ref q0, .ref t])) := same_upd nT
        refine ⟨T0, _, rfl, SqT.of upd_same, rfl, _, _, rfl, _, _, rfl, t, _, rfl, SqT.of (sT _ _ ht7), rfl, _, _, rfl, _, _, rfl, rfl, rfl, ?_⟩
        have hq8 := sT _ _ hq0
        have el8 := sT _ _ el7
        have sb8 : SameBut ld H6 (upd H7 T0 (.tup [.ref q0, .ref t])) := sb_same sb7 sT
        have R8 := R7.keep fun t xs e => sT _ _ e
        generalize upd H7 T0 (.tup [.ref q0, .ref t]) = H8 at hq8 el8 sb8 R8
        have hr1 : r < d.length := (List.getElem?_eq_some_iff.mp he).1
        have l0len : (KM.upds [] ((d.take r).flatMap (KM.conE (KM.okB homes st) (KM.bonS st) pl homes.length))).length ≤ 20000 := by
          have h1 := upds_len ((d.take r).flatMap (KM.conE (KM.okB homes st) (KM.bonS st) pl homes.length)) []
          have h2 := flat_len (KM.conE (KM.okB homes st) (KM.bonS st) pl homes.length) 5 (d.take r) fun e _ => conE_len _ _ pl hn e
          rw [List.length_take] at h2
          rw [List.length_nil] at h1
          omega
        rw [flat_take _ he, KM.upds_append]
        generalize KM.upds [] ((d.take r).flatMap (KM.conE (KM.okB homes st) (KM.bonS st) pl homes.length)) = l0 at R8 l0len
        -- for car, home in enumerate(street[1])
        have up : ∀ {b o H'}, SameBut ld H6 H' → H b = some o → H' b = some o := fun {b o H'} sb e => sb b o (sH6 b o e) (ne_of_none e nld0)
        refine ⟨_, rfl, a, _, 1, .ref h, rfl, rfl, SqT.of (up sb8 S.at_), atI_nat (j := 1) rfl, h, _, rfl, SqT.of (up sb8 S.hs), for_enumT (K := K) (a := h) (xs := homes.map V.int)
          (fun j σ H' => ∃ (ls : List (List Key × V)) (v8 v9 v10 v11 v12 v13 : Option V), σ = [some (.ref a), some (.ref p), some (.ref fd), some (.int pl), some (.ref ld), some (.ref q0), some (.int e.2.1), some (.int e.2.2), v8, v9, v10, v11, v12, v13] ∧
            SameBut ld H6 H' ∧ H' q0 = some (.tup (e.1.map V.int)) ∧ H' ld = some (.dT ls) ∧ RelD H' ls (KM.upds l0 (((KM.cars 0 homes.length).take j).flatMap (KM.con1 (KM.okB homes st) (KM.bonS st) pl e))))
          ⟨ls, v8, v9, v10, v11, v12, v13, rfl, sb8, hq8, el8, R8⟩ (fun j σ H' _ hx => ?_) ?_ ?_⟩
        · obtain ⟨_, _, _, _, _, _, _, _, sb, _⟩ := hx
          exact SqT.of (up sb S.hs)
        · rintro j x T1 σ H9 hxj ⟨ls, v8, v9, v10, v11, v12, v13, rfl, sb9, hq9, el9, R9⟩ nT1
          obtain ⟨hm, hhm, rfl⟩ := get_map hxj
          have hj : j < homes.length := (List.getElem?_eq_some_iff.mp hhm).1
          have hjs : j < st.length := by omega
          have hsj : st[j]? = some st[j] := List.getElem?_eq_getElem hjs
          have l1len : (KM.upds l0 (((KM.cars 0 homes.length).take j).flatMap (KM.con1 (KM.okB homes st) (KM.bonS st) pl e))).length ≤ 30000 := by
            have h1 := upds_len (((KM.cars 0 homes.length).take j).flatMap (KM.con1 (KM.okB homes st) (KM.bonS st) pl e)) l0
            have h2 := flat_len (KM.con1 (KM.okB homes st) (KM.bonS st) pl e) 1 ((KM.cars 0 homes.length).take j) fun c _ => con1_len _ _ pl e c
            rw [List.length_take, cars_len] at h2
            omega
          rw [flat_take _ (cars_get hj), KM.upds_append]
          have okc : KM.okB homes st (j : Int) pl = decide (hm ≤ pl ∧ pl ≤ st[j]) := by
            unfold KM.okB
            rw [KM.gt_nat, KM.gt_nat, List.getD_eq_getElem?_getD, List.getD_eq_getElem?_getD, hhm, hsj]
            rfl
          have boc : KM.bonS st (j : Int) pl = if pl = st[j] then 1 else 0 := by
            unfold KM.bonS
            rw [KM.gt_nat, List.getD_eq_getElem?_getD, hsj]
            rfl
          have sT1 : Same H9 (upd H9 T1 (.tup [.int (j : Nat), .int hm])) := same_upd nT1
          refine ⟨T1, _, rfl, SqT.of upd_same, rfl, _, _, rfl, _, _, rfl, rfl, ?_⟩
          have sb10 : SameBut ld H6 (upd H9 T1 (.tup [.int (j : Nat), .int hm])) := sb_same sb9 sT1
          have hq10 := sT1 _ _ hq9
          have el10 := sT1 _ _ el9
          have R10 := R9.keep fun t xs e => sT1 _ _ e
          generalize upd H9 T1 (.tup [.int (j : Nat), .int hm]) = H10 at sb10 hq10 el10 R10
          generalize KM.upds l0 (((KM.cars 0 homes.length).take j).flatMap (KM.con1 (KM.okB homes st) (KM.bonS st) pl e)) = l1 at R10 l1len
          have stay : KM.con1 (KM.okB homes st) (KM.bonS st) pl e (j : Int) = [] → ∃ (ls : List (List Key × V)) (w8 w9 w10 w11 w12 w13 : Option V), [some (V.ref a), some (V.ref p), some (V.ref fd), some (V.int pl), some (V.ref ld), some (V.ref q0), some (V.int e.2.1), some (V.int e.2.2), some (V.int (j : Nat)), some (V.int hm), v10, v11, v12, v13] = [some (.ref a), some (.ref p), some (.ref fd), some (.int pl), some (.ref ld), some (.ref q0), some (.int e.2.1), some (.int e.2.2), w8, w9, w10, w11, w12, w13] ∧
            SameBut ld H6 H10 ∧ H10 q0 = some (.tup (e.1.map V.int)) ∧ H10 ld = some (.dT ls) ∧ RelD H10 ls (KM.upds l1 (KM.con1 (KM.okB homes st) (KM.bonS st) pl e (j : Int))) := fun hc => by
            rw [hc]
            exact ⟨ls, _, _, _, _, _, _, rfl, sb10, hq10, el10, R10⟩
          refine ⟨_, rfl, _, rfl, q0, _, rfl, .inr (SqT.of hq10), rfl, flat_ints _, !(e.1.contains (j : Int)), congrArg (fun k => V.bl (!k)) (inV_int _ e.1), ite2 (fun c1 => ?_) (fun c1 => ?_)⟩
          · have hc1 : e.1.contains (j : Int) = false := by simpa using c1
            refine ⟨_, rfl, _, rfl, hm, pl, rfl, rfl, _, rfl, ite2 (fun c2 => ?_) (fun c2 => ?_)⟩
            · refine ⟨_, rfl, _, rfl, p, _, _, .int st[j], rfl, rfl, SqT.of (up sb10 hp), atI_nat (map_get hsj), pl, st[j], rfl, rfl, _, rfl, ite2 (fun c3 => ?_) (fun c3 => ?_)⟩
              · have hok : KM.okB homes st (j : Int) pl = true := by
                  rw [okc]
                  exact decide_eq_true ⟨of_decide_eq_true c2, of_decide_eq_true c3⟩
                have ec : KM.con1 (KM.okB homes st) (KM.bonS st) pl e (j : Int) = [(KM.srt (e.1 ++ [(j : Int)]), e.2.1 + KM.bonS st (j : Int) pl, e.2.2)] := by
                  unfold KM.con1
                  rw [if_pos ⟨hc1, hok⟩]
                rw [ec]
                have hb : (if decide (V.int pl = V.int st[j]) = true then (1 : Int) else 0) = KM.bonS st (j : Int) pl := by
                  rw [boc]
                  by_cases z : pl = st[j]
                  · rw [if_pos z, if_pos (decide_eq_true (by rw [z]))]
                  · rw [if_neg z, if_neg (by rw [decide_eq_true_eq]; exact fun y => z (V.int.inj y))]
                -- key = tuple(sorted([*done, car]))
                have elen : e.1.length ≤ 5 := elen_of e (List.mem_of_getElem? he)
                refine ⟨_, rfl, q0, _, rfl, .inl (SqT.of hq10), _, rfl, le_big (by rw [List.length_append, List.length_map]; simp only [List.length_cons, List.length_nil]; omega), fun la nla => ?_⟩
                refine ⟨la, e.1 ++ [(j : Int)], rfl, by rw [List.map_append]; exact SqL.of upd_same, by rw [List.length_append]; simp only [List.length_cons, List.length_nil]; omega, fun ns lb perm srt nlb => ?_⟩
                refine ⟨lb, _, rfl, .inl ⟨SqL.of upd_same, fun kt nkt => ?_⟩⟩
                have ens : ns = KM.srt (e.1 ++ [(j : Int)]) := KM.srt_uniq perm srt
                subst ens
                have s11 : Same H10 (upd (upd (upd H10 la (.lst (e.1.map V.int ++ [V.int (j : Int)]))) lb (.lst ((KM.srt (e.1 ++ [(j : Int)])).map V.int))) kt (.tup ((KM.srt (e.1 ++ [(j : Int)])).map V.int))) := ((same_upd nla).trans (same_upd nlb)).trans (same_upd nkt)
                generalize hH11 : upd (upd (upd H10 la (.lst (e.1.map V.int ++ [V.int (j : Int)]))) lb (.lst ((KM.srt (e.1 ++ [(j : Int)])).map V.int))) kt (.tup ((KM.srt (e.1 ++ [(j : Int)])).map V.int)) = H11 at s11
                have ekt : H11 kt = some (.tup ((KM.srt (e.1 ++ [(j : Int)])).map V.int)) := by rw [← hH11]; exact upd_same
                have sb11 := sb_same sb10 s11
                have hq11 := s11 _ _ hq10
                have el11 := s11 _ _ el10
                have R11 := R10.keep fun t xs e => s11 _ _ e
                clear hH11
                -- here = stay + int(place == state[car])
                refine ⟨_, rfl, _, rfl, _, rfl, _, rfl, p, _, _, .int st[j], rfl, rfl, SqT.of (up sb11 hp), atI_nat (map_get hsj), rfl, .inr ⟨_, rfl, _, _, rfl, rfl, ?_⟩⟩
                dsimp only
                rw [hb]
                generalize hhv : e.2.1 + KM.bonS st (j : Int) pl = hv
                generalize hKk : KM.srt (e.1 ++ [(j : Int)]) = Kk at ekt
                -- best, ways = later.get(key, (-1, 0))
                refine ⟨_, rfl, ld, rfl, .inr ⟨_, .inl el11⟩, _, rfl, 1, rfl, by show 2 ≤ sizeLine; decide, fun dt ndt => ⟨_, DGet.t (k := inl Kk) (same_upd ndt _ _ el11) (by rw [inl_kV]; exact same_upd ndt _ _ ekt), ?_⟩⟩
                have s12 : Same H11 (upd H11 dt (.tup [V.int (-1), V.int 0])) := same_upd ndt
                have edt : (upd H11 dt (.tup [V.int (-1), V.int 0])) dt = some (.tup [V.int (-1), V.int 0]) := upd_same
                generalize upd H11 dt (.tup [V.int (-1), V.int 0]) = H12 at s12 edt
                have sb12 := sb_same sb11 s12
                have hq12 := s12 _ _ hq11
                have el12 := s12 _ _ el11
                have ek12 := s12 _ _ ekt
                have R12 := R11.keep fun t xs e => s12 _ _ e
                obtain ⟨rr, er, hrr⟩ : ∃ rr, (valV ls (inl Kk)).getD (.ref dt) = V.ref rr ∧ H12 rr = some (.tup [.int ((KM.look l1 Kk).getD (-1, 0)).1, .int ((KM.look l1 Kk).getD (-1, 0)).2]) := by
                  obtain ⟨w1, w2⟩ := R12.val Kk
                  cases ql : KM.look l1 Kk with
                  | none => exact ⟨dt, by rw [w1 ql] <;> rfl, edt⟩
                  | some y =>
                    obtain ⟨u, e1, e2⟩ := w2 y ql
                    exact ⟨u, by rw [e1] <;> rfl, e2⟩
                rw [er]
                generalize hbw : (KM.look l1 Kk).getD (-1, 0) = bw at hrr
                refine ⟨rr, _, rfl, SqT.of hrr, rfl, _, _, rfl, _, _, rfl, rfl, ?_⟩
                have eu : KM.upds l1 [(Kk, hv, e.2.2)] = if bw.1 < hv then KM.setD l1 Kk (hv, e.2.2) else if hv = bw.1 then KM.setD l1 Kk (bw.1, bw.2 + e.2.2) else l1 := by
                  show KM.upd1 l1 Kk hv e.2.2 = _
                  unfold KM.upd1
                  rw [hbw]
                rw [eu]
                have llen : ls.length < sizeLine := lt_big (by rw [Paired.length R12]; omega)
                have put : ∀ (vt : Addr) (Hx : Hp) (b w : Int), Same H12 Hx → Hx vt = some (.tup [.int b, .int w]) → SameBut ld H6 (upd Hx ld (.dT (putK ls (inl Kk) (.ref vt)))) ∧ (upd Hx ld (.dT (putK ls (inl Kk) (.ref vt)))) q0 = some (.tup (e.1.map V.int)) ∧ RelD (upd Hx ld (.dT (putK ls (inl Kk) (.ref vt)))) (putK ls (inl Kk) (.ref vt)) (KM.setD l1 Kk (b, w)) := fun vt Hx b w sx ht => by
                  have elx := sx _ _ el12
                  have nt : ∀ t xs, Hx t = some (.tup xs) → t ≠ ld := fun t xs z => ne_of z elx (by intro y; cases y)
                  refine ⟨sb_upd (sb_same sb12 sx), by rw [upd_ne (nt _ _ (sx _ _ hq12))]; exact sx _ _ hq12, ?_⟩
                  refine RelD.keep (RelD.put (R12.keep fun t xs z => sx _ _ z) Kk ht) fun t xs z => ?_
                  rw [upd_ne (nt _ _ z)]
                  exact z
                -- if here > best
                refine ⟨_, rfl, _, rfl, hv, bw.1, rfl, rfl, _, rfl, ite2 (fun g1 => ?_) (fun g1 => ?_)⟩
                · have g1 := of_decide_eq_true g1
                  rw [if_pos g1]
                  refine ⟨_, rfl, _, rfl, by show 2 ≤ sizeLine; decide, fun vt nvt => ⟨_, rfl, _, rfl, ld, _, rfl, DPut.t (k := inl Kk) (same_upd nvt _ _ el12) (by rw [inl_kV]; exact same_upd nvt _ _ ek12) llen, ?_⟩⟩
                  obtain ⟨x1, x2, x3⟩ := put vt _ hv e.2.2 (same_upd nvt) upd_same
                  exact ⟨_, _, _, _, _, _, _, rfl, x1, x2, upd_same, x3⟩
                · have g1 : ¬ bw.1 < hv := fun z => g1 (decide_eq_true z)
                  rw [if_neg g1]
                  refine ⟨_, rfl, _, rfl, rfl, _, rfl, ite2 (fun g2 => ?_) (fun g2 => ?_)⟩
                  · have g2 : hv = bw.1 := V.int.inj (of_decide_eq_true g2)
                    rw [if_pos g2]
                    refine ⟨_, rfl, _, rfl, _, rfl, _, _, rfl, rfl, by show 2 ≤ sizeLine; decide, fun vt nvt => ⟨_, rfl, _, rfl, ld, _, rfl, DPut.t (k := inl Kk) (same_upd nvt _ _ el12) (by rw [inl_kV]; exact same_upd nvt _ _ ek12) llen, ?_⟩⟩
                    obtain ⟨x1, x2, x3⟩ := put vt _ bw.1 (bw.2 + e.2.2) (same_upd nvt) upd_same
                    exact ⟨_, _, _, _, _, _, _, rfl, x1, x2, upd_same, x3⟩
                  · have g2 : ¬ hv = bw.1 := fun z => g2 (decide_eq_true (by rw [z]))
                    rw [if_neg g2]
                    exact ⟨_, _, _, _, _, _, _, rfl, sb12, hq12, el12, R12⟩
              · refine stay ?_
                unfold KM.con1
                rw [if_neg fun z => c3 ?_]
                have z2 := z.2
                rw [okc, decide_eq_true_eq] at z2
                exact decide_eq_true z2.2
            · refine ⟨false, rfl, iteF (stay ?_)⟩
              unfold KM.con1
              rw [if_neg fun z => c2 ?_]
              have z2 := z.2
              rw [okc, decide_eq_true_eq] at z2
              exact decide_eq_true z2.1
          · refine iteF (stay ?_)
            unfold KM.con1
            rw [if_neg fun z => c1 (by rw [z.1] <;> rfl)]
        · rintro σ H9 ⟨ls, v8, v9, v10, v11, v12, v13, rfl, sb9, hq9, el9, R9⟩
          rw [List.length_map, List.take_of_length_le (by rw [cars_len]; exact Nat.le_refl _)] at R9
          exact ⟨ls, _, _, _, _, _, _, _, _, _, rfl, sb9, el9, R9⟩
      · rintro σ H7 ⟨ls, v5, v6, v7, v8, v9, v10, v11, v12, v13, rfl, sb7, el7, R7⟩
        have kd : kvs.length = d.length := Paired.length R6
        have ef7 := sb7 _ _ ek nef
        refine ⟨ef7, ?_⟩
        rw [List.take_of_length_le (by omega)] at R7
        -- found = later
        have up : ∀ {b o}, H b = some o → H7 b = some o := fun {b o} e => sb7 b o (sH6 b o e) (ne_of_none e nld0)
        have ntf : tk ≠ fd := ne_of etk efd (by intro z; cases z)
        have etk6 := sk _ _ etk ntf
        have etk7 := sb7 _ _ etk6 (ne_of etk6 el6 (by intro z; cases z))
        refine ⟨_, rfl, ld, ls, _, _, _, _, _, _, _, _, _, _, _, rfl, fun b o z => ?_, ?_, nld0, ?_, R7.keep fun t xs z => ?_⟩
        · rw [upd_ne (ne_of_none z nfd)]
          exact up z
        · rw [upd_ne ntf]
          exact etk7
        · rw [upd_ne nef.symm]
          exact el7
        · rw [upd_ne (ne_of z ef7 (by intro y; cases y))]
          exact z
    · rintro σ H4 ⟨fd, kvs, v3, v4, v5, v6, v7, v8, v9, v10, v11, v12, v13, rfl, s4, etk, nfd, efd, R⟩
      rw [List.length_map, List.take_length] at R
      have ag := KM.dp_rows (KM.okB homes st) (KM.bonS st) (n := homes.length) (KM.bonS_nonneg st) it.nodup it.length
      obtain ⟨b, w, hbw⟩ := KM.agg_some (l := (KM.rowsTo taken (KM.okB homes st) homes.length).map (KM.bonus (KM.bonS st) 0)) (by
        intro z
        exact KM.rests_some O it (List.map_eq_nil_iff.mp z))
      rw [hbw] at ag
      obtain ⟨t, et, ht⟩ := (R.val _).2 _ ag
      refine ⟨_, rfl, _, rfl, p, _, rfl, .inr (SqT.of (s4 _ _ hp)), _, rfl, ⟨by decide, by decide, by rw [List.length_map]; omega, by rw [List.length_map]; omega, by rw [List.length_map]; omega⟩, fun kt nkt => ?_⟩
      have sk : Same H4 (upd H4 kt (.tup (rgV 0 ((st.map V.int).length : Nat)))) := same_upd nkt
      have g := DGet.t (k := inl (KM.cars 0 homes.length)) (b := kt) (sk _ _ efd) (by
        rw [upd_same, inl_kV]
        congr 2
        unfold rgV KM.cars
        rw [List.length_map, hl, Int.sub_zero, Int.toNat_natCast, List.map_map, List.range_eq_range']
        refine List.map_congr_left fun c _ => ?_
        show V.int (0 + (c : Int)) = V.int (c : Int)
        rw [Int.zero_add])
      rw [et] at g
      exact ⟨fd, _, rfl, g, q taken t b w _ it (s4.trans sk) (sk _ _ ht) hbw⟩
end
end KW
namespace KW
open PySem PySem.Spec PyProof.Rows L2 KR
section
variable {P : Program} {w : World} {K : PySem.W.Frag} {mg : Str → Option Value} {base : Heap}
/-- what the three asked functions lean on, need_state and stays_in -/
structure AskF (K : PySem.W.Frag) (mg : Str → Option Value) (fN fS fT : Addr) (fdN fdS fdT : FuncData) : Prop where
  FN : Fun K "need_state" "need_state" sNeedState fN fdN
  bN : Binds K fdN ["street", "state"] []
  gN : mg "need_state" = some (.ref fN)
  FS : Fun K "stays_in" "stays_in" sStays fS fdS
  bS : Binds K fdS ["street", "state"] []
  gS : mg "stays_in" = some (.ref fS)
  FT : Fun K "taken_in" "taken_in" sTaken fT fdT
  bT : Binds K fdT ["homes"] []
  gT : mg "taken_in" = some (.ref fT)
abbrev AggOf (homes st taken : List Int) : Option (Int × Int) := KM.Agg ((KM.rowsTo taken (KM.okB homes st) homes.length).map (KM.bonus (KM.bonS st) 0))
/-! ### calls_to_rest, count_near_rests -/
theorem scCalls : FnScope ["street", "state"] ["street", "state"] (defScope sCalls) := ⟨rfl, rfl, rfl, by decide +kernel, rfl, by decide +kernel, by decide +kernel⟩
def spCalls : Sp := fun vs H Q _ => ∃ (a h p : Addr) (size : Int) (homes st : List Int), vs = [.ref a, .ref p] ∧ Street H a h size homes ∧ H p = some (.tup (st.map V.int)) ∧ Drawn size homes st ∧
  ∀ (taken : List Int) (b w : Int) (H' : Hp), KM.IsTaken homes taken → Same H H' → AggOf homes st taken = some (b, w) → Q (.int ((st.length : Int) - b)) H'
theorem ok_calls {f fS fP fR fI fN fL gN gS gT : Addr} {fd fdS fdP fdR fdI fdN fdL gdN gdS gdT : FuncData} (F : Fun K "calls_to_rest" "calls_to_rest" sCalls f fd) (Z : NeedF K mg fS fP fR fI fN fL fdS fdP fdR fdI fdN fdL) (Y : AskF K mg gN gS gT gdN gdS gdT) (T : Txt mg) :
    FnOk P w K mg base CX0 5 f fd ["street", "state"] spCalls := by
  obtain ⟨FN, bN, gN, FS, bS, gS, FT, bT, gT⟩ := Y
  have GN : FnOk P w K mg base CX0 4 _ gdN ["street", "state"] spNeedState := ok_needState FN Z T
  have GS : FnOk P w K mg base CX0 2 _ gdS ["street", "state"] spStays := ok_stays FS FT bT gT T
  refine F.ok scCalls (fun vs H Q E h => ?_) (fun cdv A outer s H vs Q E hr h => ?_)
  · obtain ⟨a, h, p, size, homes, st, rfl, _⟩ := h
    rfl
  · obtain ⟨a, h, p, size, homes, st, rfl, S, hp, D, q⟩ := h
    have hr4 : Room 4 _ := hr.mono (by decide)
    have hr2 : Room 2 _ := hr.mono (by decide)
    refine ⟨_, (pss_cons (ps_expr (pe_call GN hr4 (by rfl) gN FN.kp bN .nil pass0 (pa_cons (pv 0) (pa_cons (pv 1) pa_nil))))
        (pss_one (ps_ret (pe_op op_sub (pe_callB call_len_seq (by rfl) T.len bLen (pa_cons (pv 1) pa_nil)) (pe_ix ix_tup (pe_call GS hr2 (by rfl) gS FS.kp bS .nil pass0 (pa_cons (pv 0) (pa_cons (pv 1) pa_nil))) pe_int (fun _ _ => rfl)))))), ?_⟩
    refine ⟨_, rfl, _, rfl, a, h, p, size, homes, st, rfl, S, hp, D, fun H1 s1 => ?_⟩
    refine ⟨_, rfl, p, _, rfl, .inr (SqT.of (s1 _ _ hp)), _, rfl, _, rfl, a, h, p, size, homes, st, rfl, S.same s1, s1 _ _ hp, D.n2, D.ok, fun taken t b w H2 it s2 ht hb => ?_⟩
    refine ⟨t, _, 0, .int b, rfl, rfl, SqT.of ht, atI_nat (j := 0) rfl, _, _, rfl, rfl, ?_⟩
    rw [List.length_map]
    exact q taken b w H2 it (s1.trans s2) hb
theorem scCount : FnScope ["street", "state"] ["street", "state"] (defScope sCount) := ⟨rfl, rfl, rfl, by decide +kernel, rfl, by decide +kernel, by decide +kernel⟩
def spCount : Sp := fun vs H Q _ => ∃ (a h p : Addr) (size : Int) (homes st : List Int), vs = [.ref a, .ref p] ∧ Street H a h size homes ∧ H p = some (.tup (st.map V.int)) ∧ Drawn size homes st ∧
  ∀ (taken : List Int) (b w : Int) (H' : Hp), KM.IsTaken homes taken → Same H H' → AggOf homes st taken = some (b, w) → Q (.int w) H'
theorem ok_count {f fS fP fR fI fN fL gN gS gT : Addr} {fd fdS fdP fdR fdI fdN fdL gdN gdS gdT : FuncData} (F : Fun K "count_near_rests" "count_near_rests" sCount f fd) (Z : NeedF K mg fS fP fR fI fN fL fdS fdP fdR fdI fdN fdL) (Y : AskF K mg gN gS gT gdN gdS gdT) (T : Txt mg) :
    FnOk P w K mg base CX0 5 f fd ["street", "state"] spCount := by
  obtain ⟨FN, bN, gN, FS, bS, gS, FT, bT, gT⟩ := Y
  have GN : FnOk P w K mg base CX0 4 _ gdN ["street", "state"] spNeedState := ok_needState FN Z T
  have GS : FnOk P w K mg base CX0 2 _ gdS ["street", "state"] spStays := ok_stays FS FT bT gT T
  refine F.ok scCount (fun vs H Q E h => ?_) (fun cdv A outer s H vs Q E hr h => ?_)
  · obtain ⟨a, h, p, size, homes, st, rfl, _⟩ := h
    rfl
  · obtain ⟨a, h, p, size, homes, st, rfl, S, hp, D, q⟩ := h
    have hr4 : Room 4 _ := hr.mono (by decide)
    have hr2 : Room 2 _ := hr.mono (by decide)
    refine ⟨_, (pss_cons (ps_expr (pe_call GN hr4 (by rfl) gN FN.kp bN .nil pass0 (pa_cons (pv 0) (pa_cons (pv 1) pa_nil))))
        (pss_one (ps_ret (pe_ix ix_tup (pe_call GS hr2 (by rfl) gS FS.kp bS .nil pass0 (pa_cons (pv 0) (pa_cons (pv 1) pa_nil))) pe_int (fun _ _ => rfl))))), ?_⟩
    refine ⟨_, rfl, _, rfl, a, h, p, size, homes, st, rfl, S, hp, D, fun H1 s1 => ?_⟩
    refine ⟨_, rfl, _, rfl, a, h, p, size, homes, st, rfl, S.same s1, s1 _ _ hp, D.n2, D.ok, fun taken t b w H2 it s2 ht hb => ?_⟩
    refine ⟨t, _, 1, .int w, rfl, rfl, SqT.of ht, atI_nat (j := 1) rfl, ?_⟩
    exact q taken b w H2 it (s1.trans s2) hb
/-! ### near_rests -/
theorem scNear : FnScope ["street", "state", "some", "least", "rest"] ["street", "state"] (defScope sNear) := ⟨rfl, rfl, rfl, by decide +kernel, rfl, by decide +kernel, by decide +kernel⟩
/-- what near_rests leans on, but need_state -/
structure NearF (K : PySem.W.Frag) (mg : Str → Option Value) (fN fR fU fT : Addr) (fdN fdR fdU fdT : FuncData) : Prop where
  FN : Fun K "need_state" "need_state" sNeedState fN fdN
  bN : Binds K fdN ["street", "state"] []
  gN : mg "need_state" = some (.ref fN)
  FR : Fun K "rests_in" "rests_in" sRestsIn fR fdR
  bR : Binds K fdR ["street", "state"] []
  gR : mg "rests_in" = some (.ref fR)
  FU : Fun K "unlike" "unlike" sUnlike fU fdU
  bU : Binds K fdU ["one", "other"] []
  gU : mg "unlike" = some (.ref fU)
  FT : Fun K "taken_in" "taken_in" sTaken fT fdT
  bT : Binds K fdT ["homes"] []
  gT : mg "taken_in" = some (.ref fT)
def spNear : Sp := fun vs H Q _ => ∃ (a h p : Addr) (size : Int) (homes st : List Int), vs = [.ref a, .ref p] ∧ Street H a h size homes ∧ H p = some (.tup (st.map V.int)) ∧ Drawn size homes st ∧
  ∀ (taken : List Int) (D : Addr) (bs : List (Addr × List Int)) (m : Int) (H' : Hp), KM.IsTaken homes taken → Same H H' → RowsAt H' D bs →
    m ∈ (KM.rowsTo taken (KM.okB homes st) homes.length).map (KM.unl st) → (∀ y ∈ (KM.rowsTo taken (KM.okB homes st) homes.length).map (KM.unl st), m ≤ y) →
    bs.map (·.2) = (KM.rowsTo taken (KM.okB homes st) homes.length).filter (fun r => decide (KM.unl st r = m)) → Q (.ref D) H'
theorem ok_near {f fS fP fR fI fN fL gN gR gU gT : Addr} {fd fdS fdP fdR fdI fdN fdL gdN gdR gdU gdT : FuncData} (F : Fun K "near_rests" "near_rests" sNear f fd) (Z : NeedF K mg fS fP fR fI fN fL fdS fdP fdR fdI fdN fdL) (Y : NearF K mg gN gR gU gT gdN gdR gdU gdT) (T : Txt mg) :
    FnOk P w K mg base CX0 5 f fd ["street", "state"] spNear := by
  obtain ⟨FN, bN, gN, FR, bR, gR, FU, bU, gU, FT, bT, gT⟩ := Y
  have GN : FnOk P w K mg base CX0 4 _ gdN ["street", "state"] spNeedState := ok_needState FN Z T
  have GR : FnOk P w K mg base CX0 2 _ gdR ["street", "state"] spRestsIn := ok_restsIn FR FT bT gT T
  have GU : FnOk P w K mg base CX0 1 _ gdU ["one", "other"] spUnlike := ok_unlike FU T
  refine F.ok scNear (fun vs H Q E h => ?_) (fun cdv A outer s H vs Q E hr h => ?_)
  · obtain ⟨a, h, p, size, homes, st, rfl, _⟩ := h
    rfl
  · obtain ⟨a, h, p, size, homes, st, rfl, S, hp, D, q⟩ := h
    have hr4 : Room 4 _ := hr.mono (by decide)
    have hr2 : Room 2 _ := hr.mono (by decide)
    have hr1 : Room 1 _ := hr.mono (by decide)
    refine ⟨_, (pss_cons (ps_expr (pe_call GN hr4 (by rfl) gN FN.kp bN .nil pass0 (pa_cons (pv 0) (pa_cons (pv 1) pa_nil))))
        (pss_cons (ps_set (i := 2) scNear.nd rfl (Or.inl rfl) (pe_call GR hr2 (by rfl) gR FR.kp bR .nil pass0 (pa_cons (pv 0) (pa_cons (pv 1) pa_nil))))
        (pss_cons (ps_set (i := 3) scNear.nd rfl (Or.inr rfl) (pe_callB (cr_min rfl) (by rfl) T.min bMin (pa_cons (pe_lcE (own := [("rest", 4)]) (g := (gName 4)) rfl scNear.nd (pi_list (pv 2)) (blkOk_by (N := ["street", "state", "some", "least", "rest"]) (sc := defScope sNear) (by decide +kernel)) (fun _ _ _ _ _ => (pg_name (i := 4) scNear.nd rfl (Or.inl rfl))) (fun _ _ _ _ _ => pts_nil) (fun _ _ _ _ _ => (pe_callB call_len_seq (by rfl) T.len bLen (pa_cons (pe_call GU hr1 (by rfl) gU FU.kp bU .nil pass0 (pa_cons (pv 1) (pa_cons (pv 4) pa_nil))) pa_nil)))) pa_nil)))
        (pss_one (ps_ret (pe_lcE (own := [("rest", 4)]) (g := (gName 4)) rfl scNear.nd (pi_list (pv 2)) (blkOk_by (N := ["street", "state", "some", "least", "rest"]) (sc := defScope sNear) (by decide +kernel)) (fun _ _ _ _ _ => (pg_name (i := 4) scNear.nd rfl (Or.inl rfl))) (fun _ _ _ _ _ => (pts_one (pt_cmpR op_eq (pe_callB call_len_seq (by rfl) T.len bLen (pa_cons (pe_call GU hr1 (by rfl) gU FU.kp bU .nil pass0 (pa_cons (pv 1) (pa_cons (pv 4) pa_nil))) pa_nil)) (pv 3) (nomark _)))) (fun _ _ _ _ _ => (pv 4)))))))), ?_⟩
    have hl := D.ok.len
    have n5 := D.n2
    refine ⟨_, rfl, _, rfl, a, h, p, size, homes, st, rfl, S, hp, D, fun H1 s1 => ?_⟩
    refine ⟨_, rfl, _, rfl, a, h, p, size, homes, st, rfl, S.same s1, s1 _ _ hp, D.n2, hl, fun taken L bs H2 it s2 nL R eb => ?_⟩
    have sH := s1.trans s2
    have t5 : taken.length ≤ 5 := by rw [it.length]; exact D.n2
    have blen : bs.length ≤ 3125 := by
      have := rowsTo_card (KM.okB homes st) t5 homes.length
      rw [← eb, List.length_map] at this
      exact Nat.le_trans this (pow5 D.n2)
    have rlen : ∀ b ∈ bs, b.2.length = st.length := fun b hb => by
      rw [KM.rowsTo_len (k := homes.length) (row := b.2) (taken := taken) (ok := KM.okB homes st) (by rw [← eb]; exact List.mem_map_of_mem hb), hl]
    -- min([len(unlike(state, rest)) for rest in some])
    refine ⟨_, rfl, L, rfl, ⟨_, SqL.of R.l⟩, fun M nM => lc_list (K := K) (a := L) (xs := bs.map fun b => V.ref b.1) (fun j H' => SameBut M (upd H2 M (.lst [])) H' ∧ H' M = some (.lst (((bs.take j).map fun b => KM.unl st b.2).map V.int)))
      ⟨sb_refl, upd_same⟩ (fun j H' _ hx => ?_) ?_ ?_⟩
    · exact SqL.of (hx.1 _ _ (same_upd nM _ _ R.l) (ne_of_none R.l nM))
    · rintro j x H3 hj ⟨sb, eM⟩
      obtain ⟨b, hb, rfl⟩ := rows_get hj
      have hbm := List.mem_of_getElem? hb
      have hjl : j < bs.length := (List.getElem?_eq_some_iff.mp hb).1
      have up : ∀ z o, H2 z = some o → H3 z = some o := fun z o e => sb z o (same_upd nM z o e) (ne_of_none e nM)
      refine ⟨rfl, ?_⟩
      refine ⟨_, rfl, _, rfl, p, b.1, st, b.2, rfl, up _ _ (sH _ _ hp), up _ _ (R.t b hbm), rlen b hbm, by omega, fun U xs H4 s4 nU eU lU => ?_⟩
      refine ⟨U, _, rfl, .inl (SqL.of eU), _, s4 _ _ eM, lt_big ?_, sb_upd (sb_same sb s4), ?_⟩
      · rw [List.length_map, List.length_map, List.length_take]
        omega
      · rw [upd_same, take_snoc hb, List.map_append, List.map_append, lU]
        rfl
    · rintro H3 ⟨sb, eM⟩
      rw [List.length_map, List.take_length] at eM
      have s3 : Same H2 H3 := same_new nM sb
      have bne : 0 < (bs.map fun b => KM.unl st b.2).length := by
        rw [List.length_map]
        rcases Nat.eq_zero_or_pos bs.length with z | z
        · exfalso
          refine KM.rests_some D.ok it ?_
          rw [← eb, List.eq_nil_of_length_eq_zero z]
          rfl
        · exact z
      refine ⟨M, _, rfl, SqL.of eM, bne, fun m hm hlt => ?_⟩
      have em : (bs.map fun b => KM.unl st b.2) = (KM.rowsTo taken (KM.okB homes st) homes.length).map (KM.unl st) := by
        rw [← eb, List.map_map]
        rfl
      rw [em] at hm hlt
      have R3 := R.same s3
      have sH3 := sH.trans s3
      -- [rest for rest in some if len(unlike(state, rest)) == least]
      refine ⟨_, rfl, L, rfl, ⟨_, SqL.of R3.l⟩, fun N nN => lc_list (K := K) (a := L) (xs := bs.map fun b => V.ref b.1) (fun j H' => ∃ ds : List (Addr × List Int), SameBut N (upd H3 N (.lst [])) H' ∧ RowsAt H' N ds ∧ ds.map (·.2) = ((bs.map (·.2)).take j).filter (fun r => decide (KM.unl st r = m)))
        ⟨[], sb_refl, ⟨upd_same, fun b hb => by cases hb⟩, rfl⟩ (fun j H' _ hx => ?_) ?_ ?_⟩
      · obtain ⟨_, sb', _⟩ := hx
        exact SqL.of (sb' _ _ (same_upd nN _ _ R3.l) (ne_of_none R3.l nN))
      · rintro j x H4 hj ⟨ds, sb, C, ec⟩
        obtain ⟨b, hb, rfl⟩ := rows_get hj
        have hb2 : (bs.map (·.2))[j]? = some b.2 := by rw [List.getElem?_map, hb] <;> rfl
        have hbm := List.mem_of_getElem? hb
        have hjl : j < bs.length := (List.getElem?_eq_some_iff.mp hb).1
        have up : ∀ z o, H3 z = some o → H4 z = some o := fun z o e => sb z o (same_upd nN z o e) (ne_of_none e nN)
        have es := filter_take (fun r => decide (KM.unl st r = m)) hb2
        have dlen : ds.length ≤ 100000 := by
          have h1 := congrArg List.length ec
          rw [List.length_map] at h1
          have h2 := List.length_filter_le (fun r => decide (KM.unl st r = m)) ((bs.map (·.2)).take j)
          rw [List.length_take] at h2
          omega
        refine ⟨rfl, ?_⟩
        refine ⟨_, rfl, _, rfl, p, b.1, st, b.2, rfl, up _ _ (sH3 _ _ hp), up _ _ (R3.t b hbm), rlen b hbm, by omega, fun U xs H5 s5 nU eU lU => ?_⟩
        refine ⟨U, _, rfl, .inl (SqL.of eU), _, rfl, rfl, _, rfl, ite2 (fun e1 => ?_) (fun e1 => ?_)⟩
        · have e2 : KM.unl st b.2 = m := lU.symm.trans (V.int.inj (of_decide_eq_true e1))
          rw [if_pos (decide_eq_true e2)] at es
          have C' := C.same s5
          refine ⟨_, rfl, _, C'.l, lt_big (by rw [List.length_map]; exact dlen), ds ++ [(b.1, b.2)], sb_upd (sb_same sb s5), C'.push (s5 _ _ (up _ _ (R3.t b hbm))), ?_⟩
          rw [List.map_append, ec, es] <;> rfl
        · have e2 : ¬ KM.unl st b.2 = m := fun z => e1 (decide_eq_true (by rw [lU, z]))
          rw [if_neg (fun z => e2 (of_decide_eq_true z)), List.append_nil] at es
          exact ⟨ds, sb_same sb s5, C.same s5, by rw [es]; exact ec⟩
      · rintro H4 ⟨ds, sb, C, ec⟩
        rw [List.length_map, List.take_of_length_le (by rw [List.length_map]; exact Nat.le_refl _), eb] at ec
        exact q taken N ds m H4 it (sH3.trans (same_new nN sb)) C hm hlt ec
end
end KW
namespace KW
open PySem PySem.Spec PyProof.Rows L2 KR
section
variable {P : Program} {w : World} {K : PySem.W.Frag} {mg : Str → Option Value} {base : Heap}
/-! ### the draws: left open, but for their bounds -/
/-- the row of the draws at r: H0 is how the heap stood before it was laid -/
def RowOk (K : PySem.W.Frag) (H0 H : Hp) (r : Addr) : Prop := ∃ (a : Addr) (ns : List Int) (i seed rest : Int), H r = some (.lst [.ref a, .int i, .int seed, .int rest]) ∧ 0 ≤ i ∧ 0 ≤ seed ∧ seed < 2147483647 ∧ SqL K H0 a (ns.map V.int) ∧ H0 r = none ∧ Same H0 H
theorem same_but {H0 H H' : Hp} {r : Addr} (s : Same H0 H) (n : H0 r = none) (b : SameBut r H H') : Same H0 H' := fun c o e => b c o (s c o e) (ne_of_none e n)
theorem same_at {H0 H : Hp} {D : Addr} {o : HO} (s : Same H0 H) (n : H0 D = none) : Same H0 (upd H D o) := same_but s n (sb_upd sb_refl)
theorem RowOk.same {H0 H H' : Hp} {r : Addr} (h : RowOk K H0 H r) (s : Same H H') : RowOk K H0 H' r := by
  obtain ⟨a, ns, i, seed, rest, e, h1, h2, h3, q, n, z⟩ := h
  exact ⟨a, ns, i, seed, rest, s _ _ e, h1, h2, h3, q, n, z.trans s⟩
/-- another list was written, that is newer than H0 -/
theorem RowOk.but {H0 H H' : Hp} {r D : Addr} (h : RowOk K H0 H r) (n : r ≠ D) (nD : H0 D = none) (s : SameBut D H H') : RowOk K H0 H' r := by
  obtain ⟨a, ns, i, seed, rest, e, h1, h2, h3, q, m, z⟩ := h
  exact ⟨a, ns, i, seed, rest, s _ _ e n, h1, h2, h3, q, m, same_but z nD s⟩
theorem RowOk.free {H0 H : Hp} {r D : Addr} (h : RowOk K H0 H r) (n : H D = none) : H0 D = none := by
  obtain ⟨_, _, _, _, _, _, _, _, _, _, _, z⟩ := h
  exact z.free n
theorem RowOk.lst {H0 H : Hp} {r : Addr} (h : RowOk K H0 H r) : ∃ xs, H r = some (.lst xs) := by
  obtain ⟨_, _, _, _, _, e, _⟩ := h
  exact ⟨_, e⟩
theorem scDraw : FnScope ["_law_row", "_law_many", "_law_found", "_law_cell"] ["_law_row", "_law_many"] (defScope sDraw) := ⟨rfl, rfl, rfl, by decide +kernel, rfl, by decide +kernel, by decide +kernel⟩
def spDraw (K : PySem.W.Frag) : Sp := fun vs H Q _ => ∃ (H0 : Hp) (r : Addr) (many : Int), vs = [.ref r, .int many] ∧ RowOk K H0 H r ∧ 1 ≤ many ∧ many ≤ 10 ∧
  ∀ (k : Int) (H' : Hp), 0 ≤ k → k < many → SameBut r H H' → RowOk K H0 H' r → Q (.int k) H'
theorem ok_draw {f : Addr} {fd : FuncData} (F : Fun K "_law_taken" "_law_taken" sDraw f fd) (T : Txt mg) : FnOk P w K mg base CX0 1 f fd ["_law_row", "_law_many"] (spDraw K) := by
  refine F.ok scDraw (fun vs H Q E h => ?_) (fun cdv A outer s H vs Q E hr h => ?_)
  · obtain ⟨H0, r, many, rfl, _⟩ := h
    rfl
  · obtain ⟨H0, r, many, rfl, ⟨a, ns, i, seed, rest, er, hi, hs0, hs1, sq, nr, sH⟩, hm1, hm2, q⟩ := h
    have sc : ∀ H', SameBut r H H' → SqL K H' a (ns.map V.int) := fun H' b => (same_but sH nr b).seq sq
    have md : ∀ x : Int, 0 ≤ x % many ∧ x % many < many := fun x => ⟨Int.emod_nonneg x (by omega), Int.emod_lt_of_pos x (by omega)⟩
    have mk : ∀ (H' : Hp) (i' seed' rest' : Int), SameBut r H H' → H' r = some (.lst [.ref a, .int i', .int seed', .int rest']) → 0 ≤ i' → 0 ≤ seed' → seed' < 2147483647 → RowOk K H0 H' r := fun H' i' seed' rest' sb e1 e2 e3 e4 => ⟨a, ns, i', seed', rest', e1, e2, e3, e4, sq, nr, same_but sH nr sb⟩
    refine ⟨_, (pss_cons (ps_if (pt_cmpR op_gt (pe_ix ix_list (pv 0) pe_int (fun _ _ => rfl)) pe_int (nomark _)) (pss_cons (ps_set (i := 2) scDraw.nd rfl (Or.inl rfl) (pe_op op_mod (pe_callTy call_int1 (by rfl) T.int bInt (pa_cons (pe_ix ix_list (pv 0) pe_int (fun _ _ => rfl)) pa_nil)) (pv 1)))
        (pss_cons (ps_asg (pe_op op_fdivN (pe_ix ix_list (pv 0) pe_int (fun _ _ => rfl)) (pv 1)) (pg_sub (pv 0) pe_int set_list))
        (pss_one (ps_ret (pv 2))))) pss_nil)
        (pss_cons (ps_asg (pe_op op_add (pe_ix ix_list (pv 0) pe_int (fun _ _ => rfl)) pe_int) (pg_sub (pv 0) pe_int set_list))
        (pss_cons (ps_if (pt_cmpR op_gt (pe_ix ix_list (pv 0) pe_int (fun _ _ => rfl)) (pe_callB call_len_seq (by rfl) T.len bLen (pa_cons (pe_ix ix_list (pv 0) pe_int (fun _ _ => rfl)) pa_nil)) (nomark _)) (pss_cons (ps_asg (pe_op op_mod (pe_callTy call_int1 (by rfl) T.int bInt (pa_cons (pe_op op_add (pe_op op_mul (pe_ix ix_list (pv 0) pe_int (fun _ _ => rfl)) pe_int) pe_int) pa_nil)) pe_int) (pg_sub (pv 0) pe_int set_list))
        (pss_one (ps_ret (pe_op op_mod (pe_callTy call_int1 (by rfl) T.int bInt (pa_cons (pe_op op_fdivN (pe_ix ix_list (pv 0) pe_int (fun _ _ => rfl)) pe_int) pa_nil)) (pv 1))))) pss_nil)
        (pss_cons (ps_set (i := 3) scDraw.nd rfl (Or.inl rfl) (pe_ix ix_list (pe_ix ix_list (pv 0) pe_int (fun _ _ => rfl)) (pe_op op_sub (pe_ix ix_list (pv 0) pe_int (fun _ _ => rfl)) pe_int) (fun _ _ => rfl)))
        (pss_cons (ps_asg (pe_op op_mod (pe_callTy call_int1 (by rfl) T.int bInt (pa_cons (pe_op op_add (pe_op op_add (pe_op op_mul (pe_ix ix_list (pv 0) pe_int (fun _ _ => rfl)) pe_int) (pv 3)) pe_int) pa_nil)) pe_int) (pg_sub (pv 0) pe_int set_list))
        (pss_cons (ps_if (pt_cmpR op_ge (pv 3) (pe_op op_pow pe_int pe_int) (nomark _)) (pss_one (ps_asg (pe_op op_fdivN (pv 3) (pv 1)) (pg_sub (pv 0) pe_int set_list))) pss_nil)
        (pss_one (ps_ret (pe_op op_mod (pe_callTy call_int1 (by rfl) T.int bInt (pa_cons (pv 3) pa_nil)) (pv 1)))))))))), ?_⟩
    -- if row[3] > 0
    refine ⟨_, rfl, r, _, 3, .int rest, rfl, rfl, SqL.of er, rfl, rest, 0, rfl, rfl, _, rfl, ite2 (fun c => ?_) (fun c => ?_)⟩
    · refine ⟨_, rfl, r, _, 3, .int rest, rfl, rfl, SqL.of er, rfl, .inl ⟨rest, rfl, _, rfl, _, many, rfl, rfl, (show (0 : Int) < many by omega), ?_⟩⟩
      refine ⟨_, rfl, r, _, 3, .int rest, rfl, rfl, SqL.of er, rfl, _, rfl, rest, many, rfl, rfl, ⟨by omega, by omega⟩, _, rfl, r, _, 3, 3, rfl, rfl, er, rfl, ?_⟩
      exact ⟨_, rfl, q _ _ (md _).1 (md _).2 (sb_upd sb_refl) (mk _ _ _ _ (sb_upd sb_refl) upd_same hi hs0 hs1)⟩
    · refine ⟨_, rfl, r, _, 1, .int i, rfl, rfl, SqL.of er, rfl, i, 1, rfl, rfl, _, rfl, r, _, 1, 1, rfl, rfl, er, rfl, ?_⟩
      have sb1 : SameBut r H (upd H r (.lst [.ref a, .int (i + 1), .int seed, .int rest])) := sb_upd sb_refl
      have er1 : (upd H r (.lst [.ref a, .int (i + 1), .int seed, .int rest])) r = some (.lst [.ref a, .int (i + 1), .int seed, .int rest]) := upd_same
      change SameBut r H (upd H r (.lst (List.set [.ref a, .int i, .int seed, .int rest] 1 (.int (i + 1))))) at sb1
      change (upd H r (.lst (List.set [.ref a, .int i, .int seed, .int rest] 1 (.int (i + 1))))) r = _ at er1
      generalize upd H r (.lst (List.set [.ref a, .int i, .int seed, .int rest] 1 (.int (i + 1)))) = H1 at sb1 er1
      have sc1 := sc _ sb1
      -- if row[1] > len(row[0])
      refine ⟨_, rfl, r, _, 1, .int (i + 1), rfl, rfl, SqL.of er1, rfl, _, rfl, r, _, 0, .ref a, rfl, rfl, SqL.of er1, rfl, a, _, rfl, .inl sc1, i + 1, _, rfl, rfl, _, rfl, ite2 (fun c => ?_) (fun c => ?_)⟩
      · refine ⟨_, rfl, r, _, 2, .int seed, rfl, rfl, SqL.of er1, rfl, seed, 48271, rfl, rfl, .inr ⟨by decide, by decide⟩, _, 11, rfl, rfl, .inl ⟨_, rfl, _, 2147483647, rfl, rfl, (show (0 : Int) < 2147483647 by decide), _, rfl, r, _, 2, 2, rfl, rfl, er1, rfl, ?_⟩⟩
        have e1 := Int.emod_nonneg (seed * 48271 + 11) (b := 2147483647) (by decide)
        have e2 := Int.emod_lt_of_pos (seed * 48271 + 11) (b := 2147483647) (by decide)
        refine ⟨_, rfl, r, _, 2, .int ((seed * 48271 + 11) % 2147483647), rfl, rfl, SqL.of upd_same, rfl, _, 7, rfl, rfl, (show (7 : Int) ≠ 0 ∧ (7 : Int).natAbs < 1073741824 by decide), .inl ⟨_, rfl, _, rfl, _, many, rfl, rfl, (show (0 : Int) < many by omega), ?_⟩⟩
        exact q _ _ (md _).1 (md _).2 (sb_upd sb1) (mk _ _ _ _ (sb_upd sb1) upd_same (by omega) e1 e2)
      · have hc : ¬ ((ns.map V.int).length : Int) < i + 1 := fun z => c (decide_eq_true z)
        rw [List.length_map] at hc
        have hil : i.toNat < ns.length := by omega
        have at1 : atI (ns.map V.int) (i + 1 - 1) = some (.int ns[i.toNat]) := by
          rw [show i + 1 - 1 = ((i.toNat : Nat) : Int) by omega]
          exact atI_nat (map_get (List.getElem?_eq_getElem hil))
        generalize ns[i.toNat] = cell at at1
        -- cell = row[0][row[1] - 1]
        refine ⟨_, rfl, r, _, 0, .ref a, rfl, rfl, SqL.of er1, rfl, _, rfl, r, _, 1, .int (i + 1), rfl, rfl, SqL.of er1, rfl, i + 1, 1, rfl, rfl, a, _, i + 1 - 1, .int cell, rfl, rfl, sc1, at1, ?_⟩
        refine ⟨_, rfl, r, _, 2, .int seed, rfl, rfl, SqL.of er1, rfl, seed, 48271, rfl, rfl, .inr ⟨by decide, by decide⟩, _, rfl, _, cell, rfl, rfl, _, 11, rfl, rfl, .inl ⟨_, rfl, _, 2147483647, rfl, rfl, (show (0 : Int) < 2147483647 by decide), _, rfl, r, _, 2, 2, rfl, rfl, er1, rfl, ?_⟩⟩
        have e1 := Int.emod_nonneg (seed * 48271 + cell + 11) (b := 2147483647) (by decide)
        have e2 := Int.emod_lt_of_pos (seed * 48271 + cell + 11) (b := 2147483647) (by decide)
        -- if cell >= 10 ** 18
        refine ⟨_, rfl, 10, 18, rfl, rfl, ⟨by decide, by decide, by decide⟩, cell, _, rfl, rfl, _, rfl, ite2 (fun c2 => ?_) (fun c2 => ?_)⟩
        · refine ⟨_, rfl, _, rfl, cell, many, rfl, rfl, ⟨by omega, by omega⟩, _, rfl, r, _, 3, 3, rfl, rfl, upd_same, rfl, ?_⟩
          refine ⟨_, rfl, .inl ⟨cell, rfl, _, rfl, _, many, rfl, rfl, (show (0 : Int) < many by omega), ?_⟩⟩
          exact q _ _ (md _).1 (md _).2 (sb_upd (sb_upd sb1)) (mk _ _ _ _ (sb_upd (sb_upd sb1)) upd_same (by omega) e1 e2)
        · refine ⟨_, rfl, .inl ⟨cell, rfl, _, rfl, _, many, rfl, rfl, (show (0 : Int) < many by omega), ?_⟩⟩
          exact q _ _ (md _).1 (md _).2 (sb_upd sb1) (mk _ _ _ _ (sb_upd sb1) upd_same (by omega) e1 e2)
theorem scPick : FnScope ["_law_row", "_law_things"] ["_law_row", "_law_things"] (defScope sPick) := ⟨rfl, rfl, rfl, by decide +kernel, rfl, by decide +kernel, by decide +kernel⟩
def spPick (K : PySem.W.Frag) : Sp := fun vs H Q _ => ∃ (H0 : Hp) (r l : Addr) (xs : List Int), vs = [.ref r, .ref l] ∧ RowOk K H0 H r ∧ H l = some (.lst (xs.map V.int)) ∧ l ≠ r ∧ 1 ≤ xs.length ∧ xs.length ≤ 10 ∧
  ∀ (x : Int) (H' : Hp), x ∈ xs → SameBut r H H' → RowOk K H0 H' r → Q (.int x) H'
theorem ok_pick {f fD : Addr} {fd fdD : FuncData} (F : Fun K "_law_pick" "_law_pick" sPick f fd) (FD : Fun K "_law_taken" "_law_taken" sDraw fD fdD) (bD : Binds K fdD ["_law_row", "_law_many"] []) (gD : mg "_law_taken" = some (.ref fD)) (T : Txt mg) :
    FnOk P w K mg base CX0 2 f fd ["_law_row", "_law_things"] (spPick K) := by
  have GD : FnOk P w K mg base CX0 1 fD fdD ["_law_row", "_law_many"] (spDraw K) := ok_draw FD T
  refine F.ok scPick (fun vs H Q E h => ?_) (fun cdv A outer s H vs Q E hr h => ?_)
  · obtain ⟨H0, r, l, xs, rfl, _⟩ := h
    rfl
  · obtain ⟨H0, r, l, xs, rfl, R, hl, nl, h1, h2, q⟩ := h
    refine ⟨_, (pss_one (ps_ret (pe_ix ix_list (pv 1) (pe_call GD hr (by rfl) gD FD.kp bD .nil pass0 (pa_cons (pv 0) (pa_cons (pe_callB call_len_seq (by rfl) T.len bLen (pa_cons (pv 1) pa_nil)) pa_nil))) (fun _ _ => rfl)))), ?_⟩
    refine ⟨_, rfl, _, rfl, _, rfl, l, _, rfl, .inl (SqL.of hl), H0, r, _, rfl, R, by rw [List.length_map]; omega, by rw [List.length_map]; omega, fun k H1 k1 k2 sb R1 => ?_⟩
    rw [List.length_map] at k2
    have hk : k.toNat < xs.length := by omega
    refine ⟨l, _, k, .int xs[k.toNat], rfl, rfl, SqL.of (sb _ _ hl nl), ?_, q _ H1 (List.getElem_mem hk) sb R1⟩
    have e := atI_nat (map_get (List.getElem?_eq_getElem hk))
    rw [Int.toNat_of_nonneg k1] at e
    exact e
end
end KW
namespace KW
open PySem PySem.Spec PyProof.Rows L2 KR
section
variable {P : Program} {w : World} {K : PySem.W.Frag} {mg : Str → Option Value} {base : Heap}
/-- a street that the law draws -/
structure StreetOk (size : Int) (homes : List Int) : Prop where
  s1 : 1 ≤ size
  s2 : size ≤ 10
  n1 : 1 ≤ homes.length
  n2 : homes.length ≤ 5
  h1 : ∀ x ∈ homes, 0 ≤ x ∧ x ≤ size - 1
  room : ∀ p : Int, 0 ≤ p → p < size → ((homes.filter fun x => decide (p ≤ x)).length : Int) ≤ size - p
theorem erase_map {α β : Type} (f : α → β) : ∀ (l : List α) (k : Nat), (l.map f).eraseIdx k = (l.eraseIdx k).map f
  | [], _ => rfl
  | _ :: _, 0 => rfl
  | a :: l, k + 1 => congrArg (f a :: ·) (erase_map f l k)
theorem erase_perm {α : Type} : ∀ (l : List α) (k : Nat) (h : k < l.length), (l[k] :: l.eraseIdx k).Perm l
  | a :: l, 0, _ => List.Perm.refl _
  | a :: l, k + 1, h => (List.Perm.swap _ _ _).trans ((erase_perm l k (Nat.lt_of_succ_lt_succ h)).cons a)
theorem cnt_le {size p : Int} : ∀ (g : List Int) (k : Nat), (∀ (i : Nat) (x : Int), g[i]? = some x → x ≤ size - 1 - (k : Int) - (i : Int)) → ((g.filter fun x => decide (p ≤ x)).length : Int) ≤ max 0 (size - p - k)
  | [], k, _ => by simp; omega
  | y :: g, k, h => by
    have h0 := h 0 y rfl
    have ih := cnt_le (size := size) (p := p) g (k + 1) fun i x e => by
      have := h (i + 1) x e
      push_cast at this ⊢
      omega
    by_cases e : p ≤ y
    · rw [List.filter_cons, if_pos (decide_eq_true e), List.length_cons]
      push_cast at ih h0 ⊢
      omega
    · rw [List.filter_cons, if_neg fun z => e (of_decide_eq_true z)]
      push_cast at ih ⊢
      omega
theorem street_ok {many size : Int} {g homes : List Int} (h1 : 1 ≤ many) (h2 : many ≤ 5) (h3 : many ≤ size) (h4 : size ≤ 10) (gl : (g.length : Int) = many) (gb : ∀ (i : Nat) (x : Int), g[i]? = some x → 0 ≤ x ∧ x ≤ size - 1 - (i : Int)) (pm : homes.Perm g) : StreetOk size homes := by
  have hl := pm.length_eq
  refine ⟨by omega, h4, by omega, by omega, fun x hx => ?_, fun p p1 p2 => ?_⟩
  · obtain ⟨i, e⟩ := List.getElem?_of_mem (pm.mem_iff.mp hx)
    have := gb i x e
    omega
  · rw [(pm.filter fun x => decide (p ≤ x)).length_eq]
    have := cnt_le (size := size) (p := p) g 0 fun i x e => by
      have := (gb i x e).2
      omega
    omega
theorem scLStreet : FnScope ["_law_row", "_law_cars", "_law_places", "_law_many", "_law_size", "_law_homes", "_law_left", "_law_turn", "_law_mixed"] ["_law_row", "_law_cars", "_law_places"] (defScope sLStreet) := ⟨rfl, rfl, rfl, by decide +kernel, rfl, by decide +kernel, by decide +kernel⟩
def spLStreet (K : PySem.W.Frag) : Sp := fun vs H Q _ => ∃ (H0 : Hp) (r : Addr), vs = [.ref r, .int 5, .int 10] ∧ RowOk K H0 H r ∧
  ∀ (a h : Addr) (size : Int) (homes : List Int) (H' : Hp), Same H0 H' → RowOk K H0 H' r → Street H' a h size homes → StreetOk size homes → Q (.ref a) H'
theorem ok_lstreet {f fD : Addr} {fd fdD : FuncData} (F : Fun K "_law_street" "_law_street" sLStreet f fd) (FD : Fun K "_law_taken" "_law_taken" sDraw fD fdD) (bD : Binds K fdD ["_law_row", "_law_many"] []) (gD : mg "_law_taken" = some (.ref fD)) (T : Txt mg) :
    FnOk P w K mg base CX0 2 f fd ["_law_row", "_law_cars", "_law_places"] (spLStreet K) := by
  have GD : FnOk P w K mg base CX0 1 fD fdD ["_law_row", "_law_many"] (spDraw K) := ok_draw FD T
  refine F.ok scLStreet (fun vs H Q E h => ?_) (fun cdv A outer s H vs Q E hr h => ?_)
  · obtain ⟨H0, r, rfl, _⟩ := h
    rfl
  · obtain ⟨H0, r, rfl, R, q⟩ := h
    refine ⟨_, (pss_cons (ps_set (i := 3) scLStreet.nd rfl (Or.inl rfl) (pe_op op_add pe_int (pe_call GD hr (by rfl) gD FD.kp bD .nil pass0 (pa_cons (pv 0) (pa_cons (pv 1) pa_nil)))))
        (pss_cons (ps_set (i := 4) scLStreet.nd rfl (Or.inl rfl) (pe_callB (call_max2 rfl) (by rfl) T.max bMax (pa_cons (pv 3) (pa_cons (pe_op op_add pe_int (pe_call GD hr (by rfl) gD FD.kp bD .nil pass0 (pa_cons (pv 0) (pa_cons (pv 2) pa_nil)))) pa_nil))))
        (pss_cons (ps_par (i := 5) (j := 6) (by rfl) scLStreet.nd rfl rfl (by decide) rfl rfl (pa_cons (pe_lst pa_nil) (pa_cons (pv 4) pa_nil)) (by rfl))
        (pss_cons (ps_for PassesOwn.never rfl (pi_range1 (by rfl) T.range (pa_cons (pv 3) pa_nil)) (pg_name (i := 7) scLStreet.nd rfl (Or.inl rfl)) (pss_cons (ps_set (i := 6) scLStreet.nd rfl (Or.inl rfl) (pe_op op_sub (pv 6) pe_int))
        (pss_one (ps_expr (pe_bm PySem.F.plainAttrs_list PySem.F.slot_list_append PySem.F.type_list_append mt_append (pv 5) (pa_cons (pe_call GD hr (by rfl) gD FD.kp bD .nil pass0 (pa_cons (pv 0) (pa_cons (pe_op op_add (pv 6) pe_int) pa_nil))) pa_nil))))))
        (pss_cons (ps_set (i := 8) scLStreet.nd rfl (Or.inl rfl) (pe_lst pa_nil))
        (pss_cons (ps_for PassesOwn.never rfl (pi_range1 (by rfl) T.range (pa_cons (pv 3) pa_nil)) (pg_name (i := 7) scLStreet.nd rfl (Or.inl rfl)) (pss_one (ps_expr (pe_bm PySem.F.plainAttrs_list PySem.F.slot_list_append PySem.F.type_list_append mt_append (pv 8) (pa_cons (pe_bm PySem.F.plainAttrs_list PySem.F.slot_list_pop PySem.F.type_list_pop mt_popAt (pv 5) (pa_cons (pe_call GD hr (by rfl) gD FD.kp bD .nil pass0 (pa_cons (pv 0) (pa_cons (pe_callB call_len_seq (by rfl) T.len bLen (pa_cons (pv 5) pa_nil)) pa_nil))) pa_nil)) pa_nil)))))
        (pss_one (ps_ret (pe_tup (pa_cons (pv 4) (pa_cons (pe_callTy call_tuple_of (by rfl) T.tuple bTuple (pa_cons (pv 8) pa_nil)) pa_nil))))))))))), ?_⟩
    -- many = 1 + taken(row, 5)
    refine ⟨_, rfl, _, rfl, H0, r, 5, rfl, R, by decide, by decide, fun k H1 k1 k2 sb1 R1 => ⟨_, _, rfl, rfl, ?_⟩⟩
    dsimp only
    generalize hmany : (1 : Int) + k = many
    -- size = max(many, 1 + taken(row, 10))
    refine ⟨_, rfl, _, rfl, _, rfl, H0, r, 10, rfl, R1, by decide, by decide, fun j H2 j1 j2 sb2 R2 => ⟨_, _, rfl, rfl, _, _, rfl, ?_⟩⟩
    dsimp only
    obtain ⟨size, hsz, z1, z2⟩ : ∃ size : Int, (if 1 + j > many then 1 + j else many) = size ∧ many ≤ size ∧ size ≤ 10 := by
      by_cases e : 1 + j > many
      · exact ⟨1 + j, if_pos e, by omega, by omega⟩
      · exact ⟨many, if_neg e, by omega, by omega⟩
    rw [hsz]
    have sz : Same H0 H2 := by
      obtain ⟨_, _, _, _, _, _, _, _, _, _, _, z⟩ := R2
      exact z
    -- homes, left = [], size
    refine ⟨Nat.zero_le _, fun hp nhp => ⟨_, rfl, _, _, rfl, ?_⟩⟩
    have nh0 : H0 hp = none := sz.free nhp
    have R3 := R2.same (same_upd (o := .lst []) nhp)
    have nrh : r ≠ hp := by
      obtain ⟨xs, e⟩ := R2.lst
      exact ne_of_none e nhp
    have s3 : Same H0 (upd H2 hp (.lst [])) := sz.trans (same_upd nhp)
    refine ⟨_, rfl, many, rfl, by omega, by omega, for_range (lo := 0) (n := many.toNat) (fun i σ H' => ∃ (g : List Int) (t7 : Option V), σ = [some (.ref r), some (.int 5), some (.int 10), some (.int many), some (.int size), some (.ref hp), some (.int (size - (i : Int))), t7, none] ∧
        RowOk K H0 H' r ∧ Same H0 H' ∧ H' hp = some (.lst (g.map V.int)) ∧ g.length = i ∧ ∀ (i : Nat) (x : Int), g[i]? = some x → 0 ≤ x ∧ x ≤ size - 1 - (i : Int))
      ⟨[], _, by rw [Int.natCast_zero, Int.sub_zero] <;> rfl, R3, s3, upd_same, rfl, fun i x e => by simp at e⟩ ?_ ?_⟩
    · rintro i σ H' hi ⟨g, t7, rfl, R4, s4, eh, gl, gb⟩
      refine ⟨_, rfl, _, _, rfl, rfl, ?_⟩
      refine ⟨_, rfl, .inl ⟨rfl, _, SqL.of eh⟩, _, rfl, _, rfl, _, _, rfl, rfl, H0, r, _, rfl, R4, by omega, by omega, fun x H5 x1 x2 sb5 R5 => ?_⟩
      have eh5 := sb5 _ _ eh nrh.symm
      refine ⟨hp, _, _, rfl, rfl, eh5, lt_line (by rw [List.length_map]; omega), ?_⟩
      have s5 : Same H0 H5 := by
        obtain ⟨_, _, _, _, _, _, _, _, _, _, _, z⟩ := R5
        exact z
      refine ⟨g ++ [x], some (.int (0 + (i : Int))), ?_, R5.but nrh nh0 (sb_upd sb_refl), same_at s5 nh0, by rw [upd_same, List.map_append] <;> rfl, by rw [List.length_append, gl] <;> rfl, fun c y e => ?_⟩
      · show _ = [some (V.ref r), some (.int 5), some (.int 10), some (.int many), some (.int size), some (.ref hp), some (.int (size - ((i + 1 : Nat) : Int))), some (.int (0 + (i : Int))), none]
        rw [show size - ((i + 1 : Nat) : Int) = size - (i : Int) - 1 by omega]
        rfl
      · by_cases hc : c < g.length
        · rw [List.getElem?_append_left hc] at e
          exact gb c y e
        · rw [List.getElem?_append_right (by omega)] at e
          have hc2 : c - g.length = 0 := by
            by_cases z : c - g.length = 0
            · exact z
            · rw [List.getElem?_eq_none (by simp only [List.length_cons, List.length_nil]; omega)] at e
              cases e
          rw [hc2] at e
          cases e
          omega
    · rintro σ H' ⟨g, t7, rfl, R4, s4, eh, gl, gb⟩
      -- mixed = []
      refine ⟨Nat.zero_le _, fun mp nmp => ?_⟩
      have nm0 : H0 mp = none := s4.free nmp
      have nrm : r ≠ mp := by
        obtain ⟨xs, e⟩ := R4.lst
        exact ne_of_none e nmp
      have nhm : hp ≠ mp := ne_of_none eh nmp
      refine ⟨_, rfl, many, rfl, by omega, by omega, for_range (lo := 0) (n := many.toNat) (fun i σ H' => ∃ (g' m : List Int) (t7 : Option V), σ = [some (.ref r), some (.int 5), some (.int 10), some (.int many), some (.int size), some (.ref hp), some (.int (size - (many.toNat : Int))), t7, some (.ref mp)] ∧
          RowOk K H0 H' r ∧ Same H0 H' ∧ H' hp = some (.lst (g'.map V.int)) ∧ H' mp = some (.lst (m.map V.int)) ∧ m.length = i ∧ (m ++ g').Perm g)
        ⟨g, [], _, rfl, R4.same (same_upd nmp), s4.trans (same_upd nmp), by rw [upd_ne nhm]; exact eh, upd_same, rfl, List.Perm.refl _⟩ ?_ ?_⟩
      · rintro i σ H' hi ⟨g', m, t7, rfl, R5, s5, eh5, em5, ml, pm⟩
        have pl := pm.length_eq
        rw [List.length_append] at pl
        have gl' : 1 ≤ g'.length := by omega
        -- mixed.append(homes.pop(taken(row, len(homes))))
        refine ⟨_, rfl, .inl ⟨rfl, _, SqL.of em5⟩, _, rfl, .inl ⟨rfl, _, SqL.of eh5⟩, _, rfl, _, rfl, hp, _, rfl, .inl (SqL.of eh5), H0, r, _, rfl, R5, by rw [List.length_map]; omega, by rw [List.length_map]; omega, fun x H6 x1 x2 sb6 R6 => ?_⟩
        rw [List.length_map] at x2
        have hx : x.toNat < g'.length := by omega
        have eh6 := sb6 _ _ eh5 nrh.symm
        have em6 := sb6 _ _ em5 nrm.symm
        have s6 : Same H0 H6 := by
          obtain ⟨_, _, _, _, _, _, _, _, _, _, _, z⟩ := R6
          exact z
        refine ⟨hp, _, x, x.toNat, _, rfl, rfl, eh6, by omega, by omega, seqIndex_of x1 (by rw [List.length_map]; omega), map_get (List.getElem?_eq_getElem hx), ?_⟩
        rw [erase_map]
        have sb7 : SameBut hp H6 (upd H6 hp (.lst ((g'.eraseIdx x.toNat).map V.int))) := sb_upd sb_refl
        have R7 := R6.but nrh nh0 sb7
        have s7 := same_but s6 nh0 sb7
        have em7 := sb7 _ _ em6 nhm.symm
        have eh7 : (upd H6 hp (.lst ((g'.eraseIdx x.toNat).map V.int))) hp = some (.lst ((g'.eraseIdx x.toNat).map V.int)) := upd_same
        generalize upd H6 hp (.lst ((g'.eraseIdx x.toNat).map V.int)) = H7 at R7 s7 em7 eh7
        refine ⟨mp, _, _, rfl, rfl, em7, lt_line (by rw [List.length_map]; omega), ?_⟩
        refine ⟨g'.eraseIdx x.toNat, m ++ [g'[x.toNat]], _, rfl, R7.but nrm nm0 (sb_upd sb_refl), same_at s7 nm0, by rw [upd_ne nhm]; exact eh7, by rw [upd_same, List.map_append] <;> rfl, by rw [List.length_append, ml] <;> rfl, ?_⟩
        rw [List.append_assoc]
        exact ((erase_perm _ _ hx).append_left m).trans pm
      · rintro σ H' ⟨g', m, t7, rfl, R5, s5, eh5, em5, ml, pm⟩
        have pl := pm.length_eq
        rw [List.length_append] at pl
        have g0 : g' = [] := List.eq_nil_of_length_eq_zero (by omega)
        subst g0
        rw [List.append_nil] at pm
        refine ⟨_, rfl, _, rfl, mp, _, rfl, .inl ⟨SqL.of em5, fun ht nht => ⟨by show 2 ≤ sizeLine; decide, fun a na => ?_⟩⟩⟩
        have s6 : Same H' (upd H' ht (.tup (m.map V.int))) := same_upd nht
        have s7 : Same (upd H' ht (.tup (m.map V.int))) (upd (upd H' ht (.tup (m.map V.int))) a (.tup [.int size, .ref ht])) := same_upd na
        exact q a ht size m _ (s5.trans (s6.trans s7)) (R5.same (s6.trans s7)) ⟨upd_same, s7 _ _ upd_same⟩ (street_ok (many := many) (by omega) (by omega) z1 z2 (by omega) gb pm)
end
end KW
namespace KW
open PySem PySem.Spec PyProof.Rows L2 KR
section
variable {P : Program} {w : World} {K : PySem.W.Frag} {mg : Str → Option Value} {base : Heap}
/-! ### the order of the cars, and a free place -/
theorem map_getD (homes : List Int) : (List.range homes.length).map (fun c => homes.getD c 0) = homes := by
  refine List.ext_getElem? fun i => ?_
  rw [List.getElem?_map]
  by_cases h : i < homes.length
  · rw [List.getElem?_range h, List.getElem?_eq_getElem h]
    show some (homes.getD i 0) = _
    rw [KM.getD_at h]
  · rw [List.getElem?_eq_none (by rw [List.length_range]; omega), List.getElem?_eq_none (by omega)]
    rfl
theorem free_place {size : Int} {homes : List Int} (S : StreetOk size homes) {cs : List Nat} (pm : cs.Perm (List.range homes.length)) (od : cs.Pairwise fun c d => homes.getD d 0 ≤ homes.getD c 0) {i c : Nat} (hc : cs[i]? = some c)
    {P : List Int} (hP : P.length = i) : ∃ p : Int, homes.getD c 0 ≤ p ∧ p < size ∧ p ∉ P := by
  have hil : i < cs.length := (List.getElem?_eq_some_iff.mp hc).1
  have hcn : c < homes.length := List.mem_range.mp (pm.mem_iff.mp (List.mem_of_getElem? hc))
  have hcm : homes.getD c 0 ∈ homes := by
    rw [KM.getD_at hcn]
    exact List.getElem_mem _
  obtain ⟨b1, b2⟩ := S.h1 _ hcm
  have room := S.room (homes.getD c 0) b1 (by omega)
  have ph : (cs.map fun c => homes.getD c 0).Perm homes := by
    have := pm.map fun c => homes.getD c 0
    rw [map_getD] at this
    exact this
  rw [← (ph.filter fun x => decide (homes.getD c 0 ≤ x)).length_eq] at room
  have sub : ((cs.map fun c => homes.getD c 0).take (i + 1)).filter (fun x => decide (homes.getD c 0 ≤ x)) = (cs.map fun c => homes.getD c 0).take (i + 1) := by
    rw [List.filter_eq_self]
    intro x hx
    rw [← List.map_take, take_snoc hc, List.map_append] at hx
    refine decide_eq_true ?_
    rcases List.mem_append.mp hx with hx | hx
    · obtain ⟨d, hd, rfl⟩ := List.mem_map.mp hx
      obtain ⟨j, hj⟩ := List.getElem?_of_mem hd
      have hjl : j < (cs.take i).length := (List.getElem?_eq_some_iff.mp hj).1
      rw [List.length_take] at hjl
      rw [List.getElem?_take, if_pos (by omega)] at hj
      have h1 := List.pairwise_iff_getElem.mp od j i (by omega) hil (by omega)
      rw [(List.getElem?_eq_some_iff.mp hj).2, (List.getElem?_eq_some_iff.mp hc).2] at h1
      exact h1
    · have e : x = homes.getD c 0 := by simpa using hx
      rw [e]
      exact Int.le_refl _
  have cnt : i + 1 ≤ ((cs.map fun c => homes.getD c 0).filter fun x => decide (homes.getD c 0 ≤ x)).length := by
    have h1 := ((List.take_sublist (i + 1) (cs.map fun c => homes.getD c 0)).filter fun x => decide (homes.getD c 0 ≤ x)).length_le
    rw [sub, List.length_take, List.length_map] at h1
    omega
  refine Classical.byContradiction fun no => ?_
  have all : ∀ p : Int, homes.getD c 0 ≤ p → p < size → p ∈ P := fun p h1 h2 => Classical.byContradiction fun h => no ⟨p, h1, h2, h⟩
  generalize homes.getD c 0 = h at *
  have nd : ((List.range (size - h).toNat).map fun j : Nat => h + (j : Int)).Nodup := by
    show List.Pairwise (· ≠ ·) _
    rw [List.pairwise_map]
    refine List.Pairwise.imp ?_ (List.nodup_range (n := (size - h).toNat))
    intro a b ne e
    exact ne (by omega)
  have le := nd.length_le_of_subset (l₂ := P) fun x hx => by
    obtain ⟨j, hj, rfl⟩ := List.mem_map.mp hx
    have := List.mem_range.mp hj
    exact all _ (by omega) (by omega)
  rw [List.length_map, List.length_range] at le
  omega
theorem set_range {β : Type} (f : Nat → β) (v : β) (n c : Nat) : ((List.range n).map f).set c v = (List.range n).map fun d => if d = c then v else f d := by
  refine List.ext_getElem? fun i => ?_
  rw [List.getElem?_set, List.length_map, List.length_range, List.getElem?_map, List.getElem?_map]
  by_cases h : i < n
  · rw [List.getElem?_range h]
    by_cases e : c = i
    · rw [if_pos e, if_pos (by omega)]
      show _ = some (if i = c then v else f i)
      rw [if_pos e.symm]
    · rw [if_neg e]
      show _ = some (if i = c then v else f i)
      rw [if_neg fun z => e z.symm]
      rfl
  · rw [List.getElem?_eq_none (by rw [List.length_range]; omega)]
    by_cases e : c = i
    · rw [if_pos e, if_neg (by omega)]
      rfl
    · rw [if_neg e]
      rfl
/-- what stands in the list of the places: none yet, or an int -/
def ov : Option Int → V
  | none => .non
  | some x => .int x
theorem rep_none (n : Nat) : (List.replicate n [V.non]).flatten = (List.range n).map fun c => ov none := by
  rw [List.flatten_replicate_singleton]
  refine List.ext_getElem? fun i => ?_
  rw [List.getElem?_replicate, List.getElem?_map]
  by_cases h : i < n
  · rw [if_pos h, List.getElem?_range h]
    rfl
  · rw [if_neg h, List.getElem?_eq_none (by rw [List.length_range]; omega)]
    rfl
theorem ixN_c {n c : Nat} (h : c < n) : ixN n (c : Int) = some c := by
  unfold ixN
  rw [if_pos (by omega), if_pos (by omega)]
  rfl
theorem ov_flat (n : Nat) (g : Nat → Option Int) : ((List.range n).map fun c => ov (g c)).all flatV = true := by
  rw [List.all_eq_true]
  intro x hx
  obtain ⟨c, _, rfl⟩ := List.mem_map.mp hx
  cases g c <;> rfl
theorem ov_in (n : Nat) (g : Nat → Option Int) (x : Int) : inV (.int x) ((List.range n).map fun c => ov (g c)) = true ↔ ∃ c, c < n ∧ g c = some x := by
  unfold inV
  rw [List.any_map, List.any_eq_true]
  constructor
  · rintro ⟨c, hc, e⟩
    refine ⟨c, List.mem_range.mp hc, ?_⟩
    have e : eqV (ov (g c)) (.int x) = true := e
    cases q : g c with
    | none => rw [q] at e; cases e
    | some y =>
      rw [q] at e
      have e : eqV (.int y) (.int x) = true := e
      rw [eqV_int, beq_iff_eq] at e
      rw [e]
  · rintro ⟨c, hc, e⟩
    refine ⟨c, List.mem_range.mpr hc, ?_⟩
    show eqV (ov (g c)) (.int x) = true
    rw [e]
    show eqV (.int x) (.int x) = true
    rw [eqV_int, beq_iff_eq]
/-- the two ints of a pair in the heap -/
def prOf (H : Hp) : V → Int × Int
  | .ref t => match H t with
    | some (.tup [.int a, .int b]) => (a, b)
    | _ => (0, 0)
  | _ => (0, 0)
theorem prOf_at {H : Hp} {t : Addr} {a b : Int} (e : H t = some (.tup [.int a, .int b])) : prOf H (.ref t) = (a, b) := by
  simp only [prOf, e]
theorem scLState : FnScope ["_law_row", "_law_street_here", "_law_found", "_law_home", "_law_car", "_law_fit", "_law_place"] ["_law_row", "_law_street_here"] (defScope sLState) := ⟨rfl, rfl, rfl, by decide +kernel, rfl, by decide +kernel, by decide +kernel⟩
def spLState (K : PySem.W.Frag) : Sp := fun vs H Q _ => ∃ (H0 : Hp) (r a h : Addr) (size : Int) (homes : List Int), vs = [.ref r, .ref a] ∧ RowOk K H0 H r ∧ Street H a h size homes ∧ StreetOk size homes ∧
  ∀ (p : Addr) (st : List Int) (H' : Hp), SameBut r H H' → H' p = some (.tup (st.map V.int)) → Drawn size homes st → Q (.ref p) H'
theorem ok_lstate {f fP fD : Addr} {fd fdP fdD : FuncData} (F : Fun K "_law_state" "_law_state" sLState f fd) (FP : Fun K "_law_pick" "_law_pick" sPick fP fdP) (bP : Binds K fdP ["_law_row", "_law_things"] []) (gP : mg "_law_pick" = some (.ref fP))
    (FD : Fun K "_law_taken" "_law_taken" sDraw fD fdD) (bD : Binds K fdD ["_law_row", "_law_many"] []) (gD : mg "_law_taken" = some (.ref fD)) (T : Txt mg) :
    FnOk P w K mg base CX0 3 f fd ["_law_row", "_law_street_here"] (spLState K) := by
  have GP : FnOk P w K mg base CX0 2 fP fdP ["_law_row", "_law_things"] (spPick K) := ok_pick FP FD bD gD T
  refine F.ok scLState (fun vs H Q E h => ?_) (fun cdv A outer s H vs Q E hr h => ?_)
  · obtain ⟨H0, r, a, h, size, homes, rfl, _⟩ := h
    rfl
  · obtain ⟨H0, r, a, h, size, homes, rfl, R, S, O, q⟩ := h
    refine ⟨_, (pss_cons (ps_set (i := 2) scLState.nd rfl (Or.inr rfl) (pe_op op_rep (pe_lst (pa_cons pe_non pa_nil)) (pe_callB call_len_seq (by rfl) T.len bLen (pa_cons (pe_ix ix_tup (pv 1) pe_int (fun _ _ => rfl)) pa_nil))))
        (pss_cons (ps_for PassesOwn.never rfl (pi_list (pe_callB cr_sortedPO (by rfl) T.sorted bSorted (pa_cons (pe_lcE (own := [("_law_car", 4)]) (g := (gName 4)) rfl scLState.nd (pi_range1 (by rfl) T.range (pa_cons (pe_callB call_len_seq (by rfl) T.len bLen (pa_cons (pv 2) pa_nil)) pa_nil)) (blkOk_by (N := ["_law_row", "_law_street_here", "_law_found", "_law_home", "_law_car", "_law_fit", "_law_place"]) (sc := defScope sLState) (by decide +kernel)) (fun _ _ _ _ _ => (pg_name (i := 4) scLState.nd rfl (Or.inl rfl))) (fun _ _ _ _ _ => pts_nil) (fun _ _ _ _ _ => (pe_tup (pa_cons (pe_op op_sub pe_int (pe_ix ix_tup (pe_ix ix_tup (pv 1) pe_int (fun _ _ => rfl)) (pv 4) (fun _ _ => rfl))) (pa_cons (pv 4) pa_nil))))) pa_nil))) (pg_tup rfl (pgs_cons (pg_name (i := 3) scLState.nd rfl (Or.inl rfl)) (pgs_cons (pg_name (i := 4) scLState.nd rfl (Or.inl rfl)) pgs_nil))) (pss_cons (ps_setLcE (i := 5) (own := [("_law_place", 6)]) (g := (gName 6)) rfl scLState.nd rfl rfl (sw_true rfl rfl rfl (by decide +kernel)) (pi_range2 (by rfl) T.range (pa_cons (pe_ix ix_tup (pe_ix ix_tup (pv 1) pe_int (fun _ _ => rfl)) (pv 4) (fun _ _ => rfl)) (pa_cons (pe_ix ix_tup (pv 1) pe_int (fun _ _ => rfl)) pa_nil))) (blkOk_by (N := ["_law_row", "_law_street_here", "_law_found", "_law_home", "_law_car", "_law_fit", "_law_place"]) (sc := defScope sLState) (by decide +kernel)) (fun _ _ _ _ _ => (pg_name (i := 6) scLState.nd rfl (Or.inl rfl))) (fun _ _ _ _ _ => (pts_one (pt_cmpR op_notIn_seq (pv 6) (pv 2) (by rfl)))) (fun _ _ _ _ _ => (pv 6)))
        (pss_one (ps_asg (pe_call GP hr (by rfl) gP FP.kp bP .nil pass0 (pa_cons (pv 0) (pa_cons (pv 5) pa_nil))) (pg_sub (pv 2) (pv 4) set_list)))))
        (pss_one (ps_ret (pe_callTy call_tuple_of (by rfl) T.tuple bTuple (pa_cons (pv 2) pa_nil)))))), ?_⟩
    obtain ⟨s1, s2, n1, n2, h1, room⟩ := O
    have O : StreetOk size homes := ⟨s1, s2, n1, n2, h1, room⟩
    -- found = [None] * len(street[1])
    refine ⟨by show 1 ≤ sizeLine; decide, fun o no => ?_⟩
    have so : Same H (upd H o (.lst [V.non])) := same_upd no
    refine ⟨_, rfl, a, _, 1, .ref h, rfl, rfl, SqT.of (so _ _ S.at_), atI_nat (j := 1) rfl, h, _, rfl, .inr (SqT.of (so _ _ S.hs)), o, _, _, rfl, rfl, upd_same, ?_, ?_, ?_, fun fp nfp => ?_⟩
    · rw [List.length_map]; omega
    · rw [List.length_map]; omega
    · rw [List.length_map, Int.toNat_natCast]
      exact le_line (by simp only [List.length_cons, List.length_nil]; omega)
    rw [List.length_map, Int.toNat_natCast, rep_none]
    have s2' : Same (upd H o (.lst [V.non])) (upd (upd H o (.lst [V.non])) fp (.lst ((List.range homes.length).map fun c => ov none))) := same_upd nfp
    have ef : (upd (upd H o (.lst [V.non])) fp (.lst ((List.range homes.length).map fun c => ov none))) fp = some (.lst ((List.range homes.length).map fun c => ov none)) := upd_same
    have nf1 : H fp = none := so.free nfp
    generalize upd (upd H o (.lst [V.non])) fp (.lst ((List.range homes.length).map fun c => ov none)) = H2 at s2' ef
    have sH2 : Same H H2 := so.trans s2'
    -- the pairs
    refine ⟨_, rfl, fp, _, rfl, .inl (SqL.of ef), _, rfl, by rw [List.length_map, List.length_range]; omega, by rw [List.length_map, List.length_range]; omega, fun D nD => lc_range (lo := 0) (n := _)
      (fun i H' => ∃ as : List Addr, SameBut D (upd H2 D (.lst [])) H' ∧ H' D = some (.lst (as.map V.ref)) ∧ as.length = i ∧ ∀ c t, as[c]? = some t → H' t = some (.tup [.int (0 - homes.getD c 0), .int (c : Int)]))
      ⟨[], sb_refl, upd_same, rfl, fun c t e => by simp at e⟩ ?_ ?_⟩
    · rintro i H3 hi ⟨as, sb, eD, al, at_⟩
      rw [List.length_map, List.length_range, Int.toNat_natCast] at hi
      have up : ∀ z u, H z = some u → H3 z = some u := fun z u e => sb z u (same_upd nD z u (sH2 z u e)) (ne_of_none (sH2 z u e) nD)
      refine ⟨rfl, ?_⟩
      refine ⟨_, rfl, a, _, 1, .ref h, rfl, rfl, SqT.of (up _ _ S.at_), atI_nat (j := 1) rfl, _, rfl, h, _, _, .int homes[i], rfl, rfl, SqT.of (up _ _ S.hs), ?_, _, _, rfl, rfl, _, rfl, by show 2 ≤ sizeLine; decide, fun t nt => ?_⟩
      · rw [Int.zero_add]
        exact atI_nat (map_get (List.getElem?_eq_getElem hi))
      · have st3 : Same H3 (upd H3 t (.tup [.int (0 - homes[i]), .int (0 + (i : Int))])) := same_upd nt
        refine ⟨_, st3 _ _ eD, lt_line (by rw [List.length_map]; omega), as ++ [t], sb_upd (sb_same sb st3), by rw [upd_same, List.map_append] <;> rfl, by rw [List.length_append, al] <;> rfl, fun c t' e => ?_⟩
        have nt' : ∀ x xs, (upd H3 t (.tup [.int (0 - homes[i]), .int (0 + (i : Int))])) x = some (.tup xs) → x ≠ D := fun x xs e => ne_of e (st3 _ _ eD) (by intro z; cases z)
        by_cases hc : c < as.length
        · rw [List.getElem?_append_left hc] at e
          have := st3 _ _ (at_ c t' e)
          rw [upd_ne (nt' _ _ this)]
          exact this
        · have hcl : c < (as ++ [t]).length := (List.getElem?_eq_some_iff.mp e).1
          rw [List.length_append, List.length_cons, List.length_nil] at hcl
          have hci : c = as.length := by omega
          rw [hci, List.getElem?_append_right (Nat.le_refl _), Nat.sub_self] at e
          cases e
          have : (upd H3 t (.tup [.int (0 - homes[i]), .int (0 + (i : Int))])) t = some (.tup [.int (0 - homes[i]), .int (0 + (i : Int))]) := upd_same
          rw [upd_ne (nt' _ _ this), this, hci, al, KM.getD_at hi, Int.zero_add]
    · rintro H3 ⟨as, sb, eD, al, at_⟩
      rw [List.length_map, List.length_range, Int.toNat_natCast] at al
      have s3 : Same H2 H3 := same_new nD sb
      have pr : ∀ x ∈ as.map V.ref, ∃ t c, x = V.ref t ∧ c < homes.length ∧ as[c]? = some t ∧ H3 t = some (.tup [.int (0 - homes.getD c 0), .int (c : Int)]) := fun x hx => by
        obtain ⟨t, ht, rfl⟩ := List.mem_map.mp hx
        obtain ⟨c, e⟩ := List.getElem?_of_mem ht
        exact ⟨t, c, rfl, by rw [← al]; exact (List.getElem?_eq_some_iff.mp e).1, e, at_ c t e⟩
      refine ⟨D, _, prOf H3, rfl, SqL.of eD, fun x hx => ?_, fun ys L srt stb nL => ?_⟩
      · obtain ⟨t, c, rfl, _, _, e⟩ := pr x hx
        exact ⟨t, rfl, by rw [prOf_at e]; exact e⟩
      have pm : (ys.map fun y => (prOf H3 y).2.toNat).Perm (List.range homes.length) := by
        have e : (as.map V.ref).map (fun y => (prOf H3 y).2.toNat) = List.range homes.length := by
          refine List.ext_getElem? fun c => ?_
          rw [List.getElem?_map, List.getElem?_map]
          by_cases hc : c < homes.length
          · have hca : c < as.length := by omega
            rw [List.getElem?_eq_getElem hca, List.getElem?_range hc]
            show some ((prOf H3 (V.ref as[c])).2.toNat) = some c
            rw [prOf_at (at_ c as[c] (List.getElem?_eq_getElem hca))]
            rfl
          · rw [List.getElem?_eq_none (by omega), List.getElem?_eq_none (by rw [List.length_range]; omega)]
            rfl
        have := stb.perm.map fun y => (prOf H3 y).2.toNat
        rw [e] at this
        exact this
      have yat : ∀ y ∈ ys, ∃ t c, y = V.ref t ∧ c < homes.length ∧ H3 t = some (.tup [.int (0 - homes.getD c 0), .int (c : Int)]) ∧ prOf H3 y = (0 - homes.getD c 0, (c : Int)) := fun y hy => by
        obtain ⟨t, c, e, hc, _, et⟩ := pr y (stb.perm.mem_iff.mp hy)
        exact ⟨t, c, e, hc, et, by rw [e]; exact prOf_at et⟩
      have od : (ys.map fun y => (prOf H3 y).2.toNat).Pairwise fun c d => homes.getD d 0 ≤ homes.getD c 0 := by
        rw [List.pairwise_map]
        refine List.Pairwise.imp_of_mem ?_ srt
        intro x y hx hy e
        obtain ⟨t, c, _, _, _, e1⟩ := yat x hx
        obtain ⟨u, d, _, _, _, e2⟩ := yat y hy
        have e := SrtO.lexB_no.mp e
        rw [e1, e2] at e ⊢
        show homes.getD (Int.toNat (d : Int)) 0 ≤ homes.getD (Int.toNat (c : Int)) 0
        rw [Int.toNat_natCast, Int.toNat_natCast]
        dsimp only at e
        omega
      generalize hcs : (ys.map fun y => (prOf H3 y).2.toNat) = cs at pm od
      have yl : ys.length = homes.length := by
        have := pm.length_eq
        rw [← hcs, List.length_map, List.length_range] at this
        exact this
      have sL : Same H3 (upd H3 L (.lst ys)) := same_upd nL
      have eL : (upd H3 L (.lst ys)) L = some (.lst ys) := upd_same
      generalize upd H3 L (.lst ys) = Hs at sL eL
      have sHs : Same H Hs := (sH2.trans s3).trans sL
      have Rs := R.same sHs
      have efs : Hs fp = _ := sL _ _ (s3 _ _ ef)
      have nrf : r ≠ fp := by
        obtain ⟨xs, e⟩ := R.lst
        exact ne_of_none e nf1
      have nLf : L ≠ fp := (ne_of_none (s3 _ _ ef) nL).symm
      have nLr : L ≠ r := by
        obtain ⟨xs, e⟩ := R.lst
        exact (ne_of_none (s3 _ _ (sH2 _ _ e)) nL).symm
      have nf0 : H0 fp = none := R.free nf1
      have tup_ne : ∀ x xs, Hs x = some (.tup xs) → x ≠ r ∧ x ≠ fp := fun x xs e => by
        obtain ⟨zs, er⟩ := Rs.lst
        exact ⟨ne_of e er (by intro z; cases z), ne_of e efs (by intro z; cases z)⟩
      refine ⟨L, rfl, ⟨_, SqL.of eL⟩, for_list (K := K) (a := L) (xs := ys)
        (fun i σ H' => ∃ (g : Nat → Option Int) (v3 v4 v5 : Option V), σ = [some (.ref r), some (.ref a), some (.ref fp), v3, v4, v5, none] ∧ RowOk K H0 H' r ∧ (∀ b o, Hs b = some o → b ≠ r → b ≠ fp → H' b = some o) ∧
          H' fp = some (.lst ((List.range homes.length).map fun c => ov (g c))) ∧ (∀ c, (∃ p, g c = some p) ↔ c ∈ cs.take i) ∧ (∀ c p, g c = some p → homes.getD c 0 ≤ p ∧ p ≤ size - 1) ∧ ∀ c d p, g c = some p → g d = some p → c = d)
        ⟨fun _ => none, _, _, _, rfl, Rs, fun b o e _ _ => e, efs, fun c => ⟨fun ⟨p, e⟩ => (by cases e), fun e => (by simp at e)⟩, fun c p e => (by cases e), fun c d p e => (by cases e)⟩ (fun i σ H' _ hx => ?_) ?_ ?_⟩
      · obtain ⟨_, _, _, _, _, _, kp, _⟩ := hx
        exact SqL.of (kp _ _ eL nLr nLf)
      · rintro i y σ H4 hy ⟨g, v3, v4, v5, rfl, R4, kp, ef4, gs, gb, gi⟩
        obtain ⟨t, c, rfl, hcn, et, ep⟩ := yat y (List.mem_of_getElem? hy)
        have hc : cs[i]? = some c := by
          rw [← hcs, List.getElem?_map, hy]
          show some (prOf H3 (V.ref t)).2.toNat = some c
          rw [ep]
          rfl
        have kpt : ∀ x xs, Hs x = some (.tup xs) → H4 x = some (.tup xs) := fun x xs e => kp x _ e (tup_ne x xs e).1 (tup_ne x xs e).2
        have et4 := kpt _ _ (sL _ _ et)
        have ea4 := kpt _ _ (sHs _ _ S.at_)
        have eh4 := kpt _ _ (sHs _ _ S.hs)
        refine ⟨t, _, rfl, SqT.of et4, rfl, _, _, rfl, _, _, rfl, rfl, ?_⟩
        have hgd : homes.getD c 0 = homes[c] := KM.getD_at hcn
        obtain ⟨lo0, hi0⟩ := h1 _ (List.getElem_mem hcn)
        obtain ⟨p0, p1, p2, p3⟩ := free_place O pm od hc (P := (cs.take i).map fun c => (g c).getD 0) (by
          rw [List.length_map, List.length_take]
          have := (List.getElem?_eq_some_iff.mp hc).1
          omega)
        rw [hgd] at p1
        -- fit = [place for place in range(street[1][car], street[0]) if place not in found]
        refine ⟨_, rfl, a, _, 1, .ref h, rfl, rfl, SqT.of ea4, atI_nat (j := 1) rfl, _, rfl, h, _, _, .int homes[c], rfl, rfl, SqT.of eh4, atI_nat (map_get (List.getElem?_eq_getElem hcn)), _, rfl, a, _, 0, .int size, rfl, rfl, SqT.of ea4, atI_nat (j := 0) rfl,
          _, _, rfl, ⟨by omega, by omega, by omega, by omega⟩, fun D2 nD2 => lc_range (lo := homes[c]) (n := (size - homes[c]).toNat)
          (fun j H' => SameBut D2 (upd H4 D2 (.lst [])) H' ∧ H' D2 = some (.lst ((((List.range j).map fun k : Nat => homes[c] + (k : Int)).filter fun x => !inV (.int x) ((List.range homes.length).map fun c => ov (g c))).map V.int)))
          ⟨sb_refl, upd_same⟩ ?_ ?_⟩
        · rintro j H5 hj ⟨sb5, eD5⟩
          have ef5 : H5 fp = _ := sb5 _ _ (same_upd nD2 _ _ ef4) (ne_of_none ef4 nD2)
          refine ⟨rfl, ?_⟩
          refine ⟨_, rfl, _, rfl, fp, _, rfl, .inl (SqL.of ef5), rfl, ov_flat _ _, !(inV (.int (homes[c] + (j : Int))) ((List.range homes.length).map fun c => ov (g c))), rfl, ite2 (fun e => ?_) (fun e => ?_)⟩
          · refine ⟨_, rfl, _, eD5, lt_line ?_, sb_upd sb5, ?_⟩
            · rw [List.length_map]
              refine Nat.le_trans (List.length_filter_le _ _) ?_
              rw [List.length_map, List.length_range]
              omega
            · rw [upd_same, List.range_succ, List.map_append, List.filter_append, List.map_append]
              show _ = some (HO.lst (_ ++ List.map V.int (List.filter _ [homes[c] + (j : Int)])))
              rw [List.filter_cons, if_pos e]
              rfl
          · refine ⟨sb5, ?_⟩
            rw [List.range_succ, List.map_append, List.filter_append]
            show H5 D2 = some (HO.lst (List.map V.int (_ ++ List.filter _ [homes[c] + (j : Int)])))
            rw [List.filter_cons, if_neg e, List.filter_nil, List.append_nil]
            exact eD5
        · rintro H5 ⟨sb5, eD5⟩
          have s5 : Same H4 H5 := same_new nD2 sb5
          have R5 := R4.same s5
          generalize hfit : (((List.range (size - homes[c]).toNat).map fun k : Nat => homes[c] + (k : Int)).filter fun x => !inV (.int x) ((List.range homes.length).map fun c => ov (g c))) = fit at eD5
          have memf : ∀ x : Int, x ∈ fit ↔ (homes[c] ≤ x ∧ x < size) ∧ ∀ d, d < homes.length → g d ≠ some x := fun x => by
            rw [← hfit, List.mem_filter]
            constructor
            · rintro ⟨m1, m2⟩
              obtain ⟨k, hk, rfl⟩ := List.mem_map.mp m1
              have := List.mem_range.mp hk
              refine ⟨⟨by omega, by omega⟩, fun d hd e => ?_⟩
              rw [(ov_in homes.length g _).mpr ⟨d, hd, e⟩] at m2
              cases m2
            · rintro ⟨⟨m1, m2⟩, m3⟩
              refine ⟨List.mem_map.mpr ⟨(x - homes[c]).toNat, List.mem_range.mpr (by omega), by omega⟩, ?_⟩
              cases q : inV (.int x) ((List.range homes.length).map fun c => ov (g c)) with
              | false => rfl
              | true =>
                obtain ⟨d, hd, e⟩ := (ov_in homes.length g x).mp q
                exact absurd e (m3 d hd)
          have fl : 1 ≤ fit.length := List.length_pos_of_mem ((memf p0).mpr ⟨⟨p1, p2⟩, fun d hd e => p3 (List.mem_map.mpr ⟨d, (gs d).mp ⟨_, e⟩, by rw [e] <;> rfl⟩)⟩)
          have fl2 : fit.length ≤ 10 := by
            rw [← hfit]
            refine Nat.le_trans (List.length_filter_le _ _) ?_
            rw [List.length_map, List.length_range]
            omega
          have nDr : D2 ≠ r := by
            obtain ⟨xs, e⟩ := R4.lst
            exact (ne_of_none e nD2).symm
          -- found[car] = pick(row, fit)
          refine ⟨_, rfl, _, rfl, H0, r, D2, fit, rfl, R5, eD5, nDr, fl, fl2, fun x H6 hx sb6 R6 => ?_⟩
          obtain ⟨⟨x1, x2⟩, x3⟩ := (memf x).mp hx
          have ef6 : H6 fp = _ := sb6 _ _ (s5 _ _ ef4) nrf.symm
          have gc : ∀ q, g c ≠ some q := fun q e => by
            have hm := (gs c).mp ⟨q, e⟩
            have nd : cs.Nodup := pm.nodup_iff.mpr List.nodup_range
            obtain ⟨j, hj⟩ := List.getElem?_of_mem hm
            have hjl : j < (cs.take i).length := (List.getElem?_eq_some_iff.mp hj).1
            rw [List.length_take] at hjl
            rw [List.getElem?_take, if_pos (by omega)] at hj
            have e1 := (List.getElem?_eq_some_iff.mp hj).2
            have e2 := (List.getElem?_eq_some_iff.mp hc).2
            have hil := (List.getElem?_eq_some_iff.mp hc).1
            exact List.pairwise_iff_getElem.mp nd j i (by omega) hil (by omega) (e1.trans e2.symm)
          refine ⟨_, rfl, _, rfl, fp, _, (c : Int), c, rfl, rfl, ef6, ixN_c (by rw [List.length_map, List.length_range]; exact hcn), ?_⟩
          refine ⟨fun d => if d = c then some x else g d, _, _, _, rfl, R6.but nrf nf0 (sb_upd sb_refl), fun b o e n1 n2 => ?_, ?_, fun d => ?_, fun d p e => ?_, fun d d' p e e' => ?_⟩
          · rw [upd_ne n2]
            exact sb6 _ _ (s5 _ _ (kp b o e n1 n2)) n1
          · rw [upd_same, set_range]
            congr 2
            refine List.map_congr_left fun d _ => ?_
            dsimp only
            by_cases z : d = c
            · rw [if_pos z, if_pos z]
              rfl
            · rw [if_neg z, if_neg z]
          · rw [take_snoc hc, List.mem_append, List.mem_singleton]
            dsimp only
            by_cases z : d = c
            · rw [if_pos z]
              exact ⟨fun _ => .inr z, fun _ => ⟨x, rfl⟩⟩
            · rw [if_neg z, gs d]
              exact ⟨fun k => .inl k, fun k => k.resolve_right z⟩
          · dsimp only at e
            by_cases z : d = c
            · rw [if_pos z] at e
              cases e
              rw [z, hgd]
              omega
            · rw [if_neg z] at e
              exact gb d p e
          · dsimp only at e e'
            have inn : ∀ u : Nat, g u = some x → False := fun u eu => by
              by_cases hu : u < homes.length
              · exact x3 u hu eu
              · have hm := (gs u).mp ⟨x, eu⟩
                have := List.mem_range.mp (pm.mem_iff.mp (List.mem_of_mem_take hm))
                omega
            by_cases z : d = c
            · by_cases z' : d' = c
              · rw [z, z']
              · rw [if_pos z] at e
                rw [if_neg z'] at e'
                cases e
                exact (inn d' e').elim
            · by_cases z' : d' = c
              · rw [if_neg z] at e
                rw [if_pos z'] at e'
                cases e'
                exact (inn d e).elim
              · rw [if_neg z] at e
                rw [if_neg z'] at e'
                exact gi d d' p e e'
      · rintro σ H4 ⟨g, v3, v4, v5, rfl, R4, kp, ef4, gs, gb, gi⟩
        have csl : cs.length = homes.length := by rw [pm.length_eq, List.length_range]
        rw [yl, ← csl, List.take_length] at gs
        have gall : ∀ c, c < homes.length → ∃ p, g c = some p := fun c hc => (gs c).mpr (pm.mem_iff.mpr (List.mem_range.mpr hc))
        have est : ((List.range homes.length).map fun c => ov (g c)) = ((List.range homes.length).map fun c => (g c).getD 0).map V.int := by
          rw [List.map_map]
          refine List.map_congr_left fun c hc => ?_
          obtain ⟨p, e⟩ := gall c (List.mem_range.mp hc)
          show ov (g c) = V.int ((g c).getD 0)
          rw [e]
          rfl
        rw [est] at ef4
        refine ⟨_, rfl, fp, _, rfl, .inl ⟨SqL.of ef4, fun p np => ?_⟩⟩
        refine q p _ _ (fun b o e nb => ?_) upd_same ⟨s1, s2, n1, n2, h1, room, ⟨by rw [List.length_map, List.length_range], ?_, fun i hi hi2 => ?_⟩, fun x hx => ?_⟩
        · exact same_upd np _ _ (kp b o (sHs b o e) nb (ne_of_none e nf1))
        · show List.Pairwise (· ≠ ·) _
          rw [List.pairwise_map]
          refine List.Pairwise.imp_of_mem ?_ (List.nodup_range (n := homes.length))
          intro c d hc hd ne e
          obtain ⟨p, e1⟩ := gall c (List.mem_range.mp hc)
          obtain ⟨p', e2⟩ := gall d (List.mem_range.mp hd)
          rw [e1, e2] at e
          have e : p = p' := e
          rw [e] at e1
          exact ne (gi c d _ e1 e2)
        · obtain ⟨p, e⟩ := gall i hi
          have := gb i p e
          rw [KM.getD_at hi] at this
          rw [List.getElem_map, List.getElem_range, e]
          exact this.1
        · obtain ⟨c, hc, rfl⟩ := List.mem_map.mp hx
          obtain ⟨p, e⟩ := gall c (List.mem_range.mp hc)
          rw [e]
          exact (gb c p e).2
end
end KW
namespace KW
open PySem PySem.Spec PyProof.Rows L2 KR
section
variable {P : Program} {w : World} {K : PySem.W.Frag} {mg : Str → Option Value} {base : Heap}
/-! ### alike: ints, tuples and lists of alikes -/
/-- a list of alikes, a tuple of alikes -/
structure SeqAlk (A : V → V → Prop) (xs ys : List V) : Prop where
  len : xs.length = ys.length
  le : ys.length ≤ 100000
  at_ : ∀ (i : Nat) (x y : V), xs[i]? = some x → ys[i]? = some y → A x y
def Alk : Nat → Hp → V → V → Prop
  | 0, _, x, y => ∃ i : Int, x = .int i ∧ y = .int i
  | n + 1, H, x, y => (∃ i : Int, x = .int i ∧ y = .int i) ∨ ∃ (a b : Addr) (xs ys : List V), x = .ref a ∧ y = .ref b ∧ ((H a = some (.lst xs) ∧ H b = some (.lst ys)) ∨ (H a = some (.tup xs) ∧ H b = some (.tup ys))) ∧ SeqAlk (Alk n H) xs ys
theorem Alk.same : ∀ {n : Nat} {H H' : Hp} {x y : V}, Alk n H x y → Same H H' → Alk n H' x y
  | 0, _, _, _, _, h, _ => h
  | n + 1, _, _, _, _, h, s => by
    rcases h with h | ⟨a, b, xs, ys, e1, e2, h, q⟩
    · exact .inl h
    · refine .inr ⟨a, b, xs, ys, e1, e2, ?_, q.len, q.le, fun i x y h1 h2 => (q.at_ i x y h1 h2).same s⟩
      rcases h with ⟨h1, h2⟩ | ⟨h1, h2⟩
      · exact .inl ⟨s _ _ h1, s _ _ h2⟩
      · exact .inr ⟨s _ _ h1, s _ _ h2⟩
def spAlk (n : Nat) : Sp := fun vs H Q _ => ∃ x y : V, vs = [x, y] ∧ Alk n H x y ∧ ∀ H', Same H H' → Q (.bl true) H'
def spAlkR : Nat → Sp
  | 0 => fun _ _ _ _ => False
  | n + 1 => spAlk n
theorem Alk.kinds {n : Nat} {H : Hp} {x y : V} (h : Alk n H x y) : (∃ i : Int, x = .int i ∧ y = .int i) ∨ ∃ (m : Nat) (a b : Addr) (xs ys : List V), n = m + 1 ∧ x = .ref a ∧ y = .ref b ∧ ((H a = some (.lst xs) ∧ H b = some (.lst ys)) ∨ (H a = some (.tup xs) ∧ H b = some (.tup ys))) ∧ SeqAlk (Alk m H) xs ys := by
  cases n with
  | zero => exact .inl h
  | succ n =>
    rcases h with h | ⟨a, b, xs, ys, q⟩
    · exact .inl h
    · exact .inr ⟨n, a, b, xs, ys, rfl, q⟩
theorem kitT_int : PySem.W.kitAny K (.type "int") [.type "tuple", .type "list"] = some false := kitAny_cons (b := false) (kit_ty (by decide +kernel)) (fun _ => kitAny_cons (b := false) (kit_ty (by decide +kernel)) (fun _ => kitAny_nil) (fun z => by cases z)) (fun z => by cases z)
theorem kitT_tup : PySem.W.kitAny K (.type "tuple") [.type "tuple", .type "list"] = some true := kitAny_cons (b := true) (kit_ty (by decide +kernel)) (fun z => by cases z) (fun _ => rfl)
theorem kitT_lst : PySem.W.kitAny K (.type "list") [.type "tuple", .type "list"] = some true := kitAny_cons (b := false) (kit_ty (by decide +kernel)) (fun _ => kitAny_cons (b := true) (kit_ty (by decide +kernel)) (fun z => by cases z) (fun _ => rfl)) (fun z => by cases z)
theorem scAlike : FnScope ["_law_found", "_law_due", "_law_k"] ["_law_found", "_law_due"] (defScope sAlike) := ⟨rfl, rfl, rfl, by decide +kernel, rfl, by decide +kernel, by decide +kernel⟩
theorem alike_step {f : Addr} {fd : FuncData} (F : Fun K "_law_alike" "_law_alike" sAlike f fd) (bA : Binds K fd ["_law_found", "_law_due"] []) (gA : mg "_law_alike" = some (.ref f)) (T : Txt mg) {n : Nat}
    (G : FnOk P w K mg base CX0 n f fd ["_law_found", "_law_due"] (spAlkR n)) : FnOk P w K mg base CX0 (n + 1) f fd ["_law_found", "_law_due"] (spAlk n) := by
  refine F.ok scAlike (fun vs H Q E h => ?_) (fun cdv A outer s H vs Q E hr h => ?_)
  · obtain ⟨x, y, rfl, _⟩ := h
    rfl
  · obtain ⟨x, y, rfl, al, q⟩ := h
    refine ⟨_, (pss_cons (ps_if (pt_val (pe_callB call_isiT (by rfl) T.isi bIsi (pa_cons (pv 1) (pa_cons (pe_tup (pa_cons (pe_bltn (v := .ty "tuple") (by rfl) T.tuple bTuple rfl) (pa_cons (pe_bltn (v := .ty "list") (by rfl) T.list bList rfl) pa_nil))) pa_nil)))) (pss_cons (ps_if (PW.pt (pw_or (pt_not (pt_val (pe_callB call_isiT (by rfl) T.isi bIsi (pa_cons (pv 0) (pa_cons (pe_tup (pa_cons (pe_bltn (v := .ty "tuple") (by rfl) T.tuple bTuple rfl) (pa_cons (pe_bltn (v := .ty "list") (by rfl) T.list bList rfl) pa_nil))) pa_nil))))) (pw_or1 (pt_cmpR op_ne (pe_callB call_isi (by rfl) T.isi bIsi (pa_cons (pv 0) (pa_cons (pe_bltn (v := .ty "list") (by rfl) T.list bList rfl) pa_nil))) (pe_callB call_isi (by rfl) T.isi bIsi (pa_cons (pv 1) (pa_cons (pe_bltn (v := .ty "list") (by rfl) T.list bList rfl) pa_nil))) (nomark _))))) (pss_one (ps_ret pe_bl)) pss_nil)
        (pss_cons (ps_if (pt_cmpR op_ne (pe_callB call_len_seq (by rfl) T.len bLen (pa_cons (pv 0) pa_nil)) (pe_callB call_len_seq (by rfl) T.len bLen (pa_cons (pv 1) pa_nil)) (nomark _)) (pss_one (ps_ret pe_bl)) pss_nil)
        (pss_one (ps_ret (pe_cmpR (op_eqD hr.units) (pe_lcE (own := [("_law_k", 2)]) (g := (gName 2)) rfl scAlike.nd (pi_range1 (by rfl) T.range (pa_cons (pe_callB call_len_seq (by rfl) T.len bLen (pa_cons (pv 1) pa_nil)) pa_nil)) (blkOk_by (N := ["_law_found", "_law_due", "_law_k"]) (sc := defScope sAlike) (by decide +kernel)) (fun _ _ _ _ _ => (pg_name (i := 2) scAlike.nd rfl (Or.inl rfl))) (fun _ _ _ _ _ => (pts_one (pt_not (pt_val (pe_call G hr (by rfl) gA F.kp bA .nil pass0 (pa_cons (pe_ix ix_seq (pv 0) (pv 2) (fun _ _ => rfl)) (pa_cons (pe_ix ix_seq (pv 1) (pv 2) (fun _ _ => rfl)) pa_nil))))))) (fun _ _ _ _ _ => (pv 2))) (pe_lst pa_nil) (nomark _)))))) pss_nil)
        (pss_cons (ps_if (PW.pt (pw_or (pt_cmp (pc_isN (pv 1))) (pw_or1 (pt_val (pe_callB call_isi (by rfl) T.isi bIsi (pa_cons (pv 1) (pa_cons (pe_bltn (v := .ty "str") (by rfl) T.str bStr rfl) pa_nil))))))) (pss_one (ps_ret (pe_and (pe_cmpR op_eq (pv 0) (pv 1) (nomark _)) (pe_one (pe_cmpR op_eq (pe_callB call_isi (by rfl) T.isi bIsi (pa_cons (pv 0) (pa_cons (pe_bltn (v := .ty "str") (by rfl) T.str bStr rfl) pa_nil))) (pe_callB call_isi (by rfl) T.isi bIsi (pa_cons (pv 1) (pa_cons (pe_bltn (v := .ty "str") (by rfl) T.str bStr rfl) pa_nil))) (nomark _)))))) pss_nil)
        (pss_one (ps_ret (pe_and (pe_callB call_isi (by rfl) T.isi bIsi (pa_cons (pv 0) (pa_cons (pe_bltn (v := .ty "int") (by rfl) T.int bInt rfl) pa_nil))) (pe_and (pe_cmpR op_eq (pe_callB call_isi (by rfl) T.isi bIsi (pa_cons (pv 0) (pa_cons (pe_bltn (v := .ty "bool") (by rfl) T.bool bBool rfl) pa_nil))) (pe_callB call_isi (by rfl) T.isi bIsi (pa_cons (pv 1) (pa_cons (pe_bltn (v := .ty "bool") (by rfl) T.bool bBool rfl) pa_nil))) (nomark _)) (pe_one (pe_cmpR op_eq (pv 0) (pv 1) (nomark _))))))))), ?_⟩
    rcases al.kinds with ⟨i, rfl, rfl⟩ | ⟨m, a, b, xs, ys, rfl, rfl, rfl, kd, sa⟩
    · -- ints
      refine ⟨_, rfl, by show 2 ≤ sizeLine; decide, fun tp ntp => ⟨_, tp, _, _, _, false, rfl, upd_same, .cons (.ty _) (.cons (.ty _) .nil), .base (.int i), kitT_int, false, rfl, iteF ?_⟩⟩
      have s1 : Same H (upd H tp (.tup [.ty "tuple", .ty "list"])) := same_upd ntp
      generalize upd H tp (.tup [.ty "tuple", .ty "list"]) = H1 at s1
      -- due is None or isinstance(due, str)
      refine ⟨_, rfl, _, rfl, iteF ⟨_, rfl, .int i, .ty "str", .type "int", .type "str", false, rfl, .ty _, .base (.int i), kit_ty (by decide +kernel), false, rfl, iteF ?_⟩⟩
      -- isinstance(found, int) and isinstance(found, bool) == isinstance(due, bool) and found == due
      refine ⟨_, rfl, .int i, .ty "int", .type "int", .type "int", true, rfl, .ty _, .base (.int i), kit_ty (by decide +kernel), true, rfl, iteT ?_⟩
      refine ⟨_, rfl, .int i, .ty "bool", .type "int", .type "bool", false, rfl, .ty _, .base (.int i), kit_ty (by decide +kernel), ?_⟩
      refine ⟨_, rfl, .int i, .ty "bool", .type "int", .type "bool", false, rfl, .ty _, .base (.int i), kit_ty (by decide +kernel), rfl, true, rfl, iteT ?_⟩
      refine ⟨_, rfl, _, rfl, rfl, ?_⟩
      rw [decide_eq_true rfl]
      exact q _ s1
    · obtain ⟨t, bl, ka, kl, ta, tb, la, lb⟩ : ∃ (t : Value) (bl : Bool), PySem.W.kitAny K t [.type "tuple", .type "list"] = some true ∧ PySem.W.kitOne K t (.type "list") = some bl ∧
          (∀ H', Same H H' → TyX K H' (.ref a) t) ∧ (∀ H', Same H H' → TyX K H' (.ref b) t) ∧ (∀ H', Same H H' → SqL K H' a xs ∨ SqT K H' a xs) ∧ (∀ H', Same H H' → SqL K H' b ys ∨ SqT K H' b ys) := by
        rcases kd with ⟨h1, h2⟩ | ⟨h1, h2⟩
        · exact ⟨.type "list", true, kitT_lst, kit_ty (by decide +kernel), fun H' s => .base (.lst (s _ _ h1)), fun H' s => .base (.lst (s _ _ h2)), fun H' s => .inl (SqL.of (s _ _ h1)), fun H' s => .inl (SqL.of (s _ _ h2))⟩
        · exact ⟨.type "tuple", false, kitT_tup, kit_ty (by decide +kernel), fun H' s => .base (.tup (s _ _ h1)), fun H' s => .base (.tup (s _ _ h2)), fun H' s => .inr (SqT.of (s _ _ h1)), fun H' s => .inr (SqT.of (s _ _ h2))⟩
      have sl := sa.len
      have sle := sa.le
      have big : ((100000 : Nat) : Int) < 2 ^ 62 := by decide
      refine ⟨_, rfl, by show 2 ≤ sizeLine; decide, fun tp ntp => ⟨_, tp, _, _, _, true, rfl, upd_same, .cons (.ty _) (.cons (.ty _) .nil), tb _ (same_upd ntp), ka, true, rfl, iteT ?_⟩⟩
      have s1 : Same H (upd H tp (.tup [.ty "tuple", .ty "list"])) := same_upd ntp
      generalize upd H tp (.tup [.ty "tuple", .ty "list"]) = H1 at s1
      refine ⟨_, rfl, by show 2 ≤ sizeLine; decide, fun tp2 ntp2 => ⟨_, tp2, _, _, _, true, rfl, upd_same, .cons (.ty _) (.cons (.ty _) .nil), ta _ (s1.trans (same_upd ntp2)), ka, true, rfl, iteF ?_⟩⟩
      have s2 : Same H (upd H1 tp2 (.tup [.ty "tuple", .ty "list"])) := s1.trans (same_upd ntp2)
      generalize upd H1 tp2 (.tup [.ty "tuple", .ty "list"]) = H2 at s2
      refine ⟨_, rfl, _, _, t, .type "list", bl, rfl, .ty _, ta _ s2, kl, _, rfl, _, _, t, .type "list", bl, rfl, .ty _, tb _ s2, kl, rfl, false, by rw [decide_eq_true rfl] <;> rfl, iteF ?_⟩
      refine ⟨_, rfl, a, xs, rfl, la _ s2, _, rfl, b, ys, rfl, lb _ s2, rfl, false, by rw [sl, decide_eq_true rfl] <;> rfl, iteF ?_⟩
      refine ⟨_, rfl, b, ys, rfl, lb _ s2, _, rfl, by omega, by omega, fun D nD => lc_range (lo := 0) (n := _) (fun i H' => SameBut D (upd H2 D (.lst [])) H' ∧ H' D = some (.lst [])) ⟨sb_refl, upd_same⟩ ?_ ?_⟩
      · rintro i H3 hi ⟨sb, eD⟩
        rw [Int.toNat_natCast] at hi
        have s3 : Same H H3 := s2.trans (same_new nD sb)
        have hix : i < xs.length := by omega
        refine ⟨rfl, ?_⟩
        have ixa : ∀ Q' : VK, Q' xs[i] H3 → rIx K (.ref a) (.int (0 + (i : Int))) H3 Q' := fun Q' z => by
          rw [Int.zero_add]
          rcases la _ s3 with k | k
          · exact .inl ⟨a, xs, _, _, rfl, rfl, k, atI_nat (List.getElem?_eq_getElem hix), z⟩
          · exact .inr (.inl ⟨a, xs, _, _, rfl, rfl, k, atI_nat (List.getElem?_eq_getElem hix), z⟩)
        have ixb : ∀ Q' : VK, Q' ys[i] H3 → rIx K (.ref b) (.int (0 + (i : Int))) H3 Q' := fun Q' z => by
          rw [Int.zero_add]
          rcases lb _ s3 with k | k
          · exact .inl ⟨b, ys, _, _, rfl, rfl, k, atI_nat (List.getElem?_eq_getElem hi), z⟩
          · exact .inr (.inl ⟨b, ys, _, _, rfl, rfl, k, atI_nat (List.getElem?_eq_getElem hi), z⟩)
        refine ⟨_, rfl, _, rfl, ixa _ ⟨_, rfl, _, rfl, ixb _ ⟨xs[i], ys[i], rfl, (sa.at_ i _ _ (List.getElem?_eq_getElem hix) (List.getElem?_eq_getElem hi)).same s3, fun H4 s4 => ⟨true, rfl, iteF ⟨sb_same sb s4, s4 _ _ eD⟩⟩⟩⟩⟩
      · rintro H3 ⟨sb, eD⟩
        have s3 : Same H H3 := s2.trans (same_new nD sb)
        refine ⟨Nat.zero_le _, fun e ne => ⟨.list [], .list [], .lst (SqL.of (same_upd ne _ _ eD)) .nil, .lst (SqL.of upd_same) .nil, rfl, rfl, ?_⟩⟩
        exact q _ (s3.trans (same_upd ne))
theorem ok_alike {f : Addr} {fd : FuncData} (F : Fun K "_law_alike" "_law_alike" sAlike f fd) (bA : Binds K fd ["_law_found", "_law_due"] []) (gA : mg "_law_alike" = some (.ref f)) (T : Txt mg) :
    ∀ n : Nat, FnOk P w K mg base CX0 (n + 1) f fd ["_law_found", "_law_due"] (spAlk n)
  | 0 => alike_step F bA gA T ⟨fun _ _ _ _ h => h.elim, fun _ _ _ _ _ _ _ _ _ _ _ _ _ h => h.elim⟩
  | n + 1 => alike_step F bA gA T (ok_alike F bA gA T n)
/-- two lists of the same rows are alike -/
theorem alk_rows {H : Hp} {D E : Addr} {bs cs : List (Addr × List Int)} (hb : RowsAt H D bs) (hc : RowsAt H E cs) (e : bs.map (·.2) = cs.map (·.2)) (hl : cs.length ≤ 100000) (hr : ∀ c ∈ cs, c.2.length ≤ 100000) : Alk 2 H (.ref D) (.ref E) := by
  have el := congrArg List.length e
  rw [List.length_map, List.length_map] at el
  refine .inr ⟨D, E, _, _, rfl, rfl, .inl ⟨hb.l, hc.l⟩, by rw [List.length_map, List.length_map]; exact el, by rw [List.length_map]; exact hl, fun i x y hx hy => ?_⟩
  obtain ⟨b, hbi, rfl⟩ := rows_get hx
  obtain ⟨c, hci, rfl⟩ := rows_get hy
  have e2 : b.2 = c.2 := by
    have h1 : (bs.map (·.2))[i]? = some b.2 := by rw [List.getElem?_map, hbi] <;> rfl
    have h2 : (cs.map (·.2))[i]? = some c.2 := by rw [List.getElem?_map, hci] <;> rfl
    rw [e, h2] at h1
    exact (Option.some.inj h1).symm
  refine .inr ⟨b.1, c.1, _, _, rfl, rfl, .inr ⟨hb.t b (List.mem_of_getElem? hbi), hc.t c (List.mem_of_getElem? hci)⟩, by rw [e2], by rw [List.length_map]; exact hr c (List.mem_of_getElem? hci), fun j u v hu hv => ?_⟩
  rw [e2] at hu
  rw [hu] at hv
  cases hv
  obtain ⟨z, _, rfl⟩ := get_map hu
  exact ⟨z, rfl, rfl⟩
end
end KW
namespace KW
open PySem PySem.Spec PyProof.Rows L2 KR
/-- all the functions below the law: where each stands -/
structure AllF (K : PySem.W.Frag) (mg : Str → Option Value) (A : Nat → Addr) (D : Nat → FuncData) : Prop where
  F1 : Fun K "is_integer" "is_integer" sIsInt (A 1) (D 1)
  b1 : Binds K (D 1) ["value"] []
  g1 : mg "is_integer" = some (.ref (A 1))
  F2 : Fun K "is_in" "is_in" sIsIn (A 2) (D 2)
  b2 : Binds K (D 2) ["value", "least", "most"] []
  g2 : mg "is_in" = some (.ref (A 2))
  F3 : Fun K "is_list" "is_list" sIsList (A 3) (D 3)
  b3 : Binds K (D 3) ["value", "least", "most"] []
  g3 : mg "is_list" = some (.ref (A 3))
  F4 : Fun K "has_room" "has_room" sRoom (A 4) (D 4)
  b4 : Binds K (D 4) ["places", "homes"] []
  g4 : mg "has_room" = some (.ref (A 4))
  F5 : Fun K "need_street" "need_street" sNeedStreet (A 5) (D 5)
  b5 : Binds K (D 5) ["street"] []
  g5 : mg "need_street" = some (.ref (A 5))
  F6 : Fun K "need_places" "need_places" sNeedPlaces (A 6) (D 6)
  b6 : Binds K (D 6) ["street", "state"] []
  g6 : mg "need_places" = some (.ref (A 6))
  F7 : Fun K "need_state" "need_state" sNeedState (A 7) (D 7)
  b7 : Binds K (D 7) ["street", "state"] []
  g7 : mg "need_state" = some (.ref (A 7))
  F8 : Fun K "taken_in" "taken_in" sTaken (A 8) (D 8)
  b8 : Binds K (D 8) ["homes"] []
  g8 : mg "taken_in" = some (.ref (A 8))
  F9 : Fun K "rests_in" "rests_in" sRestsIn (A 9) (D 9)
  b9 : Binds K (D 9) ["street", "state"] []
  g9 : mg "rests_in" = some (.ref (A 9))
  F10 : Fun K "unlike" "unlike" sUnlike (A 10) (D 10)
  b10 : Binds K (D 10) ["one", "other"] []
  g10 : mg "unlike" = some (.ref (A 10))
  F11 : Fun K "stays_in" "stays_in" sStays (A 11) (D 11)
  b11 : Binds K (D 11) ["street", "state"] []
  g11 : mg "stays_in" = some (.ref (A 11))
  F12 : Fun K "calls_to_rest" "calls_to_rest" sCalls (A 12) (D 12)
  b12 : Binds K (D 12) ["street", "state"] []
  g12 : mg "calls_to_rest" = some (.ref (A 12))
  F13 : Fun K "count_near_rests" "count_near_rests" sCount (A 13) (D 13)
  b13 : Binds K (D 13) ["street", "state"] []
  g13 : mg "count_near_rests" = some (.ref (A 13))
  F14 : Fun K "near_rests" "near_rests" sNear (A 14) (D 14)
  b14 : Binds K (D 14) ["street", "state"] []
  g14 : mg "near_rests" = some (.ref (A 14))
  F15 : Fun K "_law_taken" "_law_taken" sDraw (A 15) (D 15)
  b15 : Binds K (D 15) ["_law_row", "_law_many"] []
  g15 : mg "_law_taken" = some (.ref (A 15))
  F16 : Fun K "_law_pick" "_law_pick" sPick (A 16) (D 16)
  b16 : Binds K (D 16) ["_law_row", "_law_things"] []
  g16 : mg "_law_pick" = some (.ref (A 16))
  F17 : Fun K "_law_alike" "_law_alike" sAlike (A 17) (D 17)
  b17 : Binds K (D 17) ["_law_found", "_law_due"] []
  g17 : mg "_law_alike" = some (.ref (A 17))
  F18 : Fun K "_law_street" "_law_street" sLStreet (A 18) (D 18)
  b18 : Binds K (D 18) ["_law_row", "_law_cars", "_law_places"] []
  g18 : mg "_law_street" = some (.ref (A 18))
  F19 : Fun K "_law_state" "_law_state" sLState (A 19) (D 19)
  b19 : Binds K (D 19) ["_law_row", "_law_street_here"] []
  g19 : mg "_law_state" = some (.ref (A 19))
  F20 : Fun K "_law_filled" "_law_filled" sFilled (A 20) (D 20)
  b20 : Binds K (D 20) ["_law_homes"] []
  g20 : mg "_law_filled" = some (.ref (A 20))
  F21 : Fun K "_law_rests" "_law_rests" sLRests (A 21) (D 21)
  b21 : Binds K (D 21) ["_law_street_here"] []
  g21 : mg "_law_rests" = some (.ref (A 21))
section
variable {P : Program} {w : World} {K : PySem.W.Frag} {mg : Str → Option Value} {base : Heap}
abbrev someScope : Scope := lcScope (retE (bodyAt sLaw 3))
abbrev manyScope : Scope := lcScope (retE (bodyAt sLaw 4))
theorem min_some : ∀ l : List Int, l ≠ [] → ∃ m ∈ l, ∀ y ∈ l, m ≤ y
  | [], h => absurd rfl h
  | [x], _ => ⟨x, List.mem_cons_self, fun y hy => by
    have : y = x := by simpa using hy
    omega⟩
  | x :: z :: l, _ => by
    obtain ⟨m, hm, h⟩ := min_some (z :: l) (by simp)
    by_cases e : x ≤ m
    · refine ⟨x, List.mem_cons_self, fun y hy => ?_⟩
      rcases List.mem_cons.mp hy with rfl | hy
      · exact Int.le_refl _
      · exact Int.le_trans e (h y hy)
    · refine ⟨m, List.mem_cons_of_mem _ hm, fun y hy => ?_⟩
      rcases List.mem_cons.mp hy with rfl | hy
      · omega
      · exact h y hy
theorem scLaw : FnScope ["_law_script", "_law_row", "_law_street_here", "_law_state_here", "_law_some", "_law_rest", "_law_car", "_law_many", "_law_near", "_law_at"] ["_law_script"] (defScope sLaw) := ⟨rfl, rfl, rfl, by decide +kernel, rfl, by decide +kernel, by decide +kernel⟩
def spLaw (K : PySem.W.Frag) : Sp := fun vs H Q _ => ∃ (a : Addr) (ns : List Int), vs = [.ref a] ∧ SqL K H a (ns.map V.int) ∧ ∀ H', Q (.bl true) H'
theorem ok_law {f : Addr} {fd : FuncData} {A : Nat → Addr} {D : Nat → FuncData} (F : Fun K "law" "law" sLaw f fd) (Z : AllF K mg A D) (T : Txt mg) : FnOk P w K mg base CX0 6 f fd ["_law_script"] (spLaw K) := by
  have ZN : NeedF K mg (A 5) (A 6) (A 4) (A 2) (A 1) (A 3) (D 5) (D 6) (D 4) (D 2) (D 1) (D 3) := ⟨Z.F5, Z.b5, Z.g5, Z.F6, Z.b6, Z.g6, Z.F4, Z.b4, Z.g4, Z.F2, Z.b2, Z.g2, Z.F1, Z.b1, Z.g1, Z.F3, Z.b3, Z.g3⟩
  have YA : AskF K mg (A 7) (A 11) (A 8) (D 7) (D 11) (D 8) := ⟨Z.F7, Z.b7, Z.g7, Z.F11, Z.b11, Z.g11, Z.F8, Z.b8, Z.g8⟩
  have YN : NearF K mg (A 7) (A 9) (A 10) (A 8) (D 7) (D 9) (D 10) (D 8) := ⟨Z.F7, Z.b7, Z.g7, Z.F9, Z.b9, Z.g9, Z.F10, Z.b10, Z.g10, Z.F8, Z.b8, Z.g8⟩
  have GC : FnOk P w K mg base CX0 5 _ (D 12) ["street", "state"] spCalls := ok_calls Z.F12 ZN YA T
  have GN : FnOk P w K mg base CX0 5 _ (D 13) ["street", "state"] spCount := ok_count Z.F13 ZN YA T
  have GW : FnOk P w K mg base CX0 5 _ (D 14) ["street", "state"] spNear := ok_near Z.F14 ZN YN T
  have GA : FnOk P w K mg base CX0 3 _ (D 17) ["_law_found", "_law_due"] (spAlk 2) := ok_alike Z.F17 Z.b17 Z.g17 T 2
  have GS : FnOk P w K mg base CX0 2 _ (D 18) ["_law_row", "_law_cars", "_law_places"] (spLStreet K) := ok_lstreet Z.F18 Z.F15 Z.b15 Z.g15 T
  have GT : FnOk P w K mg base CX0 3 _ (D 19) ["_law_row", "_law_street_here"] (spLState K) := ok_lstate Z.F19 Z.F16 Z.b16 Z.g16 Z.F15 Z.b15 Z.g15 T
  have GR : FnOk P w K mg base CX0 2 _ (D 21) ["_law_street_here"] spLRests := ok_lrests Z.F21 Z.F20 Z.b20 Z.g20 T
  refine F.ok scLaw (fun vs H Q E h => ?_) (fun cdv Ar outer s H vs Q E hr h => ?_)
  · obtain ⟨a, ns, rfl, _⟩ := h
    rfl
  · obtain ⟨sp, ns, rfl, hS, q⟩ := h
    have hr2 : Room 2 _ := hr.mono (by decide)
    have hr3 : Room 3 _ := hr.mono (by decide)
    refine ⟨_, (pss_cons (ps_set (i := 1) scLaw.nd rfl (Or.inl rfl) (pe_lst (pa_cons (pv 0) (pa_cons pe_int (pa_cons pe_int (pa_cons pe_int pa_nil))))))
        (pss_cons (ps_set (i := 2) scLaw.nd rfl (Or.inl rfl) (pe_call GS hr2 (by rfl) Z.g18 Z.F18.kp Z.b18 .nil pass0 (pa_cons (pv 1) (pa_cons pe_int (pa_cons pe_int pa_nil)))))
        (pss_cons (ps_set (i := 3) scLaw.nd rfl (Or.inr rfl) (pe_call GT hr3 (by rfl) Z.g19 Z.F19.kp Z.b19 .nil pass0 (pa_cons (pv 1) (pa_cons (pv 2) pa_nil))))
        (pss_cons (ps_set (i := 4) scLaw.nd rfl (Or.inr rfl) (pe_lcE (own := [("_law_rest", 5)]) (g := (gName 5)) rfl scLaw.nd (pi_list (pe_call GR hr2 (by rfl) Z.g21 Z.F21.kp Z.b21 .nil pass0 (pa_cons (pv 2) pa_nil))) (blkOk_by (N := ["_law_script", "_law_row", "_law_street_here", "_law_state_here", "_law_some", "_law_rest", "_law_car", "_law_many", "_law_near", "_law_at"]) (sc := defScope sLaw) (by decide +kernel)) (fun _ _ _ _ _ => (pg_name (i := 5) scLaw.nd rfl (Or.inr rfl))) (fun _ _ _ _ _ => (pts_one (pt_cmpR op_ge (pe_callB (cr_min rfl) (by rfl) T.min bMin (pa_cons (pe_lcE (own := [("_law_car", 6)]) (g := (gName 6)) rfl scLaw.nd (pi_range1 (by rfl) T.range (pa_cons (pe_callB call_len_seq (by rfl) T.len bLen (pa_cons (pv 3) pa_nil)) pa_nil)) (blkOk_by (N := ["_law_script", "_law_row", "_law_street_here", "_law_state_here", "_law_some", "_law_rest", "_law_car", "_law_many", "_law_near", "_law_at"]) (sc := relS someScope (defScope sLaw)) (by decide +kernel)) (fun _ _ _ _ _ => (pg_name (i := 6) scLaw.nd rfl (Or.inl rfl))) (fun _ _ _ _ _ => pts_nil) (fun _ _ _ _ _ => (pe_op op_sub (pe_ix ix_tup (pv 3) (pv 6) (fun _ _ => rfl)) (pe_ix ix_tup (pv 5) (pv 6) (fun _ _ => rfl))))) pa_nil)) pe_int (nomark _)))) (fun _ _ _ _ _ => (pv 5))))
        (pss_cons (ps_set (i := 7) scLaw.nd rfl (Or.inr rfl) (pe_lcE (own := [("_law_rest", 5)]) (g := (gName 5)) rfl scLaw.nd (pi_list (pv 4)) (blkOk_by (N := ["_law_script", "_law_row", "_law_street_here", "_law_state_here", "_law_some", "_law_rest", "_law_car", "_law_many", "_law_near", "_law_at"]) (sc := defScope sLaw) (by decide +kernel)) (fun _ _ _ _ _ => (pg_name (i := 5) scLaw.nd rfl (Or.inr rfl))) (fun _ _ _ _ _ => pts_nil) (fun _ _ _ _ _ => (pe_callB call_len_seq (by rfl) T.len bLen (pa_cons (pe_lcE (own := [("_law_car", 6)]) (g := (gName 6)) rfl scLaw.nd (pi_range1 (by rfl) T.range (pa_cons (pe_callB call_len_seq (by rfl) T.len bLen (pa_cons (pv 3) pa_nil)) pa_nil)) (blkOk_by (N := ["_law_script", "_law_row", "_law_street_here", "_law_state_here", "_law_some", "_law_rest", "_law_car", "_law_many", "_law_near", "_law_at"]) (sc := relS manyScope (defScope sLaw)) (by decide +kernel)) (fun _ _ _ _ _ => (pg_name (i := 6) scLaw.nd rfl (Or.inl rfl))) (fun _ _ _ _ _ => (pts_one (pt_cmpR op_ne (pe_ix ix_tup (pv 5) (pv 6) (fun _ _ => rfl)) (pe_ix ix_tup (pv 3) (pv 6) (fun _ _ => rfl)) (nomark _)))) (fun _ _ _ _ _ => (pv 6))) pa_nil)))))
        (pss_cons (ps_setLcE (i := 8) (own := [("_law_at", 9)]) (g := (gName 9)) rfl scLaw.nd rfl rfl (sw_true rfl rfl rfl (by decide +kernel)) (pi_range1 (by rfl) T.range (pa_cons (pe_callB call_len_seq (by rfl) T.len bLen (pa_cons (pv 4) pa_nil)) pa_nil)) (blkOk_by (N := ["_law_script", "_law_row", "_law_street_here", "_law_state_here", "_law_some", "_law_rest", "_law_car", "_law_many", "_law_near", "_law_at"]) (sc := defScope sLaw) (by decide +kernel)) (fun _ _ _ _ _ => (pg_name (i := 9) scLaw.nd rfl (Or.inl rfl))) (fun _ _ _ _ _ => (pts_one (pt_cmpR op_eq (pe_ix ix_list (pv 7) (pv 9) (fun _ _ => rfl)) (pe_callB (cr_min rfl) (by rfl) T.min bMin (pa_cons (pv 7) pa_nil)) (nomark _)))) (fun _ _ _ _ _ => (pe_ix ix_list (pv 4) (pv 9) (fun _ _ => rfl))))
        (pss_cons (ps_if (PW.pt (pw_or (pt_not (pt_val (pe_call GA hr3 (by rfl) Z.g17 Z.F17.kp Z.b17 .nil pass0 (pa_cons (pe_call GC hr (by rfl) Z.g12 Z.F12.kp Z.b12 .nil pass0 (pa_cons (pv 2) (pa_cons (pv 3) pa_nil))) (pa_cons (pe_callB (cr_min rfl) (by rfl) T.min bMin (pa_cons (pv 7) pa_nil)) pa_nil))))) (pw_or1 (pt_not (pt_val (pe_call GA hr3 (by rfl) Z.g17 Z.F17.kp Z.b17 .nil pass0 (pa_cons (pe_call GN hr (by rfl) Z.g13 Z.F13.kp Z.b13 .nil pass0 (pa_cons (pv 2) (pa_cons (pv 3) pa_nil))) (pa_cons (pe_callB call_len_seq (by rfl) T.len bLen (pa_cons (pv 8) pa_nil)) pa_nil)))))))) (pss_one (ps_ret pe_bl)) pss_nil)
        (pss_one (ps_ret (pe_call GA hr3 (by rfl) Z.g17 Z.F17.kp Z.b17 .nil pass0 (pa_cons (pe_call GW hr (by rfl) Z.g14 Z.F14.kp Z.b14 .nil pass0 (pa_cons (pv 2) (pa_cons (pv 3) pa_nil))) (pa_cons (pv 8) pa_nil)))))))))))), ?_⟩
    -- row = [script, 0, 9010, 0]
    refine ⟨_, rfl, by show 4 ≤ sizeLine; decide, fun r nr => ?_⟩
    have R1 : RowOk K H (upd H r (.lst [.ref sp, .int 0, .int 9010, .int 0])) r := ⟨sp, ns, 0, 9010, 0, upd_same, by decide, by decide, by decide, hS, nr, same_upd nr⟩
    -- street, state
    refine ⟨_, rfl, H, r, rfl, R1, fun a h size homes H2 s2 R2 S2 O2 => ?_⟩
    refine ⟨_, rfl, _, rfl, H, r, a, h, size, homes, rfl, R2, S2, O2, fun p st H3 sb3 hp Dr => ?_⟩
    have S3 : Street H3 a h size homes := by
      obtain ⟨xs, e⟩ := R2.lst
      exact ⟨sb3 _ _ S2.at_ (ne_of S2.at_ e (by intro z; cases z)), sb3 _ _ S2.hs (ne_of S2.hs e (by intro z; cases z))⟩
    have hl := Dr.ok.len
    have n1 := Dr.n1
    have n5 := Dr.n2
    -- some = [rest for rest in rests(street) if min([..]) >= 0]
    refine ⟨_, rfl, a, h, size, homes, rfl, S3, n5, n1, fun x hx => ?_, fun taken L bs H4 it s4 nL R4 eb => ?_⟩
    · have := (Dr.h1 x hx).2
      have := Dr.s2
      omega
    have t5 : taken.length ≤ 5 := by rw [it.length]; exact n5
    have rlen : ∀ b ∈ bs, b.2.length = st.length := fun b hb => by
      rw [KM.rowsTo_len (k := homes.length) (row := b.2) (taken := taken) (ok := KM.okA homes) (by rw [← eb]; exact List.mem_map_of_mem hb), hl]
    have blen : bs.length ≤ 3125 := by
      have := rowsTo_card (KM.okA homes) t5 homes.length
      rw [← eb, List.length_map] at this
      exact Nat.le_trans this (pow5 n5)
    have hp4 := s4 _ _ hp
    refine ⟨L, rfl, ⟨_, SqL.of R4.l⟩, fun D1 nD1 => lc_list (K := K) (a := L) (xs := bs.map fun b => V.ref b.1) (fun j H' => ∃ ds : List (Addr × List Int), SameBut D1 (upd H4 D1 (.lst [])) H' ∧ RowsAt H' D1 ds ∧ ds.map (·.2) = ((bs.map (·.2)).take j).filter (fun row => KM.fitTo st row homes.length))
      ⟨[], sb_refl, ⟨upd_same, fun b hb => by cases hb⟩, rfl⟩ (fun j H' _ hx => ?_) ?_ ?_⟩
    · obtain ⟨_, sb', _⟩ := hx
      exact SqL.of (sb' _ _ (same_upd nD1 _ _ R4.l) (ne_of_none R4.l nD1))
    · rintro j x H5 hj ⟨ds, sb, C, ec⟩
      obtain ⟨b, hb, rfl⟩ := rows_get hj
      have hb2 : (bs.map (·.2))[j]? = some b.2 := by rw [List.getElem?_map, hb] <;> rfl
      have hbm := List.mem_of_getElem? hb
      have hjl : j < bs.length := (List.getElem?_eq_some_iff.mp hb).1
      have up : ∀ z o, H4 z = some o → H5 z = some o := fun z o e => sb z o (same_upd nD1 z o e) (ne_of_none e nD1)
      have es := filter_take (fun row => KM.fitTo st row homes.length) hb2
      have rl := rlen b hbm
      have dlen : ds.length ≤ 100000 := by
        have h1 := congrArg List.length ec
        rw [List.length_map] at h1
        have h2 := List.length_filter_le (fun row => KM.fitTo st row homes.length) ((bs.map (·.2)).take j)
        rw [List.length_take] at h2
        omega
      refine ⟨rfl, ?_⟩
      refine ⟨_, rfl, p, _, rfl, .inr (SqT.of (up _ _ hp4)), _, rfl, by rw [List.length_map]; omega, by rw [List.length_map]; omega, fun M nM => lc_range (lo := 0) (n := _)
        (fun i H' => SameBut M (upd H5 M (.lst [])) H' ∧ H' M = some (.lst (((List.range i).map fun c => st.getD c 0 - b.2.getD c 0).map V.int))) ⟨sb_refl, upd_same⟩ ?_ ?_⟩
      · rintro i H6 hi ⟨sb6, eM⟩
        rw [List.length_map, Int.toNat_natCast] at hi
        have hib : i < b.2.length := by omega
        have up6 : ∀ z o, H4 z = some o → H6 z = some o := fun z o e => sb6 z o (same_upd nM z o (up z o e)) (ne_of_none (up z o e) nM)
        refine ⟨rfl, ?_⟩
        refine ⟨_, rfl, _, rfl, p, _, _, .int st[i], rfl, rfl, SqT.of (up6 _ _ hp4), ?_, _, rfl, _, rfl, b.1, _, _, .int b.2[i], rfl, rfl, SqT.of (up6 _ _ (R4.t b hbm)), ?_, _, _, rfl, rfl, ?_⟩
        · rw [Int.zero_add]
          exact atI_nat (map_get (List.getElem?_eq_getElem hi))
        · rw [Int.zero_add]
          exact atI_nat (map_get (List.getElem?_eq_getElem hib))
        · refine ⟨_, eM, lt_line ?_, sb_upd sb6, ?_⟩
          · rw [List.length_map, List.length_map, List.length_range]
            omega
          · rw [upd_same, List.range_succ, List.map_append, List.map_append]
            show _ = some (HO.lst (_ ++ [V.int (st.getD i 0 - b.2.getD i 0)]))
            rw [KM.getD_at hi, KM.getD_at hib]
      · rintro H6 ⟨sb6, eM⟩
        rw [List.length_map, Int.toNat_natCast] at eM
        have s6 : Same H5 H6 := same_new nM sb6
        have C6 := C.same s6
        refine ⟨M, _, rfl, SqL.of eM, by rw [List.length_map, List.length_range]; omega, fun m hm hle => ⟨m, 0, rfl, rfl, _, rfl, ite2 (fun e => ?_) (fun e => ?_)⟩⟩
        · have e := of_decide_eq_true e
          have ft : KM.fitTo st b.2 homes.length = true := by
            unfold KM.fitTo
            rw [List.all_eq_true]
            intro c hc
            refine decide_eq_true (Int.le_trans e (hle _ (List.mem_map.mpr ⟨c, ?_, rfl⟩)))
            rw [hl]
            exact hc
          rw [if_pos ft] at es
          refine ⟨_, rfl, _, C6.l, lt_big (by rw [List.length_map]; exact dlen), ds ++ [(b.1, b.2)], sb_upd (sb_same sb s6), C6.push (s6 _ _ (up _ _ (R4.t b hbm))), ?_⟩
          rw [List.map_append, ec, es] <;> rfl
        · have ft : ¬ KM.fitTo st b.2 homes.length = true := fun z => e (decide_eq_true (by
            unfold KM.fitTo at z
            rw [List.all_eq_true] at z
            obtain ⟨c, hc, rfl⟩ := List.mem_map.mp hm
            rw [hl] at hc
            exact of_decide_eq_true (z c hc)))
          rw [if_neg ft, List.append_nil] at es
          exact ⟨ds, sb_same sb s6, C6, by rw [es]; exact ec⟩
    · rintro H5 ⟨ds, sb5, C5, ec⟩
      have s5 : Same H4 H5 := same_new nD1 sb5
      rw [List.length_map, List.take_of_length_le (by rw [List.length_map]; exact Nat.le_refl _), eb, KM.rows_fit] at ec
      have hp5 := s5 _ _ hp4
      have S5 := (S3.same s4).same s5
      have dlen : ds.length ≤ 3125 := by
        have := rowsTo_card (KM.okB homes st) t5 homes.length
        rw [← ec, List.length_map] at this
        exact Nat.le_trans this (pow5 n5)
      have drl : ∀ b ∈ ds, b.2.length = st.length := fun b hb => by
        rw [KM.rowsTo_len (k := homes.length) (row := b.2) (taken := taken) (ok := KM.okB homes st) (by rw [← ec]; exact List.mem_map_of_mem hb), hl]
      -- many = [len([car for car in range(len(state)) if rest[car] != state[car]]) for rest in some]
      refine ⟨_, rfl, D1, rfl, ⟨_, SqL.of C5.l⟩, fun M nM => lc_list (K := K) (a := D1) (xs := ds.map fun b => V.ref b.1) (fun j H' => SameBut M (upd H5 M (.lst [])) H' ∧ H' M = some (.lst (((ds.take j).map fun b => KM.unl st b.2).map V.int)))
        ⟨sb_refl, upd_same⟩ (fun j H' _ hx => ?_) ?_ ?_⟩
      · exact SqL.of (hx.1 _ _ (same_upd nM _ _ C5.l) (ne_of_none C5.l nM))
      · rintro j x H6 hj ⟨sb6, eM⟩
        obtain ⟨b, hb, rfl⟩ := rows_get hj
        have hbm := List.mem_of_getElem? hb
        have rl := drl b hbm
        have hjl : j < ds.length := (List.getElem?_eq_some_iff.mp hb).1
        have up : ∀ z o, H5 z = some o → H6 z = some o := fun z o e => sb6 z o (same_upd nM z o e) (ne_of_none e nM)
        refine ⟨rfl, ?_⟩
        refine ⟨_, rfl, p, _, rfl, .inr (SqT.of (up _ _ hp5)), _, rfl, by rw [List.length_map]; omega, by rw [List.length_map]; omega, fun U nU => lc_range (lo := 0) (n := _)
          (fun i H' => SameBut U (upd H6 U (.lst [])) H' ∧ H' U = some (.lst (((List.range i).filter fun c => decide (b.2.getD c 0 ≠ st.getD c 0)).map fun c : Nat => V.int (0 + (c : Int))))) ⟨sb_refl, upd_same⟩ ?_ ?_⟩
        · rintro i H7 hi ⟨sb7, eU⟩
          rw [List.length_map, Int.toNat_natCast] at hi
          have hib : i < b.2.length := by omega
          have up7 : ∀ z o, H5 z = some o → H7 z = some o := fun z o e => sb7 z o (same_upd nU z o (up z o e)) (ne_of_none (up z o e) nU)
          refine ⟨rfl, ?_⟩
          refine ⟨_, rfl, _, rfl, b.1, _, _, .int b.2[i], rfl, rfl, SqT.of (up7 _ _ (C5.t b hbm)), ?_, _, rfl, _, rfl, p, _, _, .int st[i], rfl, rfl, SqT.of (up7 _ _ hp5), ?_, rfl, _, rfl, ite2 (fun e => ?_) (fun e => ?_)⟩
          · rw [Int.zero_add]
            exact atI_nat (map_get (List.getElem?_eq_getElem hib))
          · rw [Int.zero_add]
            exact atI_nat (map_get (List.getElem?_eq_getElem hi))
          · have e1 : b.2[i] ≠ st[i] := fun z => by
              rw [z] at e
              simp at e
            refine ⟨_, rfl, _, eU, lt_line ?_, sb_upd sb7, ?_⟩
            · rw [List.length_map]
              have := List.length_filter_le (fun c => decide (b.2.getD c 0 ≠ st.getD c 0)) (List.range i)
              rw [List.length_range] at this
              omega
            · rw [upd_same, List.range_succ, List.filter_append, List.filter_cons_of_pos (by rw [decide_eq_true_eq, KM.getD_at hi, KM.getD_at hib]; exact e1), List.filter_nil, List.map_append]
              rfl
          · have e1 : b.2[i] = st[i] := by
              by_cases z : b.2[i] = st[i]
              · exact z
              · exfalso
                refine e ?_
                rw [decide_eq_false fun q => z (V.int.inj q)]
                rfl
            refine ⟨sb7, ?_⟩
            rw [List.range_succ, List.filter_append, List.filter_cons_of_neg (by rw [decide_eq_true_eq, KM.getD_at hi, KM.getD_at hib]; exact fun z => z e1), List.filter_nil, List.append_nil]
            exact eU
        · rintro H7 ⟨sb7, eU⟩
          rw [List.length_map, Int.toNat_natCast] at eU
          have s7 : Same H6 H7 := same_new nU sb7
          refine ⟨U, _, rfl, .inl (SqL.of eU), _, s7 _ _ eM, lt_big ?_, sb_upd (sb_same sb6 s7), ?_⟩
          · rw [List.length_map, List.length_map, List.length_take]
            omega
          · rw [upd_same, take_snoc hb, List.map_append, List.map_append, List.length_map]
            rfl
      · rintro H6 ⟨sb6, eM⟩
        rw [List.length_map, List.take_length] at eM
        have s6 : Same H5 H6 := same_new nM sb6
        have em : (ds.map fun b => KM.unl st b.2) = (KM.rowsTo taken (KM.okB homes st) homes.length).map (KM.unl st) := by
          rw [← ec, List.map_map]
          rfl
        rw [em] at eM
        have rne := KM.rests_some Dr.ok it
        obtain ⟨m, hm, hle⟩ := min_some ((KM.rowsTo taken (KM.okB homes st) homes.length).map (KM.unl st)) (fun z => rne (List.map_eq_nil_iff.mp z))
        have muniq : ∀ m', m' ∈ (KM.rowsTo taken (KM.okB homes st) homes.length).map (KM.unl st) → (∀ y ∈ (KM.rowsTo taken (KM.okB homes st) homes.length).map (KM.unl st), m' ≤ y) → m' = m := fun m' h1 h2 => Int.le_antisymm (h2 m hm) (hle m' h1)
        have mpos : 0 < ((KM.rowsTo taken (KM.okB homes st) homes.length).map (KM.unl st)).length := List.length_pos_of_mem hm
        have C6 := C5.same s6
        have hp6 := s6 _ _ hp5
        have S6 := S5.same s6
        -- near = [some[at] for at in range(len(some)) if many[at] == min(many)]
        refine ⟨_, rfl, D1, _, rfl, .inl (SqL.of C6.l), _, rfl, by rw [List.length_map]; omega, by rw [List.length_map]; omega, fun N nN => lc_range (lo := 0) (n := _)
          (fun i H' => ∃ es : List (Addr × List Int), SameBut N (upd H6 N (.lst [])) H' ∧ RowsAt H' N es ∧ es.map (·.2) = ((ds.map (·.2)).take i).filter (fun r => decide (KM.unl st r = m)))
          ⟨[], sb_refl, ⟨upd_same, fun b hb => by cases hb⟩, rfl⟩ ?_ ?_⟩
        · rintro i H7 hi ⟨es, sb7, E7, ee⟩
          rw [List.length_map, Int.toNat_natCast] at hi
          obtain ⟨b, hb⟩ : ∃ b, ds[i]? = some b := ⟨_, List.getElem?_eq_getElem hi⟩
          have hb2 : (ds.map (·.2))[i]? = some b.2 := by rw [List.getElem?_map, hb] <;> rfl
          have hbm := List.mem_of_getElem? hb
          have up : ∀ z o, H6 z = some o → H7 z = some o := fun z o e => sb7 z o (same_upd nN z o e) (ne_of_none e nN)
          have ef := filter_take (fun r => decide (KM.unl st r = m)) hb2
          have elen : es.length ≤ 100000 := by
            have h1 := congrArg List.length ee
            rw [List.length_map] at h1
            have h2 := List.length_filter_le (fun r => decide (KM.unl st r = m)) ((ds.map (·.2)).take i)
            rw [List.length_take] at h2
            omega
          refine ⟨rfl, ?_⟩
          refine ⟨_, rfl, _, rfl, M, _, _, .int (KM.unl st b.2), rfl, rfl, SqL.of (up _ _ eM), ?_, _, rfl, M, _, rfl, SqL.of (up _ _ eM), mpos, fun m' h1 h2 => ?_⟩
          · rw [Int.zero_add]
            refine atI_nat (map_get ?_)
            rw [← ec, List.getElem?_map, hb2]
            rfl
          · have em' := muniq m' h1 h2
            subst em'
            refine ⟨rfl, _, rfl, ite2 (fun e => ?_) (fun e => ?_)⟩
            · have e2 : KM.unl st b.2 = m' := V.int.inj (of_decide_eq_true e)
              rw [if_pos (decide_eq_true e2)] at ef
              refine ⟨_, rfl, _, rfl, D1, _, _, .ref b.1, rfl, rfl, SqL.of (up _ _ C6.l), ?_, _, E7.l, lt_big (by rw [List.length_map]; exact elen), es ++ [(b.1, b.2)], sb_upd sb7, E7.push (up _ _ (C6.t b hbm)), ?_⟩
              · rw [Int.zero_add]
                refine atI_nat ?_
                rw [List.getElem?_map, hb]
                rfl
              · rw [List.map_append, ee, ef] <;> rfl
            · have e2 : ¬ KM.unl st b.2 = m' := fun z => e (decide_eq_true (by rw [z]))
              rw [if_neg (fun z => e2 (of_decide_eq_true z)), List.append_nil] at ef
              exact ⟨es, sb7, E7, by rw [ef]; exact ee⟩
        · rintro H7 ⟨es, sb7, E7, ee⟩
          rw [List.length_map, Int.toNat_natCast, List.take_of_length_le (by rw [List.length_map]; exact Nat.le_refl _), ec] at ee
          have s7 : Same H6 H7 := same_new nN sb7
          have hp7 := s7 _ _ hp6
          have S7 := S6.same s7
          have eM7 := s7 _ _ eM
          have law : ∀ (taken' : List Int) (it' : KM.IsTaken homes taken') (b w : Int), AggOf homes st taken' = some (b, w) → (st.length : Int) - b = m ∧ w = (((KM.rowsTo taken (KM.okB homes st) homes.length).filter fun r => decide (KM.unl st r = m)).length : Nat) := by
            intro taken' it' b w ha
            obtain rfl : taken = taken' := it.uniq it' (List.Perm.refl _)
            have hR : ∀ r ∈ KM.rowsTo taken (KM.okB homes st) homes.length, r.length = st.length := fun r hr => by rw [KM.rowsTo_len hr, hl]
            exact KM.near_law hR ha hm hle
          -- alike(calls_to_rest(street, state), min(many))
          refine ⟨_, rfl, _, rfl, a, h, p, size, homes, st, rfl, S7, hp7, Dr, fun taken' b w H8 it' s8 ag => ?_⟩
          refine ⟨_, rfl, M, _, rfl, SqL.of (s8 _ _ eM7), mpos, fun m' h1 h2 => ?_⟩
          have em' := muniq m' h1 h2
          subst em'
          refine ⟨_, _, rfl, .inl ⟨m', by rw [(law taken' it' b w ag).1], rfl⟩, fun H9 s9 => ⟨true, rfl, iteF ?_⟩⟩
          -- alike(count_near_rests(street, state), len(near))
          have s79 := s8.trans s9
          refine ⟨_, rfl, _, rfl, a, h, p, size, homes, st, rfl, S7.same s79, s79 _ _ hp7, Dr, fun taken2 b2 w2 HA it2 sA ag2 => ?_⟩
          have sA7 := s79.trans sA
          refine ⟨_, rfl, N, _, rfl, .inl (SqL.of (sA7 _ _ E7.l)), ?_⟩
          have ew : w2 = ((es.map fun b => V.ref b.1).length : Int) := by
            rw [(law taken2 it2 b2 w2 ag2).2, List.length_map, ← ee, List.length_map]
          refine ⟨_, _, rfl, .inl ⟨w2, rfl, by rw [ew]⟩, fun HB sB => ⟨true, rfl, iteF ?_⟩⟩
          have sB7 := sA7.trans sB
          -- alike(near_rests(street, state), near)
          refine ⟨_, rfl, _, rfl, a, h, p, size, homes, st, rfl, S7.same sB7, sB7 _ _ hp7, Dr, fun taken3 D3 bs3 m3 HC it3 sC R3 hm3 hl3 e3 => ?_⟩
          obtain rfl : taken = taken3 := it.uniq it3 (List.Perm.refl _)
          have em3 := muniq m3 hm3 hl3
          subst em3
          have EC := (E7.same sB7).same sC
          have elen : es.length ≤ 100000 := by
            have h1 := congrArg List.length ee
            rw [List.length_map] at h1
            have h2 := List.length_filter_le (fun r => decide (KM.unl st r = m3)) (KM.rowsTo taken (KM.okB homes st) homes.length)
            have h3 := congrArg List.length ec
            rw [List.length_map] at h3
            omega
          refine ⟨_, rfl, _, _, rfl, alk_rows R3 EC (e3.trans ee.symm) elen fun c hc => ?_, fun HD sD => q _⟩
          have hcm : c.2 ∈ es.map (·.2) := List.mem_map_of_mem hc
          rw [ee] at hcm
          have := KM.rowsTo_len ((List.mem_filter.mp hcm).1)
          omega
end
end KW
/-! ### what the top has written; the law's own head -/
namespace KW
open PySem PySem.Spec PyProof.Rows L2 KR
theorem all_mk {l : PySem.W.OpenLaw} {w : World} {K : PySem.W.Frag} {h : Heap} {mg : Str → Option Value} {fa f1 f2 f3 f4 f5 f6 f7 f8 f9 f10 f11 f12 f13 f14 f15 f16 f17 f18 f19 f20 f21 f22 : Addr} (X : K.In h) (G : h.Ns mainGlobals mg) (hfa : mg "law" = some (.ref fa))
    {od1 an1 od2 an2 od3 an3 od4 an4 od5 an5 od6 an6 od7 an7 od8 an8 od9 an9 od10 an10 od11 an11 od12 an12 od13 an13 od14 an14 od15 an15 od16 an16 od17 an17 od18 an18 od19 an19 od20 an20 od21 an21 od22 an22 : Option Addr} {sl1 sl2 sl3 sl4 sl5 sl6 sl7 sl8 sl9 sl10 sl11 sl12 sl13 sl14 sl15 sl16 sl17 sl18 sl19 sl20 sl21 sl22 : Array (Option Value)} {oc1 kV1 dc1 pm1 cd1 ct1 oc2 kV2 dc2 pm2 cd2 ct2 oc3 kV3 dc3 pm3 cd3 ct3 oc4 kV4 dc4 pm4 cd4 ct4 oc5 kV5 dc5 pm5 cd5 ct5 oc6 kV6 dc6 pm6 cd6 ct6 oc7 kV7 dc7 pm7 cd7 ct7 oc8 kV8 dc8 pm8 cd8 ct8 oc9 kV9 dc9 pm9 cd9 ct9 oc10 kV10 dc10 pm10 cd10 ct10 oc11 kV11 dc11 pm11 cd11 ct11 oc12 kV12 dc12 pm12 cd12 ct12 oc13 kV13 dc13 pm13 cd13 ct13 oc14 kV14 dc14 pm14 cd14 ct14 oc15 kV15 dc15 pm15 cd15 ct15 oc16 kV16 dc16 pm16 cd16 ct16 oc17 kV17 dc17 pm17 cd17 ct17 oc18 kV18 dc18 pm18 cd18 ct18 oc19 kV19 dc19 pm19 cd19 ct19 oc20 kV20 dc20 pm20 cd20 ct20 oc21 kV21 dc21 pm21 cd21 ct21 oc22 kV22 dc22 pm22 cd22 ct22 : Value} {tP tC : Tok}
    (a1 : PySem.W.nsIn K mainGlobals "is_integer" = some (some (.ref f1))) (l1 : K.lookup f1 = some ⟨oc1, od1, .func (PySem.W.fnOf "is_integer" "is_integer" (defArgs sIsInt) (defBody sIsInt) (defScope sIsInt) .none kV1 dc1 pm1 an1 cd1 ct1), sl1⟩) (c1 : PySem.W.codeIn K cd1 "is_integer" = true) (k1 : PySem.W.keepIn K (.ref f1) = true)
    (a2 : PySem.W.nsIn K mainGlobals "is_in" = some (some (.ref f2))) (l2 : K.lookup f2 = some ⟨oc2, od2, .func (PySem.W.fnOf "is_in" "is_in" (defArgs sIsIn) (defBody sIsIn) (defScope sIsIn) .none kV2 dc2 pm2 an2 cd2 ct2), sl2⟩) (c2 : PySem.W.codeIn K cd2 "is_in" = true) (k2 : PySem.W.keepIn K (.ref f2) = true)
    (a3 : PySem.W.nsIn K mainGlobals "is_list" = some (some (.ref f3))) (l3 : K.lookup f3 = some ⟨oc3, od3, .func (PySem.W.fnOf "is_list" "is_list" (defArgs sIsList) (defBody sIsList) (defScope sIsList) .none kV3 dc3 pm3 an3 cd3 ct3), sl3⟩) (c3 : PySem.W.codeIn K cd3 "is_list" = true) (k3 : PySem.W.keepIn K (.ref f3) = true)
    (a4 : PySem.W.nsIn K mainGlobals "has_room" = some (some (.ref f4))) (l4 : K.lookup f4 = some ⟨oc4, od4, .func (PySem.W.fnOf "has_room" "has_room" (defArgs sRoom) (defBody sRoom) (defScope sRoom) .none kV4 dc4 pm4 an4 cd4 ct4), sl4⟩) (c4 : PySem.W.codeIn K cd4 "has_room" = true) (k4 : PySem.W.keepIn K (.ref f4) = true)
    (a5 : PySem.W.nsIn K mainGlobals "need_street" = some (some (.ref f5))) (l5 : K.lookup f5 = some ⟨oc5, od5, .func (PySem.W.fnOf "need_street" "need_street" (defArgs sNeedStreet) (defBody sNeedStreet) (defScope sNeedStreet) .none kV5 dc5 pm5 an5 cd5 ct5), sl5⟩) (c5 : PySem.W.codeIn K cd5 "need_street" = true) (k5 : PySem.W.keepIn K (.ref f5) = true)
    (a6 : PySem.W.nsIn K mainGlobals "need_places" = some (some (.ref f6))) (l6 : K.lookup f6 = some ⟨oc6, od6, .func (PySem.W.fnOf "need_places" "need_places" (defArgs sNeedPlaces) (defBody sNeedPlaces) (defScope sNeedPlaces) .none kV6 dc6 pm6 an6 cd6 ct6), sl6⟩) (c6 : PySem.W.codeIn K cd6 "need_places" = true) (k6 : PySem.W.keepIn K (.ref f6) = true)
    (a7 : PySem.W.nsIn K mainGlobals "need_state" = some (some (.ref f7))) (l7 : K.lookup f7 = some ⟨oc7, od7, .func (PySem.W.fnOf "need_state" "need_state" (defArgs sNeedState) (defBody sNeedState) (defScope sNeedState) .none kV7 dc7 pm7 an7 cd7 ct7), sl7⟩) (c7 : PySem.W.codeIn K cd7 "need_state" = true) (k7 : PySem.W.keepIn K (.ref f7) = true)
    (a8 : PySem.W.nsIn K mainGlobals "taken_in" = some (some (.ref f8))) (l8 : K.lookup f8 = some ⟨oc8, od8, .func (PySem.W.fnOf "taken_in" "taken_in" (defArgs sTaken) (defBody sTaken) (defScope sTaken) .none kV8 dc8 pm8 an8 cd8 ct8), sl8⟩) (c8 : PySem.W.codeIn K cd8 "taken_in" = true) (k8 : PySem.W.keepIn K (.ref f8) = true)
    (a9 : PySem.W.nsIn K mainGlobals "rests_in" = some (some (.ref f9))) (l9 : K.lookup f9 = some ⟨oc9, od9, .func (PySem.W.fnOf "rests_in" "rests_in" (defArgs sRestsIn) (defBody sRestsIn) (defScope sRestsIn) .none kV9 dc9 pm9 an9 cd9 ct9), sl9⟩) (c9 : PySem.W.codeIn K cd9 "rests_in" = true) (k9 : PySem.W.keepIn K (.ref f9) = true)
    (a10 : PySem.W.nsIn K mainGlobals "unlike" = some (some (.ref f10))) (l10 : K.lookup f10 = some ⟨oc10, od10, .func (PySem.W.fnOf "unlike" "unlike" (defArgs sUnlike) (defBody sUnlike) (defScope sUnlike) .none kV10 dc10 pm10 an10 cd10 ct10), sl10⟩) (c10 : PySem.W.codeIn K cd10 "unlike" = true) (k10 : PySem.W.keepIn K (.ref f10) = true)
    (a11 : PySem.W.nsIn K mainGlobals "stays_in" = some (some (.ref f11))) (l11 : K.lookup f11 = some ⟨oc11, od11, .func (PySem.W.fnOf "stays_in" "stays_in" (defArgs sStays) (defBody sStays) (defScope sStays) .none kV11 dc11 pm11 an11 cd11 ct11), sl11⟩) (c11 : PySem.W.codeIn K cd11 "stays_in" = true) (k11 : PySem.W.keepIn K (.ref f11) = true)
    (a12 : PySem.W.nsIn K mainGlobals "calls_to_rest" = some (some (.ref f12))) (l12 : K.lookup f12 = some ⟨oc12, od12, .func (PySem.W.fnOf "calls_to_rest" "calls_to_rest" (defArgs sCalls) (defBody sCalls) (defScope sCalls) .none kV12 dc12 pm12 an12 cd12 ct12), sl12⟩) (c12 : PySem.W.codeIn K cd12 "calls_to_rest" = true) (k12 : PySem.W.keepIn K (.ref f12) = true)
    (a13 : PySem.W.nsIn K mainGlobals "count_near_rests" = some (some (.ref f13))) (l13 : K.lookup f13 = some ⟨oc13, od13, .func (PySem.W.fnOf "count_near_rests" "count_near_rests" (defArgs sCount) (defBody sCount) (defScope sCount) .none kV13 dc13 pm13 an13 cd13 ct13), sl13⟩) (c13 : PySem.W.codeIn K cd13 "count_near_rests" = true) (k13 : PySem.W.keepIn K (.ref f13) = true)
    (a14 : PySem.W.nsIn K mainGlobals "near_rests" = some (some (.ref f14))) (l14 : K.lookup f14 = some ⟨oc14, od14, .func (PySem.W.fnOf "near_rests" "near_rests" (defArgs sNear) (defBody sNear) (defScope sNear) .none kV14 dc14 pm14 an14 cd14 ct14), sl14⟩) (c14 : PySem.W.codeIn K cd14 "near_rests" = true) (k14 : PySem.W.keepIn K (.ref f14) = true)
    (a15 : PySem.W.nsIn K mainGlobals "_law_taken" = some (some (.ref f15))) (l15 : K.lookup f15 = some ⟨oc15, od15, .func (PySem.W.fnOf "_law_taken" "_law_taken" (defArgs sDraw) (defBody sDraw) (defScope sDraw) .none kV15 dc15 pm15 an15 cd15 ct15), sl15⟩) (c15 : PySem.W.codeIn K cd15 "_law_taken" = true) (k15 : PySem.W.keepIn K (.ref f15) = true)
    (a16 : PySem.W.nsIn K mainGlobals "_law_pick" = some (some (.ref f16))) (l16 : K.lookup f16 = some ⟨oc16, od16, .func (PySem.W.fnOf "_law_pick" "_law_pick" (defArgs sPick) (defBody sPick) (defScope sPick) .none kV16 dc16 pm16 an16 cd16 ct16), sl16⟩) (c16 : PySem.W.codeIn K cd16 "_law_pick" = true) (k16 : PySem.W.keepIn K (.ref f16) = true)
    (a17 : PySem.W.nsIn K mainGlobals "_law_alike" = some (some (.ref f17))) (l17 : K.lookup f17 = some ⟨oc17, od17, .func (PySem.W.fnOf "_law_alike" "_law_alike" (defArgs sAlike) (defBody sAlike) (defScope sAlike) .none kV17 dc17 pm17 an17 cd17 ct17), sl17⟩) (c17 : PySem.W.codeIn K cd17 "_law_alike" = true) (k17 : PySem.W.keepIn K (.ref f17) = true)
    (a18 : PySem.W.nsIn K mainGlobals "_law_street" = some (some (.ref f18))) (l18 : K.lookup f18 = some ⟨oc18, od18, .func (PySem.W.fnOf "_law_street" "_law_street" (defArgs sLStreet) (defBody sLStreet) (defScope sLStreet) .none kV18 dc18 pm18 an18 cd18 ct18), sl18⟩) (c18 : PySem.W.codeIn K cd18 "_law_street" = true) (k18 : PySem.W.keepIn K (.ref f18) = true)
    (a19 : PySem.W.nsIn K mainGlobals "_law_state" = some (some (.ref f19))) (l19 : K.lookup f19 = some ⟨oc19, od19, .func (PySem.W.fnOf "_law_state" "_law_state" (defArgs sLState) (defBody sLState) (defScope sLState) .none kV19 dc19 pm19 an19 cd19 ct19), sl19⟩) (c19 : PySem.W.codeIn K cd19 "_law_state" = true) (k19 : PySem.W.keepIn K (.ref f19) = true)
    (a20 : PySem.W.nsIn K mainGlobals "_law_filled" = some (some (.ref f20))) (l20 : K.lookup f20 = some ⟨oc20, od20, .func (PySem.W.fnOf "_law_filled" "_law_filled" (defArgs sFilled) (defBody sFilled) (defScope sFilled) .none kV20 dc20 pm20 an20 cd20 ct20), sl20⟩) (c20 : PySem.W.codeIn K cd20 "_law_filled" = true) (k20 : PySem.W.keepIn K (.ref f20) = true)
    (a21 : PySem.W.nsIn K mainGlobals "_law_rests" = some (some (.ref f21))) (l21 : K.lookup f21 = some ⟨oc21, od21, .func (PySem.W.fnOf "_law_rests" "_law_rests" (defArgs sLRests) (defBody sLRests) (defScope sLRests) .none kV21 dc21 pm21 an21 cd21 ct21), sl21⟩) (c21 : PySem.W.codeIn K cd21 "_law_rests" = true) (k21 : PySem.W.keepIn K (.ref f21) = true)
    (a22 : PySem.W.nsIn K mainGlobals "law" = some (some (.ref f22))) (l22 : K.lookup f22 = some ⟨oc22, od22, .func (PySem.W.fnOf "law" "law" (defArgs sLaw) (defBody sLaw) (defScope sLaw) .none kV22 dc22 pm22 an22 cd22 ct22), sl22⟩) (c22 : PySem.W.codeIn K cd22 "law" = true) (k22 : PySem.W.keepIn K (.ref f22) = true)
    (z_isi : PySem.W.nsIn K mainGlobals "isinstance" = some none)
    (z_int : PySem.W.nsIn K mainGlobals "int" = some none)
    (z_bool : PySem.W.nsIn K mainGlobals "bool" = some none)
    (z_str : PySem.W.nsIn K mainGlobals "str" = some none)
    (z_tuple : PySem.W.nsIn K mainGlobals "tuple" = some none)
    (z_list : PySem.W.nsIn K mainGlobals "list" = some none)
    (z_len : PySem.W.nsIn K mainGlobals "len" = some none)
    (z_all : PySem.W.nsIn K mainGlobals "all" = some none)
    (z_min : PySem.W.nsIn K mainGlobals "min" = some none)
    (z_max : PySem.W.nsIn K mainGlobals "max" = some none)
    (z_sorted : PySem.W.nsIn K mainGlobals "sorted" = some none)
    (z_range : PySem.W.nsIn K mainGlobals "range" = some none)
    (z_enumerate : PySem.W.nsIn K mainGlobals "enumerate" = some none)
    (z_zip : PySem.W.nsIn K mainGlobals "zip" = some none)
    (aP : PySem.W.nsIn K mainGlobals "MOST_PLACES" = some (some (.int 12 tP))) (aC : PySem.W.nsIn K mainGlobals "MOST_CARS" = some (some (.int 7 tC))) :
    ∃ fd : FuncData, (∀ (s : Shared) (v : Value), BindsTo s fd ⟨[v], []⟩ [("_law_script", v)]) ∧ ∀ base : Heap, K.In base → base.Ns mainGlobals mg → FnOk l.prog w K mg base CX0 6 fa fd ["_law_script"] (spLaw K) := by
  have e := hfa.symm.trans (PySem.W.mg_of X G a22)
  cases e
  have T : Txt mg := ⟨PySem.W.mg_none_of X G z_isi, PySem.W.mg_none_of X G z_int, PySem.W.mg_none_of X G z_bool, PySem.W.mg_none_of X G z_str, PySem.W.mg_none_of X G z_tuple, PySem.W.mg_none_of X G z_list, PySem.W.mg_none_of X G z_len, PySem.W.mg_none_of X G z_all, PySem.W.mg_none_of X G z_min, PySem.W.mg_none_of X G z_max, PySem.W.mg_none_of X G z_sorted, PySem.W.mg_none_of X G z_range, PySem.W.mg_none_of X G z_enumerate, PySem.W.mg_none_of X G z_zip, ⟨tP, PySem.W.mg_of X G aP⟩, ⟨tC, PySem.W.mg_of X G aC⟩⟩
  have F1 := fun_mk (st := sIsInt) l1 c1 k1
  have F2 := fun_mk (st := sIsIn) l2 c2 k2
  have F3 := fun_mk (st := sIsList) l3 c3 k3
  have F4 := fun_mk (st := sRoom) l4 c4 k4
  have F5 := fun_mk (st := sNeedStreet) l5 c5 k5
  have F6 := fun_mk (st := sNeedPlaces) l6 c6 k6
  have F7 := fun_mk (st := sNeedState) l7 c7 k7
  have F8 := fun_mk (st := sTaken) l8 c8 k8
  have F9 := fun_mk (st := sRestsIn) l9 c9 k9
  have F10 := fun_mk (st := sUnlike) l10 c10 k10
  have F11 := fun_mk (st := sStays) l11 c11 k11
  have F12 := fun_mk (st := sCalls) l12 c12 k12
  have F13 := fun_mk (st := sCount) l13 c13 k13
  have F14 := fun_mk (st := sNear) l14 c14 k14
  have F15 := fun_mk (st := sDraw) l15 c15 k15
  have F16 := fun_mk (st := sPick) l16 c16 k16
  have F17 := fun_mk (st := sAlike) l17 c17 k17
  have F18 := fun_mk (st := sLStreet) l18 c18 k18
  have F19 := fun_mk (st := sLState) l19 c19 k19
  have F20 := fun_mk (st := sFilled) l20 c20 k20
  have F21 := fun_mk (st := sLRests) l21 c21 k21
  have F22 := fun_mk (st := sLaw) l22 c22 k22
  have b1 := F1.binds (ps := ["value"]) fun _ _ _ _ _ _ us hl => match us, hl with | [_], _ => rfl
  have b2 := F2.binds (ps := ["value", "least", "most"]) fun _ _ _ _ _ _ us hl => match us, hl with | [_, _, _], _ => rfl
  have b3 := F3.binds (ps := ["value", "least", "most"]) fun _ _ _ _ _ _ us hl => match us, hl with | [_, _, _], _ => rfl
  have b4 := F4.binds (ps := ["places", "homes"]) fun _ _ _ _ _ _ us hl => match us, hl with | [_, _], _ => rfl
  have b5 := F5.binds (ps := ["street"]) fun _ _ _ _ _ _ us hl => match us, hl with | [_], _ => rfl
  have b6 := F6.binds (ps := ["street", "state"]) fun _ _ _ _ _ _ us hl => match us, hl with | [_, _], _ => rfl
  have b7 := F7.binds (ps := ["street", "state"]) fun _ _ _ _ _ _ us hl => match us, hl with | [_, _], _ => rfl
  have b8 := F8.binds (ps := ["homes"]) fun _ _ _ _ _ _ us hl => match us, hl with | [_], _ => rfl
  have b9 := F9.binds (ps := ["street", "state"]) fun _ _ _ _ _ _ us hl => match us, hl with | [_, _], _ => rfl
  have b10 := F10.binds (ps := ["one", "other"]) fun _ _ _ _ _ _ us hl => match us, hl with | [_, _], _ => rfl
  have b11 := F11.binds (ps := ["street", "state"]) fun _ _ _ _ _ _ us hl => match us, hl with | [_, _], _ => rfl
  have b12 := F12.binds (ps := ["street", "state"]) fun _ _ _ _ _ _ us hl => match us, hl with | [_, _], _ => rfl
  have b13 := F13.binds (ps := ["street", "state"]) fun _ _ _ _ _ _ us hl => match us, hl with | [_, _], _ => rfl
  have b14 := F14.binds (ps := ["street", "state"]) fun _ _ _ _ _ _ us hl => match us, hl with | [_, _], _ => rfl
  have b15 := F15.binds (ps := ["_law_row", "_law_many"]) fun _ _ _ _ _ _ us hl => match us, hl with | [_, _], _ => rfl
  have b16 := F16.binds (ps := ["_law_row", "_law_things"]) fun _ _ _ _ _ _ us hl => match us, hl with | [_, _], _ => rfl
  have b17 := F17.binds (ps := ["_law_found", "_law_due"]) fun _ _ _ _ _ _ us hl => match us, hl with | [_, _], _ => rfl
  have b18 := F18.binds (ps := ["_law_row", "_law_cars", "_law_places"]) fun _ _ _ _ _ _ us hl => match us, hl with | [_, _, _], _ => rfl
  have b19 := F19.binds (ps := ["_law_row", "_law_street_here"]) fun _ _ _ _ _ _ us hl => match us, hl with | [_, _], _ => rfl
  have b20 := F20.binds (ps := ["_law_homes"]) fun _ _ _ _ _ _ us hl => match us, hl with | [_], _ => rfl
  have b21 := F21.binds (ps := ["_law_street_here"]) fun _ _ _ _ _ _ us hl => match us, hl with | [_], _ => rfl
  have Z : AllF K mg (fun i => match i with | 1 => f1 | 2 => f2 | 3 => f3 | 4 => f4 | 5 => f5 | 6 => f6 | 7 => f7 | 8 => f8 | 9 => f9 | 10 => f10 | 11 => f11 | 12 => f12 | 13 => f13 | 14 => f14 | 15 => f15 | 16 => f16 | 17 => f17 | 18 => f18 | 19 => f19 | 20 => f20 | 21 => f21 | _ => fa) (fun i => match i with | 1 => (PySem.W.fnOf "is_integer" "is_integer" (defArgs sIsInt) (defBody sIsInt) (defScope sIsInt) .none kV1 dc1 pm1 an1 cd1 ct1) | 2 => (PySem.W.fnOf "is_in" "is_in" (defArgs sIsIn) (defBody sIsIn) (defScope sIsIn) .none kV2 dc2 pm2 an2 cd2 ct2) | 3 => (PySem.W.fnOf "is_list" "is_list" (defArgs sIsList) (defBody sIsList) (defScope sIsList) .none kV3 dc3 pm3 an3 cd3 ct3) | 4 => (PySem.W.fnOf "has_room" "has_room" (defArgs sRoom) (defBody sRoom) (defScope sRoom) .none kV4 dc4 pm4 an4 cd4 ct4) | 5 => (PySem.W.fnOf "need_street" "need_street" (defArgs sNeedStreet) (defBody sNeedStreet) (defScope sNeedStreet) .none kV5 dc5 pm5 an5 cd5 ct5) | 6 => (PySem.W.fnOf "need_places" "need_places" (defArgs sNeedPlaces) (defBody sNeedPlaces) (defScope sNeedPlaces) .none kV6 dc6 pm6 an6 cd6 ct6) | 7 => (PySem.W.fnOf "need_state" "need_state" (defArgs sNeedState) (defBody sNeedState) (defScope sNeedState) .none kV7 dc7 pm7 an7 cd7 ct7) | 8 => (PySem.W.fnOf "taken_in" "taken_in" (defArgs sTaken) (defBody sTaken) (defScope sTaken) .none kV8 dc8 pm8 an8 cd8 ct8) | 9 => (PySem.W.fnOf "rests_in" "rests_in" (defArgs sRestsIn) (defBody sRestsIn) (defScope sRestsIn) .none kV9 dc9 pm9 an9 cd9 ct9) | 10 => (PySem.W.fnOf "unlike" "unlike" (defArgs sUnlike) (defBody sUnlike) (defScope sUnlike) .none kV10 dc10 pm10 an10 cd10 ct10) | 11 => (PySem.W.fnOf "stays_in" "stays_in" (defArgs sStays) (defBody sStays) (defScope sStays) .none kV11 dc11 pm11 an11 cd11 ct11) | 12 => (PySem.W.fnOf "calls_to_rest" "calls_to_rest" (defArgs sCalls) (defBody sCalls) (defScope sCalls) .none kV12 dc12 pm12 an12 cd12 ct12) | 13 => (PySem.W.fnOf "count_near_rests" "count_near_rests" (defArgs sCount) (defBody sCount) (defScope sCount) .none kV13 dc13 pm13 an13 cd13 ct13) | 14 => (PySem.W.fnOf "near_rests" "near_rests" (defArgs sNear) (defBody sNear) (defScope sNear) .none kV14 dc14 pm14 an14 cd14 ct14) | 15 => (PySem.W.fnOf "_law_taken" "_law_taken" (defArgs sDraw) (defBody sDraw) (defScope sDraw) .none kV15 dc15 pm15 an15 cd15 ct15) | 16 => (PySem.W.fnOf "_law_pick" "_law_pick" (defArgs sPick) (defBody sPick) (defScope sPick) .none kV16 dc16 pm16 an16 cd16 ct16) | 17 => (PySem.W.fnOf "_law_alike" "_law_alike" (defArgs sAlike) (defBody sAlike) (defScope sAlike) .none kV17 dc17 pm17 an17 cd17 ct17) | 18 => (PySem.W.fnOf "_law_street" "_law_street" (defArgs sLStreet) (defBody sLStreet) (defScope sLStreet) .none kV18 dc18 pm18 an18 cd18 ct18) | 19 => (PySem.W.fnOf "_law_state" "_law_state" (defArgs sLState) (defBody sLState) (defScope sLState) .none kV19 dc19 pm19 an19 cd19 ct19) | 20 => (PySem.W.fnOf "_law_filled" "_law_filled" (defArgs sFilled) (defBody sFilled) (defScope sFilled) .none kV20 dc20 pm20 an20 cd20 ct20) | 21 => (PySem.W.fnOf "_law_rests" "_law_rests" (defArgs sLRests) (defBody sLRests) (defScope sLRests) .none kV21 dc21 pm21 an21 cd21 ct21) | _ => (PySem.W.fnOf "law" "law" (defArgs sLaw) (defBody sLaw) (defScope sLaw) .none kV22 dc22 pm22 an22 cd22 ct22)) :=
    ⟨F1, b1, PySem.W.mg_of X G a1, F2, b2, PySem.W.mg_of X G a2, F3, b3, PySem.W.mg_of X G a3, F4, b4, PySem.W.mg_of X G a4, F5, b5, PySem.W.mg_of X G a5, F6, b6, PySem.W.mg_of X G a6, F7, b7, PySem.W.mg_of X G a7, F8, b8, PySem.W.mg_of X G a8, F9, b9, PySem.W.mg_of X G a9, F10, b10, PySem.W.mg_of X G a10, F11, b11, PySem.W.mg_of X G a11, F12, b12, PySem.W.mg_of X G a12, F13, b13, PySem.W.mg_of X G a13, F14, b14, PySem.W.mg_of X G a14, F15, b15, PySem.W.mg_of X G a15, F16, b16, PySem.W.mg_of X G a16, F17, b17, PySem.W.mg_of X G a17, F18, b18, PySem.W.mg_of X G a18, F19, b19, PySem.W.mg_of X G a19, F20, b20, PySem.W.mg_of X G a20, F21, b21, PySem.W.mg_of X G a21⟩
  exact ⟨(PySem.W.fnOf "law" "law" (defArgs sLaw) (defBody sLaw) (defScope sLaw) .none kV22 dc22 pm22 an22 cd22 ct22), fun s v => .of_eq rfl, fun base _ _ => ok_law F22 Z T⟩
end KW
open PySem PySem.W PyProof.Rows
set_option maxHeartbeats 0 in
theorem PySem.Challenge.cw_parkback_k10_whole_near_rests_holds : PySem.Challenge.rw_parkback_k10_whole_near_rests.Holds := by
  w_on; o_law; k_head; (case hw => w_witness2)
  k_fill
  refine L2.walk_of (l := PySem.Challenge.rw_parkback_k10_whole_near_rests) (n := 63) (k := 6) (x := "_law_script") (CX := fun _ => L2.CX0) (sp := fun w => KW.spLaw _) rfl (by decide) rfl ⟨rfl, by decide, by decide⟩ (fun w h Y => PySem.W.kIn_of Y) ?F (fun _ _ a ns hl _ hS => ⟨a, ns, rfl, hS, fun _ => rfl⟩) (fun _ _ _ _ _ h => h)
  case F =>
    intro w mg fa h KX G hmg
    refine' KW.all_mk KX G hmg ?a1 ?l1 ?c1 ?k1 ?a2 ?l2 ?c2 ?k2 ?a3 ?l3 ?c3 ?k3 ?a4 ?l4 ?c4 ?k4 ?a5 ?l5 ?c5 ?k5 ?a6 ?l6 ?c6 ?k6 ?a7 ?l7 ?c7 ?k7 ?a8 ?l8 ?c8 ?k8 ?a9 ?l9 ?c9 ?k9 ?a10 ?l10 ?c10 ?k10 ?a11 ?l11 ?c11 ?k11 ?a12 ?l12 ?c12 ?k12 ?a13 ?l13 ?c13 ?k13 ?a14 ?l14 ?c14 ?k14 ?a15 ?l15 ?c15 ?k15 ?a16 ?l16 ?c16 ?k16 ?a17 ?l17 ?c17 ?k17 ?a18 ?l18 ?c18 ?k18 ?a19 ?l19 ?c19 ?k19 ?a20 ?l20 ?c20 ?k20 ?a21 ?l21 ?c21 ?k21 ?a22 ?l22 ?c22 ?k22 ?z_isi ?z_int ?z_bool ?z_str ?z_tuple ?z_list ?z_len ?z_all ?z_min ?z_max ?z_sorted ?z_range ?z_enumerate ?z_zip ?aP ?aC
    (case a1 => k_is)
    (case l1 => k_is)
    (case c1 => k_is)
    (case k1 => k_is)
    (case a2 => k_is)
    (case l2 => k_is)
    (case c2 => k_is)
    (case k2 => k_is)
    (case a3 => k_is)
    (case l3 => k_is)
    (case c3 => k_is)
    (case k3 => k_is)
    (case a4 => k_is)
    (case l4 => k_is)
    (case c4 => k_is)
    (case k4 => k_is)
    (case a5 => k_is)
    (case l5 => k_is)
    (case c5 => k_is)
    (case k5 => k_is)
    (case a6 => k_is)
    (case l6 => k_is)
    (case c6 => k_is)
    (case k6 => k_is)
    (case a7 => k_is)
    (case l7 => k_is)
    (case c7 => k_is)
    (case k7 => k_is)
    (case a8 => k_is)
    (case l8 => k_is)
    (case c8 => k_is)
    (case k8 => k_is)
    (case a9 => k_is)
    (case l9 => k_is)
    (case c9 => k_is)
    (case k9 => k_is)
    (case a10 => k_is)
    (case l10 => k_is)
    (case c10 => k_is)
    (case k10 => k_is)
    (case a11 => k_is)
    (case l11 => k_is)
    (case c11 => k_is)
    (case k11 => k_is)
    (case a12 => k_is)
    (case l12 => k_is)
    (case c12 => k_is)
    (case k12 => k_is)
    (case a13 => k_is)
    (case l13 => k_is)
    (case c13 => k_is)
    (case k13 => k_is)
    (case a14 => k_is)
    (case l14 => k_is)
    (case c14 => k_is)
    (case k14 => k_is)
    (case a15 => k_is)
    (case l15 => k_is)
    (case c15 => k_is)
    (case k15 => k_is)
    (case a16 => k_is)
    (case l16 => k_is)
    (case c16 => k_is)
    (case k16 => k_is)
    (case a17 => k_is)
    (case l17 => k_is)
    (case c17 => k_is)
    (case k17 => k_is)
    (case a18 => k_is)
    (case l18 => k_is)
    (case c18 => k_is)
    (case k18 => k_is)
    (case a19 => k_is)
    (case l19 => k_is)
    (case c19 => k_is)
    (case k19 => k_is)
    (case a20 => k_is)
    (case l20 => k_is)
    (case c20 => k_is)
    (case k20 => k_is)
    (case a21 => k_is)
    (case l21 => k_is)
    (case c21 => k_is)
    (case k21 => k_is)
    (case a22 => k_is)
    (case l22 => k_is)
    (case c22 => k_is)
    (case k22 => k_is)
    (case z_isi => k_is)
    (case z_int => k_is)
    (case z_bool => k_is)
    (case z_str => k_is)
    (case z_tuple => k_is)
    (case z_list => k_is)
    (case z_len => k_is)
    (case z_all => k_is)
    (case z_min => k_is)
    (case z_max => k_is)
    (case z_sorted => k_is)
    (case z_range => k_is)
    (case z_enumerate => k_is)
    (case z_zip => k_is)
    (case aP => k_is)
    (case aC => k_is)
