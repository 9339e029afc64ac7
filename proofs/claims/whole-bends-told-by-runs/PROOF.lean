import PyProof.Rows.All
import Wide.All
import OpenK.AllK
import Wide.FinOn
import HandS.ForMost
import HandS.Conv
import HandS.TupMul
import HandS.TupAny
import HandS.Zip
import KE.KDictKeyed
import HandS.Walk
import HandS.SetKeys
import KE.KDictWalk
import KE.GoesMore
import KE.GoesEnum
import KE.KDictPairs
import HandS.IsInst
import HandS.Style
import HandS.Deep
import HandS.TupSets
import HandS.More
import HandS.Flow
import HandS.Defaults
import HandS.Ends
import HandS.WordsExc
import HandS.HeadHook1
import HandS.HeadHook2
import HandS.HeadHook3
import PySem.Challenge.RW_flyovers_k86_whole_bends_told_by_runs
set_option Elab.async false
set_option linter.all false
set_option maxRecDepth 100000
set_option maxHeartbeats 4000000
/-! The mathematics: steps, runs, bends, tables, and the least number of runs that tell. No program in sight. -/
namespace Fv
inductive Stp where
  | dbl (k : Nat)
  | strk (k : Nat)
  | fly (a b c : Nat)
  | chs (k w p : Nat) (o : List (List Int × Nat))
def pick (o : List (List Int × Nat)) (p : Nat) (r : List Int) : Nat := o.foldl (fun acc q => if q.1 = r then q.2 else acc) p
def act {α : Type} (s : Stp) (bear : α → Int) (L : List α) : List α := match s with
  | .dbl k => L.take (k + 1) ++ L.drop k
  | .strk k => L.take k ++ L.drop (k + 1)
  | .fly a b c => L.take a ++ (L.drop b).take (c - b) ++ (L.drop a).take (b - a) ++ L.drop c
  | .chs k w p o => L.take k ++ (L.drop (k + pick o p (((L.drop k).take w).map bear))).take 1 ++ L.drop (k + w)
theorem act_map {α : Type} (s : Stp) (bear : α → Int) (L : List α) : (act s bear L).map bear = act s id (L.map bear) := by
  cases s <;> simp [act, List.map_take, List.map_drop]
def after : Stp → Nat → Nat
  | .dbl _, n => n + 1
  | .strk _, n => n - 1
  | .fly _ _ _, n => n
  | .chs _ w _ _, n => n - w + 1
/-- the order of tuples of ints -/
def lexL : List Int → List Int → Bool
  | [], [] => false
  | [], _ :: _ => true
  | _ :: _, [] => false
  | x :: xs, y :: ys => if x = y then lexL xs ys else decide (x < y)
def asc (o : List (List Int × Nat)) : Prop := ∀ i x y, o[i]? = some x → o[i + 1]? = some y → lexL x.1 y.1 = true
def okOth (letters w : Nat) (o : List (List Int × Nat)) : Prop :=
  o.length ≤ 64 ∧ (∀ q ∈ o, q.1.length = w ∧ (∀ l ∈ q.1, 0 ≤ l ∧ l < (letters : Int)) ∧ q.2 < w) ∧ asc o
def okStp (letters n : Nat) : Stp → Prop
  | .dbl k => k < n ∧ n + 1 ≤ 1000
  | .strk k => k < n ∧ 2 ≤ n
  | .fly a b c => a < b ∧ b < c ∧ c ≤ n
  | .chs k w p o => (w = 2 ∨ w = 3) ∧ k + w ≤ n ∧ p < w ∧ okOth letters w o
def okSteps (letters : Nat) : Nat → List Stp → Prop
  | _, [] => True
  | n, s :: r => okStp letters n s ∧ okSteps letters (after s n) r
def afters (n : Nat) (steps : List Stp) : Nat := steps.foldl (fun n s => after s n) n
theorem okStp_after {letters n : Nat} {s : Stp} (h : okStp letters n s) (h1 : 1 ≤ n) (h2 : n ≤ 1000) : 1 ≤ after s n ∧ after s n ≤ 1000 := by
  cases s <;> simp only [okStp, after] at * <;> omega
theorem okSteps_append {letters : Nat} : ∀ {n : Nat} {a b : List Stp}, okSteps letters n (a ++ b) ↔ okSteps letters n a ∧ okSteps letters (afters n a) b
  | n, [], b => by simp [okSteps, afters]
  | n, s :: r, b => by
    show okStp letters n s ∧ okSteps letters (after s n) (r ++ b) ↔ (okStp letters n s ∧ okSteps letters (after s n) r) ∧ okSteps letters (afters (after s n) r) b
    rw [okSteps_append]
    exact and_assoc.symm
theorem afters_append (n : Nat) (a b : List Stp) : afters n (a ++ b) = afters (afters n a) b := by unfold afters; rw [List.foldl_append]
theorem okSteps_afters {letters : Nat} : ∀ {n : Nat} {a : List Stp}, okSteps letters n a → 1 ≤ n → n ≤ 1000 → 1 ≤ afters n a ∧ afters n a ≤ 1000
  | n, [], _, h1, h2 => ⟨h1, h2⟩
  | n, s :: r, h, h1, h2 => by
    have q := okStp_after h.1 h1 h2
    exact okSteps_afters (n := after s n) (a := r) h.2 q.1 q.2
/-- the step at a place -/
theorem okSteps_at {letters : Nat} : ∀ {steps : List Stp} {n i : Nat} {s : Stp}, okSteps letters n steps → steps[i]? = some s → okStp letters (afters n (steps.take i)) s
  | t :: r, n, 0, s, h, e => by
    simp at e
    subst e
    exact h.1
  | t :: r, n, i + 1, s, h, e => by
    have q := okSteps_at (steps := r) (n := after t n) (i := i) (s := s) h.2 (by simpa using e)
    exact q
theorem pick_lt {o : List (List Int × Nat)} {p w : Nat} {r : List Int} (hp : p < w) (h : ∀ q ∈ o, q.2 < w) : pick o p r < w := by
  unfold pick
  induction o generalizing p with
  | nil => exact hp
  | cons q o ih =>
    rw [List.foldl_cons]
    refine ih ?_ fun q' hq' => h q' (List.mem_cons_of_mem _ hq')
    split
    · exact h q List.mem_cons_self
    · exact hp
theorem act_len {α : Type} {letters : Nat} {s : Stp} {bear : α → Int} {L : List α} (h : okStp letters L.length s) : (act s bear L).length = after s L.length := by
  cases s with
  | dbl k => simp only [okStp, act, after, List.length_append, List.length_take, List.length_drop] at *; omega
  | strk k => simp only [okStp, act, after, List.length_append, List.length_take, List.length_drop] at *; omega
  | fly a b c => simp only [okStp, act, after, List.length_append, List.length_take, List.length_drop] at *; omega
  | chs k w p o =>
    obtain ⟨h1, h2, h3, h4⟩ := h
    have q : pick o p (((L.drop k).take w).map bear) < w := pick_lt h3 fun q hq => (h4.2.1 q hq).2.2
    simp only [act, after, List.length_append, List.length_take, List.length_drop]
    omega
theorem act_mem {α : Type} {s : Stp} {bear : α → Int} {L : List α} {x : α} (h : x ∈ act s bear L) : x ∈ L := by
  have t : ∀ {n : Nat} {M : List α}, x ∈ M.take n → x ∈ M := fun h => List.mem_of_mem_take h
  have d : ∀ {n : Nat} {M : List α}, x ∈ M.drop n → x ∈ M := fun h => List.mem_of_mem_drop h
  cases s <;> simp only [act, List.mem_append] at h
  · rcases h with h | h
    · exact t h
    · exact d h
  · rcases h with h | h
    · exact t h
    · exact d h
  · rcases h with ((h | h) | h) | h
    · exact t h
    · exact d (t h)
    · exact d (t h)
    · exact d h
  · rcases h with (h | h) | h
    · exact t h
    · exact d (t h)
    · exact d h
def run (steps : List Stp) (row : List Int) : List Int := steps.foldl (fun r s => act s id r) row
def srcs {α : Type} (steps : List Stp) (bear : α → Int) (L : List α) : List α := steps.foldl (fun M s => act s bear M) L
theorem srcs_map {α : Type} (bear : α → Int) : ∀ (steps : List Stp) (L : List α), (srcs steps bear L).map bear = run steps (L.map bear)
  | [], _ => rfl
  | s :: r, L => by
    show (srcs r bear (act s bear L)).map bear = run r (act s id (L.map bear))
    rw [srcs_map bear r, act_map]
theorem srcs_snoc {α : Type} (bear : α → Int) (steps : List Stp) (s : Stp) (L : List α) : srcs (steps ++ [s]) bear L = act s bear (srcs steps bear L) := by
  unfold srcs; rw [List.foldl_append]; rfl
theorem run_snoc (steps : List Stp) (s : Stp) (L : List Int) : run (steps ++ [s]) L = act s id (run steps L) := by
  unfold run; rw [List.foldl_append]; rfl
theorem srcs_len {α : Type} {letters : Nat} {bear : α → Int} : ∀ {steps : List Stp} {L : List α}, okSteps letters L.length steps → (srcs steps bear L).length = afters L.length steps
  | [], _, _ => rfl
  | s :: r, L, h => by
    have e : (act s bear L).length = after s L.length := act_len h.1
    show (srcs r bear (act s bear L)).length = afters (after s L.length) r
    rw [srcs_len (letters := letters) (by rw [e]; exact h.2), e]
theorem srcs_mem {α : Type} {bear : α → Int} {x : α} : ∀ {steps : List Stp} {L : List α}, x ∈ srcs steps bear L → x ∈ L
  | [], _, h => h
  | s :: r, L, h => act_mem (srcs_mem (steps := r) (L := act s bear L) h)
theorem run_eq_srcs (steps : List Stp) (row : List Int) : run steps row = srcs steps id row := by
  have h := srcs_map (α := Int) id steps row
  rw [List.map_id, List.map_id] at h
  exact h.symm
theorem run_len {letters : Nat} {steps : List Stp} {row : List Int} (h : okSteps letters row.length steps) : (run steps row).length = afters row.length steps := by
  rw [run_eq_srcs]; exact srcs_len h
theorem run_mem {steps : List Stp} {row : List Int} {x : Int} (h : x ∈ run steps row) : x ∈ row := by
  rw [run_eq_srcs] at h; exact srcs_mem h
/-! ### bends -/
def bendsAt (i : Nat) : Stp → List (Nat × Nat)
  | .chs _ w _ _ => (List.range w).map fun p => (i, p)
  | _ => []
def bendsFrom : Nat → List Stp → List (Nat × Nat)
  | _, [] => []
  | i, s :: r => bendsAt i s ++ bendsFrom (i + 1) r
abbrev bends (steps : List Stp) : List (Nat × Nat) := bendsFrom 0 steps
theorem bendsFrom_append : ∀ (a b : List Stp) (i : Nat), bendsFrom i (a ++ b) = bendsFrom i a ++ bendsFrom (i + a.length) b
  | [], b, i => by simp [bendsFrom]
  | s :: r, b, i => by
    show bendsAt i s ++ bendsFrom (i + 1) (r ++ b) = (bendsAt i s ++ bendsFrom (i + 1) r) ++ bendsFrom (i + (r.length + 1)) b
    rw [bendsFrom_append, List.append_assoc, show i + 1 + r.length = i + (r.length + 1) by omega]
theorem bends_snoc (a : List Stp) (s : Stp) : bends (a ++ [s]) = bends a ++ bendsAt a.length s := by
  show bendsFrom 0 _ = _
  rw [bendsFrom_append]
  simp [bendsFrom]
theorem mem_bendsFrom : ∀ {steps : List Stp} {i : Nat} {b : Nat × Nat}, b ∈ bendsFrom i steps → ∃ k w p o, i ≤ b.1 ∧ steps[b.1 - i]? = some (.chs k w p o) ∧ b.2 < w
  | s :: r, i, b, h => by
    rcases List.mem_append.mp h with h | h
    · cases s with
      | chs k w p o =>
        obtain ⟨q, hq, rfl⟩ := List.mem_map.mp h
        exact ⟨k, w, p, o, Nat.le_refl _, by simp, List.mem_range.mp hq⟩
      | dbl _ => cases h
      | strk _ => cases h
      | fly _ _ _ => cases h
    · obtain ⟨k, w, p, o, h1, h2, h3⟩ := mem_bendsFrom h
      refine ⟨k, w, p, o, by omega, ?_, h3⟩
      rw [show b.1 - i = (b.1 - (i + 1)) + 1 by omega]
      simpa using h2
theorem mem_bends {steps : List Stp} {b : Nat × Nat} (h : b ∈ bends steps) : ∃ k w p o, steps[b.1]? = some (.chs k w p o) ∧ b.2 < w := by
  obtain ⟨k, w, p, o, _, h2, h3⟩ := mem_bendsFrom h
  exact ⟨k, w, p, o, by simpa using h2, h3⟩
def bentS (p : Nat) : Stp → Stp
  | .chs k w _ _ => .chs k w p []
  | s => s
def bent (steps : List Stp) (i p : Nat) : List Stp := steps.take i ++ ((steps.drop i).take 1).map (bentS p) ++ steps.drop (i + 1)
theorem bent_set {steps : List Stp} {i p : Nat} {s : Stp} (h : steps[i]? = some s) : bent steps i p = steps.set i (bentS p s) := by
  have hi := (List.getElem?_eq_some_iff.mp h).1
  have e : steps[i] = s := (List.getElem?_eq_some_iff.mp h).2
  unfold bent
  rw [List.set_eq_take_append_cons_drop, if_pos hi, List.drop_eq_getElem_cons hi, e]
  simp
theorem after_bentS (p n : Nat) (s : Stp) : after (bentS p s) n = after s n := by cases s <;> rfl
theorem ok_bentS {letters n p k w q : Nat} {o : List (List Int × Nat)} (h : okStp letters n (.chs k w q o)) (hp : p < w) : okStp letters n (bentS p (.chs k w q o)) :=
  ⟨h.1, h.2.1, hp, Nat.zero_le _, (fun _ hq => nomatch hq), fun i x y e _ => by simp at e⟩
theorem ok_set {letters : Nat} : ∀ {steps : List Stp} {n i : Nat} {s t : Stp}, okSteps letters n steps → steps[i]? = some s → (∀ m, okStp letters m s → okStp letters m t) → (∀ m, after t m = after s m) → okSteps letters n (steps.set i t)
  | u :: r, n, 0, s, t, h, e, hk, ha => by
    simp at e
    subst e
    exact ⟨hk _ h.1, by rw [ha]; exact h.2⟩
  | u :: r, n, i + 1, s, t, h, e, hk, ha => ⟨h.1, ok_set (steps := r) h.2 (by simpa using e) hk ha⟩
theorem afters_set : ∀ {steps : List Stp} {n i : Nat} {s t : Stp}, steps[i]? = some s → (∀ m, after t m = after s m) → afters n (steps.set i t) = afters n steps
  | u :: r, n, 0, s, t, e, ha => by
    simp at e
    subst e
    show afters (after t n) r = afters (after u n) r
    rw [ha]
  | u :: r, n, i + 1, s, t, e, ha => by
    show afters (after u n) (r.set i t) = afters (after u n) r
    exact afters_set (by simpa using e) ha
theorem ok_bent {letters n : Nat} {steps : List Stp} {b : Nat × Nat} (h : okSteps letters n steps) (hb : b ∈ bends steps) : okSteps letters n (bent steps b.1 b.2) ∧ afters n (bent steps b.1 b.2) = afters n steps := by
  obtain ⟨k, w, p, o, e, hp⟩ := mem_bends hb
  rw [bent_set e]
  exact ⟨ok_set h e (fun m hm => ok_bentS hm hp) fun m => after_bentS _ _ _, afters_set e fun m => after_bentS _ _ _⟩
theorem bends_bound : ∀ (steps : List Stp) (i : Nat), (∀ s ∈ steps, ∀ k w p o, s = Stp.chs k w p o → w ≤ 3) → (bendsFrom i steps).length ≤ 3 * steps.length
  | [], _, _ => Nat.le_refl _
  | s :: r, i, h => by
    have ih := bends_bound r (i + 1) fun t ht => h t (List.mem_cons_of_mem _ ht)
    show (bendsAt i s ++ bendsFrom (i + 1) r).length ≤ 3 * (r.length + 1)
    rw [List.length_append]
    have q : (bendsAt i s).length ≤ 3 := by
      cases s with
      | chs k w p o =>
        have := h _ List.mem_cons_self k w p o rfl
        simp [bendsAt]; omega
      | dbl _ => simp [bendsAt]
      | strk _ => simp [bendsAt]
      | fly _ _ _ => simp [bendsAt]
    omega
/-! ### rows -/
def rowsM (Ls : List Int) : Nat → List (List Int)
  | 0 => [[]]
  | n + 1 => (rowsM Ls n).flatMap fun r => Ls.map fun l => r ++ [l]
theorem rowsM_row {Ls : List Int} : ∀ {n : Nat} {r : List Int}, r ∈ rowsM Ls n → r.length = n ∧ ∀ l ∈ r, l ∈ Ls
  | 0, r, h => by
    simp [rowsM] at h
    subst h
    exact ⟨rfl, fun _ h => nomatch h⟩
  | n + 1, r, h => by
    obtain ⟨q, hq, h⟩ := List.mem_flatMap.mp h
    obtain ⟨l, hl, rfl⟩ := List.mem_map.mp h
    obtain ⟨h1, h2⟩ := rowsM_row hq
    refine ⟨by simp [h1], fun x hx => ?_⟩
    rcases List.mem_append.mp hx with hx | hx
    · exact h2 x hx
    · rw [List.mem_singleton.mp hx]; exact hl
theorem flat_len {α β : Type} {f : α → List β} {c : Nat} : ∀ (l : List α), (∀ x ∈ l, (f x).length = c) → (l.flatMap f).length = l.length * c
  | [], _ => by simp
  | x :: l, h => by
    rw [List.flatMap_cons, List.length_append, h x List.mem_cons_self, flat_len l fun y hy => h y (List.mem_cons_of_mem _ hy), List.length_cons, Nat.add_mul, Nat.one_mul, Nat.add_comm]
theorem rowsM_len (Ls : List Int) : ∀ n, (rowsM Ls n).length = Ls.length ^ n
  | 0 => by simp [rowsM]
  | n + 1 => by
    rw [rowsM, flat_len (c := Ls.length) _ (fun x _ => by simp), rowsM_len Ls n, Nat.pow_succ]
theorem flat_snoc {α β : Type} (f : α → List β) (l : List α) (x : α) : (l ++ [x]).flatMap f = l.flatMap f ++ f x := by simp
/-- the letters from 0 on below a number -/
def lets (n : Nat) : List Int := (List.range n).map fun (i : Nat) => (i : Int)
theorem mem_lets {n : Nat} {x : Int} (h : x ∈ lets n) : 0 ≤ x ∧ x < (n : Int) := by
  obtain ⟨i, hi, rfl⟩ := List.mem_map.mp h
  have := List.mem_range.mp hi
  omega
theorem lets_len (n : Nat) : (lets n).length = n := by simp [lets]
/-! ### unlike tables -/
section
variable {α : Type} [DecidableEq α]
def adj (acc : List α) (x : α) : List α := if x ∈ acc then acc else acc ++ [x]
def dedup (l : List α) : List α := l.foldl adj []
theorem dedup_snoc (l : List α) (x : α) : dedup (l ++ [x]) = adj (dedup l) x := by unfold dedup; rw [List.foldl_append]; rfl
theorem nodup_adj {acc : List α} {x : α} (h : acc.Nodup) : (adj acc x).Nodup := by
  unfold adj
  split
  · exact h
  · rename_i hx
    rw [List.nodup_append]
    refine ⟨h, by simp, fun a ha b hb => ?_⟩
    rw [List.mem_singleton] at hb
    subst hb
    exact fun e => hx (e ▸ ha)
theorem nodup_foldl : ∀ {l acc : List α}, acc.Nodup → (l.foldl adj acc).Nodup
  | [], _, h => h
  | x :: l, _, h => nodup_foldl (l := l) (nodup_adj (x := x) h)
theorem nodup_dedup (l : List α) : (dedup l).Nodup := nodup_foldl List.nodup_nil
theorem mem_adj {acc : List α} {x y : α} : y ∈ adj acc x ↔ y ∈ acc ∨ y = x := by
  unfold adj
  split
  · rename_i hx
    exact ⟨.inl, fun h => h.elim id fun e => e ▸ hx⟩
  · simp
theorem mem_foldl {y : α} : ∀ {l acc : List α}, y ∈ l.foldl adj acc ↔ y ∈ acc ∨ y ∈ l
  | [], acc => by simp
  | x :: l, acc => by
    rw [List.foldl_cons, mem_foldl, mem_adj, List.mem_cons, or_assoc]
theorem mem_dedup {l : List α} {y : α} : y ∈ dedup l ↔ y ∈ l := by unfold dedup; rw [mem_foldl]; simp
theorem adj_len (acc : List α) (x : α) : acc.length ≤ (adj acc x).length ∧ (adj acc x).length ≤ acc.length + 1 := by
  unfold adj
  split
  · omega
  · simp
theorem foldl_len : ∀ (l acc : List α), acc.length ≤ (l.foldl adj acc).length ∧ (l.foldl adj acc).length ≤ acc.length + l.length
  | [], acc => by simp
  | x :: l, acc => by
    have h := foldl_len l (adj acc x)
    have q := adj_len acc x
    rw [List.foldl_cons, List.length_cons]
    omega
theorem dedup_le (l : List α) : (dedup l).length ≤ l.length := by
  have h := foldl_len l ([] : List α)
  rw [List.length_nil, Nat.zero_add] at h
  exact h.2
/-- one alone, just if all are the first -/
theorem dedup_one {x : α} {l : List α} : (dedup (x :: l)).length = 1 ↔ ∀ y ∈ l, y = x := by
  constructor
  · intro h y hy
    obtain ⟨z, e⟩ := List.length_eq_one_iff.mp h
    have hx : x ∈ dedup (x :: l) := mem_dedup.mpr List.mem_cons_self
    have hy : y ∈ dedup (x :: l) := mem_dedup.mpr (List.mem_cons_of_mem _ hy)
    rw [e, List.mem_singleton] at hx hy
    rw [hx, hy]
  · intro h
    have e : ∀ m : List α, (∀ y ∈ m, y = x) → m.foldl adj [x] = [x] := by
      intro m
      induction m with
      | nil => intro _; rfl
      | cons y m ih =>
        intro hm
        have : y = x := hm y List.mem_cons_self
        subst this
        rw [List.foldl_cons, show adj [y] y = [y] from if_pos List.mem_cons_self]
        exact ih fun z hz => hm z (List.mem_cons_of_mem _ hz)
    have : dedup (x :: l) = [x] := e l h
    rw [this]; rfl
end
abbrev Tbl := List (List Int)
def tbl (rows : List (List Int)) (steps : List Stp) : Tbl := rows.map (run steps)
/-- the unlike tables of a net and of its bent ones -/
def tables (rows : List (List Int)) (steps : List Stp) : List Tbl := tbl rows steps :: (bends steps).map fun b => tbl rows (bent steps b.1 b.2)
def nets (rows : List (List Int)) (steps : List Stp) : List Tbl := dedup (tables rows steps)
/-! ### telling -/
def out (O : List Tbl) (n : Int) (r : Nat) : List Int := (O.getD n.toNat []).getD r []
def cls (O : List Tbl) (r : Nat) (lot : List Int) (k : List Int) : List Int := lot.filter fun n => decide (out O n r = k)
def Splits (O : List Tbl) (r : Nat) (lot : List Int) : Prop := ∃ a ∈ lot, ∃ b ∈ lot, out O a r ≠ out O b r
def Can (O : List Tbl) (R : Nat) : Nat → List Int → Prop
  | 0, lot => lot.length = 1
  | m + 1, lot => lot.length = 1 ∨ ∃ r, r < R ∧ Splits O r lot ∧ ∀ n ∈ lot, Can O R m (cls O r lot (out O n r))
def Via (O : List Tbl) (R : Nat) (r m : Nat) (lot : List Int) : Prop := Splits O r lot ∧ ∀ n ∈ lot, Can O R m (cls O r lot (out O n r))
def Least (O : List Tbl) (R : Nat) (lot : List Int) (v : Nat) : Prop := Can O R v lot ∧ ∀ j, j < v → ¬ Can O R j lot
structure Lot (O : List Tbl) (lot : List Int) : Prop where
  ne : lot ≠ []
  nd : lot.Nodup
  ix : ∀ n ∈ lot, 0 ≤ n ∧ n < (O.length : Int)
/-- the lots into which a row parts a lot, in some order -/
structure Parts (O : List Tbl) (r : Nat) (lot : List Int) (ps : List (List Int)) : Prop where
  ex : ∃ ks : List (List Int), ks.Nodup ∧ (∀ k, k ∈ ks ↔ ∃ n ∈ lot, out O n r = k) ∧ ps = ks.map (cls O r lot)
section
variable {O : List Tbl} {R : Nat}
theorem mem_cls {r : Nat} {lot : List Int} {k : List Int} {n : Int} : n ∈ cls O r lot k ↔ n ∈ lot ∧ out O n r = k := by
  unfold cls
  rw [List.mem_filter, decide_eq_true_eq]
theorem lot_cls {r : Nat} {lot : List Int} {n : Int} (h : Lot O lot) (hn : n ∈ lot) : Lot O (cls O r lot (out O n r)) :=
  ⟨fun e => (by
    have this : n ∈ cls O r lot (out O n r) := mem_cls.mpr ⟨hn, rfl⟩
    rw [e] at this
    exact nomatch this), h.nd.sublist List.filter_sublist, fun m hm => h.ix m (mem_cls.mp hm).1⟩
theorem cls_lt {r : Nat} {lot : List Int} {n : Int} (s : Splits O r lot) : (cls O r lot (out O n r)).length < lot.length := by
  obtain ⟨a, ha, b, hb, ne⟩ := s
  have : ∃ c ∈ lot, out O c r ≠ out O n r := by
    by_cases e : out O a r = out O n r
    · exact ⟨b, hb, fun e2 => ne (e.trans e2.symm)⟩
    · exact ⟨a, ha, e⟩
  obtain ⟨c, hc, hne⟩ := this
  unfold cls
  exact List.length_filter_lt_length_iff_exists.mpr ⟨c, hc, fun e => hne (of_decide_eq_true e)⟩
theorem can_one {m : Nat} {lot : List Int} (h : lot.length = 1) : Can O R m lot := by
  cases m with
  | zero => exact h
  | succ m => exact .inl h
theorem can_succ : ∀ {m : Nat} {lot : List Int}, Can O R m lot → Can O R (m + 1) lot
  | 0, _, h => .inl h
  | m + 1, lot, h => by
    rcases h with h | ⟨r, hr, s, h⟩
    · exact .inl h
    · exact .inr ⟨r, hr, s, fun n hn => can_succ (h n hn)⟩
theorem can_mono {m k : Nat} {lot : List Int} (h : Can O R m lot) (hk : m ≤ k) : Can O R k lot := by
  induction hk with
  | refl => exact h
  | step _ ih => exact can_succ ih
theorem via_mono {r m k : Nat} {lot : List Int} (h : Via O R r m lot) (hk : m ≤ k) : Via O R r k lot := ⟨h.1, fun n hn => can_mono (h.2 n hn) hk⟩
theorem can_iff {m : Nat} {lot : List Int} (h : lot.length ≠ 1) : Can O R (m + 1) lot ↔ ∃ r, r < R ∧ Via O R r m lot :=
  ⟨fun q => q.elim (fun e => absurd e h) fun ⟨r, a, b, c⟩ => ⟨r, a, b, c⟩, fun ⟨r, a, b, c⟩ => .inr ⟨r, a, b, c⟩⟩
theorem least_le {lot : List Int} {v m : Nat} (h : Least O R lot v) (c : Can O R m lot) : v ≤ m := by
  rcases Nat.lt_or_ge m v with q | q
  · exact absurd c (h.2 m q)
  · exact q
theorem least_uniq {lot : List Int} {v u : Nat} (h : Least O R lot v) (q : Least O R lot u) : v = u := Nat.le_antisymm (least_le h q.1) (least_le q h.1)
theorem least_one {lot : List Int} (h : lot.length = 1) : Least O R lot 0 := ⟨h, fun _ q => absurd q (Nat.not_lt_zero _)⟩
/-- two unlike nets are told apart by some row -/
theorem some_row {lot : List Int} (hO : O.Nodup) (hR : ∀ t ∈ O, t.length = R) (h : Lot O lot) (h2 : lot.length ≠ 1) : ∃ r, r < R ∧ Splits O r lot := by
  obtain ⟨a, b, t, e⟩ : ∃ a b t, lot = a :: b :: t := by
    match lot, h.ne, h2 with
    | [_], _, h2 => exact absurd rfl h2
    | a :: b :: t, _, _ => exact ⟨a, b, t, rfl⟩
  have ha : a ∈ lot := by rw [e]; exact List.mem_cons_self
  have hb : b ∈ lot := by rw [e]; exact List.mem_cons_of_mem _ List.mem_cons_self
  have nab : a ≠ b := by
    have q := h.nd
    rw [e, List.nodup_cons] at q
    intro z
    exact q.1 (z ▸ List.mem_cons_self)
  obtain ⟨a0, a1⟩ := h.ix a ha
  obtain ⟨b0, b1⟩ := h.ix b hb
  have la : a.toNat < O.length := by omega
  have lb : b.toNat < O.length := by omega
  have ne : O[a.toNat] ≠ O[b.toNat] := fun q => by
    have := (List.getElem_inj (h₀ := la) (h₁ := lb) hO).mp q
    omega
  have l1 := hR _ (List.getElem_mem la)
  have l2 := hR _ (List.getElem_mem lb)
  rcases Classical.em (∃ r, r < R ∧ out O a r ≠ out O b r) with q | q
  · obtain ⟨r, hr, q⟩ := q
    exact ⟨r, hr, a, ha, b, hb, q⟩
  · refine absurd (List.ext_getElem (by rw [l1, l2]) fun i h1 h2 => ?_) ne
    have hi : i < R := by rw [← l1]; exact h1
    have z : out O a i = out O b i := Classical.byContradiction fun z => q ⟨i, hi, z⟩
    have e1 : out O a i = O[a.toNat][i] := by
      unfold out
      rw [List.getD_eq_getElem?_getD, List.getD_eq_getElem?_getD, List.getElem?_eq_getElem la]
      simp [h1]
    have e2 : out O b i = O[b.toNat][i] := by
      unfold out
      rw [List.getD_eq_getElem?_getD, List.getD_eq_getElem?_getD, List.getElem?_eq_getElem lb]
      simp [h2]
    rw [← e1, ← e2, z]
theorem can_all (hO : O.Nodup) (hR : ∀ t ∈ O, t.length = R) : ∀ (n : Nat) {lot : List Int}, lot.length ≤ n + 1 → Lot O lot → Can O R n lot
  | 0, lot, hl, h => by
    have : lot.length ≠ 0 := fun e => h.ne (List.length_eq_zero_iff.mp e)
    show lot.length = 1
    omega
  | n + 1, lot, hl, h => by
    by_cases h1 : lot.length = 1
    · exact .inl h1
    · obtain ⟨r, hr, s⟩ := some_row hO hR h h1
      refine .inr ⟨r, hr, s, fun m hm => can_all hO hR n ?_ (lot_cls h hm)⟩
      have := cls_lt (n := m) s
      omega
theorem parts_many {r : Nat} {lot : List Int} {ps : List (List Int)} (p : Parts O r lot ps) : 1 < ps.length ↔ Splits O r lot := by
  obtain ⟨ks, nd, hk, rfl⟩ := p.ex
  rw [List.length_map]
  constructor
  · intro h
    match ks, nd, hk, h with
    | a :: b :: t, nd, hk, _ =>
      obtain ⟨x, hx, ex⟩ := (hk a).mp List.mem_cons_self
      obtain ⟨y, hy, ey⟩ := (hk b).mp (List.mem_cons_of_mem _ List.mem_cons_self)
      refine ⟨x, hx, y, hy, fun z => ?_⟩
      rw [List.nodup_cons] at nd
      refine nd.1 ?_
      rw [← ex, z, ey]
      exact List.mem_cons_self
  · rintro ⟨a, ha, b, hb, ne⟩
    have h1 := (hk _).mpr ⟨a, ha, rfl⟩
    have h2 := (hk _).mpr ⟨b, hb, rfl⟩
    match ks, h1, h2 with
    | [], h1, _ => cases h1
    | [x], h1, h2 =>
      rw [List.mem_singleton] at h1 h2
      exact absurd (h1.trans h2.symm) ne
    | x :: y :: t, _, _ => simp
theorem parts_mem {r : Nat} {lot : List Int} {ps : List (List Int)} (p : Parts O r lot ps) {q : List Int} : q ∈ ps ↔ ∃ n ∈ lot, q = cls O r lot (out O n r) := by
  obtain ⟨ks, nd, hk, rfl⟩ := p.ex
  rw [List.mem_map]
  constructor
  · rintro ⟨k, h, rfl⟩
    obtain ⟨n, hn, e⟩ := (hk k).mp h
    exact ⟨n, hn, by rw [e]⟩
  · rintro ⟨n, hn, rfl⟩
    exact ⟨_, (hk _).mpr ⟨n, hn, rfl⟩, rfl⟩
theorem parts_lot {r : Nat} {lot : List Int} {ps : List (List Int)} (p : Parts O r lot ps) (h : Lot O lot) (s : Splits O r lot) {q : List Int} (hq : q ∈ ps) : Lot O q ∧ q.length < lot.length := by
  obtain ⟨n, hn, rfl⟩ := (parts_mem p).mp hq
  exact ⟨lot_cls h hn, cls_lt s⟩
theorem parts_via {r m : Nat} {lot : List Int} {ps : List (List Int)} (p : Parts O r lot ps) (s : Splits O r lot) : Via O R r m lot ↔ ∀ q ∈ ps, Can O R m q := by
  constructor
  · rintro ⟨_, h⟩ q hq
    obtain ⟨n, hn, rfl⟩ := (parts_mem p).mp hq
    exact h n hn
  · intro h
    exact ⟨s, fun n hn => h _ ((parts_mem p).mpr ⟨n, hn, rfl⟩)⟩
theorem sub_len {β : Type} [DecidableEq β] : ∀ {a b : List β}, a.Nodup → a ⊆ b → a.length ≤ b.length
  | [], _, _, _ => Nat.zero_le _
  | x :: a, b, nd, h => by
    rw [List.nodup_cons] at nd
    have hx : x ∈ b := h List.mem_cons_self
    have q := sub_len (a := a) (b := b.erase x) nd.2 fun y hy => by
      refine (List.mem_erase_of_ne fun e => ?_).mpr (h (List.mem_cons_of_mem _ hy))
      exact nd.1 (e ▸ hy)
    rw [List.length_erase_of_mem hx] at q
    have := List.length_pos_of_mem hx
    rw [List.length_cons]
    omega
theorem parts_len {r : Nat} {lot : List Int} {ps : List (List Int)} (p : Parts O r lot ps) : ps.length ≤ lot.length := by
  obtain ⟨ks, nd, hk, rfl⟩ := p.ex
  rw [List.length_map]
  have h : ks ⊆ lot.map fun n => out O n r := fun k h => by
    obtain ⟨n, hn, e⟩ := (hk k).mp h
    exact List.mem_map.mpr ⟨n, hn, e⟩
  have := sub_len nd h
  rwa [List.length_map] at this
/-- the search of the fewest, row by row -/
def Best (O : List Tbl) (R : Nat) (lot : List Int) (i : Nat) : Option Nat → Prop
  | none => ∀ r, r < i → ¬ Splits O r lot
  | some v => ∃ u, v = u + 1 ∧ (∃ r, r < i ∧ Via O R r u lot) ∧ ∀ j r, j < u → r < i → ¬ Via O R r j lot
theorem best_zero {lot : List Int} : Best O R lot 0 none := fun _ h => absurd h (Nat.not_lt_zero _)
theorem best_skip {lot : List Int} {i : Nat} {b : Option Nat} (h : Best O R lot i b) (s : ¬ Splits O i lot) : Best O R lot (i + 1) b := by
  cases b with
  | none =>
    intro r hr
    rcases Nat.lt_succ_iff_lt_or_eq.mp hr with q | q
    · exact h r q
    · rw [q]; exact s
  | some v =>
    obtain ⟨u, e, ⟨r, hr, a⟩, c⟩ := h
    refine ⟨u, e, ⟨r, Nat.lt_succ_of_lt hr, a⟩, fun j r hj hr => ?_⟩
    rcases Nat.lt_succ_iff_lt_or_eq.mp hr with q | q
    · exact c j r hj q
    · rw [q]; exact fun z => s z.1
/-- m: the greatest of what the parts need -/
theorem via_max {r m : Nat} {lot : List Int} {ps : List (List Int)} {f : List Int → Nat} (p : Parts O r lot ps) (s : Splits O r lot) (hf : ∀ q ∈ ps, Least O R q (f q)) (hm : m ∈ ps.map f) (hle : ∀ y ∈ ps.map f, y ≤ m) :
    Via O R r m lot ∧ ∀ j, j < m → ¬ Via O R r j lot := by
  constructor
  · exact (parts_via p s).mpr fun q hq => can_mono (hf q hq).1 (hle _ (List.mem_map.mpr ⟨q, hq, rfl⟩))
  · intro j hj v
    obtain ⟨q, hq, e⟩ := List.mem_map.mp hm
    exact (hf q hq).2 j (by rw [e]; exact hj) ((parts_via p s).mp v q hq)
theorem best_new {lot : List Int} {i m : Nat} (h : Best O R lot i none) (v : Via O R i m lot) (n : ∀ j, j < m → ¬ Via O R i j lot) : Best O R lot (i + 1) (some (m + 1)) := by
  refine ⟨m, rfl, ⟨i, Nat.lt_succ_self _, v⟩, fun j r hj hr => ?_⟩
  rcases Nat.lt_succ_iff_lt_or_eq.mp hr with q | q
  · exact fun z => h r q z.1
  · rw [q]; exact n j hj
theorem best_less {lot : List Int} {i m v : Nat} (h : Best O R lot i (some v)) (a : Via O R i m lot) (n : ∀ j, j < m → ¬ Via O R i j lot) (hl : m + 1 < v) : Best O R lot (i + 1) (some (m + 1)) := by
  obtain ⟨u, e, _, c⟩ := h
  refine ⟨m, rfl, ⟨i, Nat.lt_succ_self _, a⟩, fun j r hj hr => ?_⟩
  rcases Nat.lt_succ_iff_lt_or_eq.mp hr with q | q
  · exact c j r (by omega) q
  · rw [q]; exact n j hj
theorem best_keep {lot : List Int} {i m v : Nat} (h : Best O R lot i (some v)) (n : ∀ j, j < m → ¬ Via O R i j lot) (hl : ¬ m + 1 < v) : Best O R lot (i + 1) (some v) := by
  obtain ⟨u, e, ⟨r, hr, a⟩, c⟩ := h
  refine ⟨u, e, ⟨r, Nat.lt_succ_of_lt hr, a⟩, fun j r hj hr => ?_⟩
  rcases Nat.lt_succ_iff_lt_or_eq.mp hr with q | q
  · exact c j r hj q
  · rw [q]; exact n j (by omega)
theorem best_end {lot : List Int} {b : Option Nat} (hO : O.Nodup) (hR : ∀ t ∈ O, t.length = R) (hl : Lot O lot) (h1 : lot.length ≠ 1) (h : Best O R lot R b) : ∃ v, b = some v ∧ Least O R lot v := by
  cases b with
  | none =>
    obtain ⟨r, hr, s⟩ := some_row hO hR hl h1
    exact absurd s (h r hr)
  | some v =>
    obtain ⟨u, rfl, ⟨r, hr, a⟩, c⟩ := h
    refine ⟨_, rfl, (can_iff h1).mpr ⟨r, hr, a⟩, fun j hj q => ?_⟩
    cases j with
    | zero => exact h1 q
    | succ j =>
      obtain ⟨r', hr', a'⟩ := (can_iff h1).mp q
      exact c j r' (by omega) hr' a'
end
end Fv
namespace Fv
open PySem PySem.Spec PyProof.Rows L2
/-! ### a < b < c < d < e, four comparisons -/
def tCh (r : R2) (y : V) (tb : TE) (k : V → Hp → VK → Prop) : L2.St → Hp → VK → Prop := fun σ H Q => tb σ H fun z H1 => r y z H1 fun d H2 => ∃ c, d = .bl c ∧ (if c = true then k z H2 Q else Q (.bl false) H2)
def tChain4 (r1 r2 r3 r4 : R2) (ta tb tc td te : TE) : TE := fun σ H Q => ta σ H fun x H1 => tCh r1 x tb (fun y H2 Q2 => tCh r2 y tc (fun z H3 Q3 => tCh r3 z td (fun u H4 Q4 => te σ H4 fun v H5 => r4 u v H5 Q4) σ H3 Q3) σ H2 Q2) σ H1 Q
section
variable {X : Cx}
theorem pe_chain4 {a b c d e : Expr} {ta tb tc td te : TE} {pos : Pos} {op1 op2 op3 op4 : CmpOp} {r1 r2 r3 r4 : R2} (h1 : OpR X (compareOp op1) r1) (h2 : OpR X (compareOp op2) r2) (h3 : OpR X (compareOp op3) r3) (h4 : OpR X (compareOp op4) r4)
    (ha : PE X a ta) (hb : PE X b tb) (hc : PE X c tc) (hd : PE X d td) (he : PE X e te)
    (hm : lastMarks [op1, op2, op3, op4] [b, c, d, e] = false := by with_unfolding_all rfl) : PE X (.Compare a [op1, op2, op3, op4] [b, c, d, e] pos) (tChain4 r1 r2 r3 r4 ta tb tc td te) := by
  refine ⟨fun pins s σ H Q I h => ?_⟩
  refine Compare_chain (thn (ha.run pins s σ H _ I h) fun v s1 ⟨x, H1, I1, rv1, q1⟩ => chain_link (thn (hb.run pins s1 σ H1 _ I1 q1) fun u s2 ⟨y, H2, I2, rv2, q2⟩ =>
    thn (h1 pins s2 σ H2 x y v u _ I2 rv1 rv2 q2) fun w3 s3 ⟨z3, H3, I3, rv3, k, e3, q3⟩ => ?_)) hm
  subst e3
  cases rv3
  refine wpAny_truthy_bool ?_
  cases k with
  | false => exact ite_ff ⟨.bl false, H3, I3, rfl, q3⟩
  | true =>
    refine ite_tt (chain_link (thn (hc.run pins s3 σ H3 _ I3 q3) fun u4 s4 ⟨y4, H4, I4, rv4, q4⟩ => thn (h2 pins s4 σ H4 y y4 u u4 _ I4 rv2 rv4 q4) fun w5 s5 ⟨z5, H5, I5, rv5, k5, e5, q5⟩ => ?_))
    subst e5
    cases rv5
    refine wpAny_truthy_bool ?_
    cases k5 with
    | false => exact ite_ff ⟨.bl false, H5, I5, rfl, q5⟩
    | true =>
      refine ite_tt (chain_link (thn (hd.run pins s5 σ H5 _ I5 q5) fun u6 s6 ⟨y6, H6, I6, rv6, q6⟩ => thn (h3 pins s6 σ H6 y4 y6 u4 u6 _ I6 rv4 rv6 q6) fun w7 s7 ⟨z7, H7, I7, rv7, k7, e7, q7⟩ => ?_))
      subst e7
      cases rv7
      refine wpAny_truthy_bool ?_
      cases k7 with
      | false => exact ite_ff ⟨.bl false, H7, I7, rfl, q7⟩
      | true => exact ite_tt (chain_last (thn (he.run pins s7 σ H7 _ I7 q7) fun w8 s8 ⟨z8, H8, I8, rv8, q8⟩ => h4 pins s8 σ H8 y6 z8 u6 w8 Q I8 rv6 rv8 q8))
end
/-! ### xs[lo:hi] = ys -/
section
variable {prog : Program} {w : World} {A : Around} {E : Value → Shared → Prop} {s : Shared}
set_option maxRecDepth 100000 in
theorem setItem_slice2 {l b sl : Addr} {items new : Array Value} {n n2 : Nat} {vl vu : Value} {a c : Nat} {lo hi : Option Int} {Q : Unit → Shared → Prop}
    (e : s.heap.get? l = some { cls := .type "list", data := .seq items n }) (e2 : s.heap.get? b = some { cls := .type "list", data := .seq new n2 }) (hne : l ≠ b)
    (hs : s.heap.IsSliceOf sl vl vu .none) (pl : IsPart vl lo) (pu : IsPart vu hi) (hbd : sliceBounds lo hi none items.size = ((a : Int), (c : Int), 1)) (hac : a ≤ c) (hc : c ≤ items.size)
    (hsz : items.size + new.size ≤ sizeLine) (h : Q () { s with heap := s.heap.update l (Obj.mapSeq fun xs => xs.extract 0 a ++ new ++ xs.extract c xs.size) }) :
    wpAny (model prog w) A (setItem (.ref l) (.ref sl) (.ref b)) Q E s := by
  have hl : s.heap.IsList l items := PySem.IsL.isList e
  have hb : s.heap.IsList b new := PySem.IsL.isList e2
  obtain ⟨os, hos, hcs, hds⟩ := id hs
  have hTs : s.TypeIs (.ref sl) "slice" := ⟨os, hos, hcs⟩
  have hstep : ¬ ((rawPart none == rawInt 0) = true) := Bool.false_ne_true
  have hsame : Builtin.List.listSameRef (.ref l) (.ref b) = false := by
    unfold Builtin.List.listSameRef
    exact beq_eq_false_iff_ne.mpr hne
  have hmax : (max (a : Int) (c : Int)).toNat = c := by omega
  have hz' : ((fun xs : Array Value => xs.extract 0 a ++ new ++ xs.extract c xs.size) items).size ≤ sizeLine + 1 := by
    simp only [Array.size_append, Array.size_extract]
    omega
  unfold setItem
  try with_reducible refine wpAny_holding ?_
  first | refine wpAny_bind (wpAny_pure ?_) | skip
  refine wpAny_bind (wpAny_sequenceKey hl.typeIs (by decide) ?_)
  refine wpAny_bind (wpAny_callSpecial?_slot (name := Str.ofString "__setitem__") hl.typeIs slot_list_setitem
    (wpAny_call_entry slot_list_setitem hl.typeIs entry_list_setitem ?_ (args_list_setitem _ _ _)))
  show wpAny _ _ (Builtin.List.listSubscript? (.ref sl) >>= _) _ _ s
  refine wpAny_bind ?_
  unfold Builtin.List.listSubscript?
  refine wpAny_bind (wpAny_specialOf hTs slice_no_index ?_)
  simp only [Option.isNone_none, if_true]
  refine wpAny_pure ?_
  show wpAny _ _ (typeOf (.ref sl) >>= _) _ _ s
  refine wpAny_bind (wpAny_typeOf hTs ?_)
  first
    | rw [if_neg (by decide)]
    | refine PySem.W.KFB.if_not (by decide) ?_
  rw [listSliceParts_eq]
  refine wpAny_bind (wpAny_bind (wpAny_field hos hds (x := .none) rfl (wpAny_bind (wpAny_listPart .none ?_))))
  rw [if_neg hstep]
  refine wpAny_bind (wpAny_field hos hds (x := vl) rfl (wpAny_bind (wpAny_listPart pl ?_)))
  refine wpAny_bind (wpAny_field hos hds (x := vu) rfl (wpAny_bind (wpAny_listPart pu (wpAny_pure ?_))))
  first
    | simp only [hsame, Bool.false_eq_true, if_false]
    | refine PySem.W.KFB.if_not hsame ?_
    | (dsimp only
       rw [if_neg (by rw [hsame]; exact Bool.false_ne_true)])
  refine wpAny_bind (m := Builtin.List.listAllItems (.ref b) "must assign iterable to extended slice") ?_
  unfold Builtin.List.listAllItems
  refine wpAny_bind (wpAny_typeOf hb.typeIs ?_)
  first
    | refine PySem.W.KFB.if_so (by decide) ?_
    | rw [if_pos (by decide)]
    | simp only [beq_self_eq_true, Bool.true_or, if_true]
  unfold Builtin.List.listItems
  refine wpAny_bind (wpAny_seqItems e2 rfl (wpAny_pure ?_))
  refine wpAny_bind (wpAny_bind (wpAny_seqItems e rfl (wpAny_pure ?_)))
  refine wpAny_bind (wpAny_of_eq ((sliceIndices_raw lo hi none items.size (by simp)).trans (congrArg (pure : Int × Int × Int → Sem (Int × Int × Int)) hbd)) ?_)
  show wpAny _ _ (if ((1 : Int) == 1) = true then _ else _) _ _ s
  rw [if_pos (by decide)]
  refine wpAny_bind (wpAny_rule ?_)
  first
    | simp only [notLongL hsz, Bool.false_eq_true, if_false]
    | refine PySem.W.KFB.if_not (notLongL hsz) ?_
  first | refine wpAny_bind (wpAny_pure ?_) | skip
  show wpAny _ _ (updateSeq l (fun xs => xs.extract 0 ((a : Int)).toNat ++ new ++ xs.extract (max (a : Int) (c : Int)).toNat xs.size) >>= _) _ _ s
  rw [hmax, Int.toNat_natCast]
  refine wpAny_bind (wpAny_updateSeq (hz := Nat.le_trans (Nat.le_add_right _ _) hsz) (_hz' := hz') e rfl ?_)
  refine wpAny_bind (wpAny_letGo ?_)
  first
    | exact wpAny_bind (wpAny_pure (wpAny_pure ⟨.none, rfl, wpAny_pure h⟩))
    | exact wpAny_pure ⟨.none, rfl, wpAny_pure h⟩
end
theorem bounds_none (n : Nat) : sliceBounds none none none n = (((0 : Nat) : Int), (n : Int), 1) := by
  simp only [sliceBounds, Option.getD_none, show (1 : Int) > 0 by decide, if_true]
  rfl
/-- the bounds of a slice, by places -/
def SlB (lo hi : Option Int) (n a c : Nat) : Prop := (lo = none ∧ hi = none ∧ a = 0 ∧ c = n) ∨ (lo = some (a : Int) ∧ hi = some (c : Int) ∧ a ≤ c ∧ c ≤ n)
theorem SlB.run {lo hi : Option Int} {n a c : Nat} (h : SlB lo hi n a c) : sliceBounds lo hi none n = ((a : Int), (c : Int), 1) ∧ a ≤ c ∧ c ≤ n := by
  rcases h with ⟨rfl, rfl, rfl, rfl⟩ | ⟨rfl, rfl, h1, h2⟩
  · exact ⟨bounds_none _, Nat.zero_le _, Nat.le_refl _⟩
  · exact ⟨bounds_run h1 h2, h1, h2⟩
def sSl (tv to : TE) (tl th : TO) : TS := fun D σ H => tv σ H fun v H1 => to σ H1 fun o H2 => tl σ H2 fun lo H3 => th σ H3 fun hi H4 =>
  ∃ l b xs ys a c, o = .ref l ∧ v = .ref b ∧ l ≠ b ∧ H4 l = some (.lst xs) ∧ H4 b = some (.lst ys) ∧ SlB lo hi xs.length a c ∧ xs.length + ys.length ≤ sizeLine ∧ D.nx σ (upd H4 l (.lst (xs.take a ++ ys ++ xs.drop c)))
section
variable {X : Cx}
theorem ps_slset {value o : Expr} {lo hi : Option Expr} {pos pos' p2 : Pos} {tv to : TE} {tl th : TO} (hv : PE X value tv) (ho : PE X o to) (hl : PO X lo tl) (hh : PO X hi th)
    (hs : swapsWith value (some (.Subscript o (.Slice lo hi none p2) pos')) pos.line X.env = pure false := by rfl) :
    PS X (.Assign [.Subscript o (.Slice lo hi none p2) pos'] value pos) (sSl tv to tl th) := by
  refine ⟨fun pins s σ H D I h => ?_⟩
  refine wpAny_Assign_Subscript (thn (hv.run pins s σ H _ I h) fun r s1 ⟨v, H1, I1, rv, q1⟩ => thn (ho.run pins s1 σ H1 _ I1 q1) fun u s2 ⟨x, H2, I2, rx, q2⟩ => ?_) hs
  refine wpAny_Slice (thn (hl.run pins s2 σ H2 _ I2 q2) fun vl s3 ⟨lo', H3, I3, pl, q3⟩ => thn (hh.run pins s3 σ H3 _ I3 q3) fun vu s4 ⟨hi', H4, I4, pu, q4⟩ => ?_)
  rw [evalPart_none]
  refine wpAny_pure ?_
  obtain ⟨l, b, xs, ys, a, c, ex, ev, hne, hx, hy, hb, hz, q5⟩ := q4
  subst ex ev
  cases rx
  cases rv
  have I5 : Inv X pins σ H4 { s4 with heap := s4.heap.push { cls := .type "slice", data := .fields #[vl, vu, .none] } } := I4.kept (t' := s4.toks) fun b ob q => Heap.get?_push_of_some _ q
  obtain ⟨z, its, n, rr, hll, e⟩ := I5.lstM hx
  obtain ⟨z2, its2, n2, rr2, hll2, e2⟩ := I5.lstM hy
  obtain ⟨hbd, hac, hc⟩ := hb.run
  refine setItem_slice2 (a := a) (c := c) e e2 hne (Heap.IsSliceOf.new ..) pl pu (by rw [List.size_toArray, ← hll]; exact hbd) hac (by rw [List.size_toArray, ← hll]; exact hc) (by rw [List.size_toArray, List.size_toArray]; omega) ⟨σ, _, ?_, q5⟩
  refine I5.lset (its' := its.take a ++ its2 ++ its.drop c) (t' := s4.toks) hx e ?_ (Vals.append (Vals.append (rr.take _) rr2) (rr.drop _)) ?_
  · exact splice_eq its its2 a c
  · rw [List.length_append, List.length_append, List.length_take, List.length_drop]
    omega
end
/-! ### a tuple times one or more -/
theorem tuple_mul1 (l : Addr) (items : Array Value) (n : Nat) (dd : Option Addr) (sl : Array (Option Value)) (u : Tok) :
    Meets (Builtin.«tuple.__mul__» ⟨[.ref l, .int 1 u], []⟩) (fun _ R s => s.heap.get? l = some { cls := .type "tuple", dict := dd, data := .seq items n, slots := sl } ∧ R (.ok (.ret (Value.ref l))) s) :=
  .of_wp fun prog w A R s h => by
    obtain ⟨hp, g, d, tk, os⟩ := s
    obtain ⟨hl, h⟩ := h
    have f1 := AutoSeq1.idx_int
    wp_walk using wpAny_loadPart' hl
    repeat (first
      | (refine wpAny_ite_false (decide_eq_false (by decide)) ?_; wp_walk using wpAny_loadPart' hl)
      | (refine wpAny_ite_true (decide_eq_true (by simp)) ?_; wp_walk using wpAny_loadPart' hl))
    exact ⟨_, rfl, h⟩
end Fv
namespace Fv
open PySem PySem.Spec PyProof.Rows L2
/-! ### a tuple times one or more -/
def rRep1 (K : PySem.W.Frag) : R2 := fun x y H Q => ∃ l k z, x = .ref l ∧ y = .int k ∧ SqT K H l [z] ∧ 1 ≤ k ∧ k ≤ 1000 ∧ (k = 1 → Q (.ref l) H) ∧ (2 ≤ k → ∀ p, H p = none → Q (.ref p) (upd H p (.tup (List.replicate k.toNat z))))
section
variable {X : Cx}
theorem op_repT1 : OpR X (binaryOp .Mult) (rRep1 X.K) := by
  intro pins s σ H x y v u Q I rx ry h
  obtain ⟨l, k, z, rfl, rfl, hT, h1, h2, q1, q2⟩ := h
  by_cases hk : k = 1
  · subst hk
    cases rx
    obtain ⟨t, rfl⟩ := ry
    obtain ⟨its, r, ⟨⟨cls, dd, data, sl⟩, ho, hc, n, hd⟩, hs⟩ := I.tuple hT
    simp only at hc hd
    subst hc hd
    exact wpAny_binaryOp_repeat_ref (T := "tuple") (U := "int") (by decide) ⟨_, ho, rfl⟩ (fun s' => typeIs_int s' 1 t) noFill_tuple_mul F.fills_int_mul F.slot_int_rmul repeat_tuple F.slot_int_index.lookup
      (call_meets F.slot_int_rmul (typeIs_int s 1 t) F.entry_int_rmul (F.args_int_rmul_2 _ _) (int_rmul_tuple 1 t l its.toArray n dd sl)
        ⟨ho, rfl, ⟨_, ho, rfl⟩, call_meets F.slot_tuple_mul ⟨_, ho, rfl⟩ F.entry_tuple_mul (F.args_tuple_mul_2 _ _) (tuple_mul1 l its.toArray n dd sl t) ⟨ho, ⟨.ref l, H, I, rfl, q1 rfl⟩⟩⟩)
  · refine op_repT pins s σ H _ _ v u Q I rx ry ⟨l, k, [z], rfl, rfl, hT, by simp, by omega, h2, by simp, fun p hp => ?_⟩
    have e : (List.replicate k.toNat [z]).flatten = List.replicate k.toNat z := by
      generalize k.toNat = m
      induction m with
      | zero => rfl
      | succ m ih => rw [List.replicate_succ, List.flatten_cons, ih, List.replicate_succ]; rfl
    rw [e]
    exact q2 (by omega) p hp
end
/-! ### enumerate of a tuple -/
def IteT (K : PySem.W.Frag) (a : Addr) : It :=
  ⟨fun i H => ∃ (xs : List V) (x : V), SqT K H a xs ∧ xs[i]? = some x, fun i H v H' => ∃ T x, v = .ref T ∧ H T = none ∧ H' = upd H T (.tup [.int (i : Nat), x]) ∧ ∀ xs, SqT K H a xs → xs[i]? = some x, fun i H => ∃ xs : List V, SqT K H a xs ∧ xs.length = i⟩
theorem turn_enumT {P : Program} {w : World} {K : PySem.W.Frag} {elts : List Expr} {kk : Nat} {tpos : Pos} (a e it : Addr) :
    Turn P w K (.Tuple elts kk tpos) (IteT K a) [e, it] e (fun i h => (∃ old, IsEnum h e it ((i : Nat) : Int) old) ∧ h.IsTupleIter it a i ∧ e ≠ it) where
  mem := by simp
  obj := fun i h st b hb => by
    obtain ⟨⟨old, he⟩, ⟨o, ho, hc, hd⟩, _⟩ := st
    have e' : b = e ∨ b = it := by simpa using hb
    rcases e' with z | z
    · rw [z]; exact ⟨_, he, fun v q => nomatch q⟩
    · rw [z]; exact ⟨o, ho, fun v q => by rw [hd] at q; cases q⟩
  keep := fun i h h' st k => let ⟨⟨old, he⟩, hi, hne⟩ := st; ⟨⟨old, k e (by simp) _ he⟩, hi.at fun o q => k it (by simp) o q, hne⟩
  item := by
    intro X hP hw hK hc i pins s σ H E I hf st hg
    subst hP hw hK
    obtain ⟨⟨old, he⟩, hit, hne⟩ := st
    obtain ⟨xs, x, hq, hx⟩ := hg
    obtain ⟨its, rv, p, hz⟩ := I.tuple hq
    obtain ⟨u, hu, ru⟩ := rv.get hx
    have hel : e < s.heap.objs.size := Heap.lt_size he
    have hil : it < s.heap.objs.size := by obtain ⟨_, q, _⟩ := hit; exact Heap.lt_size q
    have hai : a ≠ it := fun z => by
      obtain ⟨o1, e1, c1, _⟩ := p
      obtain ⟨o2, e2, c2, _⟩ := hit
      rw [z, e2] at e1
      cases e1
      rw [c1] at c2
      exact absurd c2 (by decide)
    have hae : a ≠ e := fun z => by
      obtain ⟨o1, e1, c1, _⟩ := p
      rw [z, he] at e1
      cases e1
      have c2 : Value.type "enumerate" = Value.type "tuple" := c1
      exact absurd c2 (by decide)
    have D := Draws.tuple (prog := X.prog) (w := X.w) (A := X.A.in1) (I.ok.hd hc) it a hai its.toArray
    have hlt : i < its.toArray.size := by
      have := (List.getElem?_eq_some_iff.mp hu).1
      rw [List.size_toArray]; exact this
    refine wpAny_pyNext_enum_itemD D he ⟨hit, p⟩ hlt hne (by simp; exact ⟨hne, fun z => hae z.symm⟩) fun x' h' tk hx' ho hst' hT hsz hk => ?_
    have ex : x' = u := by
      have q : its.toArray[i]? = some x' := hx'
      have q2 : its.toArray[i]? = some u := by simpa using hu
      rw [q] at q2
      exact Option.some.inj q2
    subst ex
    refine ⟨_, rfl, wpAny_letOwnedTupleGo_enum (s := { s with heap := h', toks := tk + 1 }) ho fun h'' he' sb => ?_⟩
    have hT2 : h''.get? s.heap.objs.size = some { cls := .type "tuple", data := .seq #[.int i tk, x'] } := (sb.2 _ (Nat.ne_of_gt hel)).trans hT
    have new : ObjOk X.prog X.w (upd H s.heap.objs.size (.tup [.int (i : Nat), x])) h'' s.heap.objs.size (.tup [.int (i : Nat), x]) :=
      ⟨by show 2 ≤ sizeLine; decide, [.int i tk, x'], .cons ⟨_, rfl⟩ (.cons ru .nil), ⟨_, hT2, rfl, _, rfl⟩⟩
    have I1 : Inv X pins σ (upd H s.heap.objs.size (.tup [.int (i : Nat), x])) { s with heap := h'', toks := tk + 1 } :=
      I.turnedNew (ch := [e, it]) (fun b ob hb q => (sb.2 b (fun z => hb (by simp [z]))).trans (hk b ob (fun z => hb (by simp [z])) (fun z => hb (by simp [z])) q)) hf (Nat.le_refl _) new
    refine ⟨.ref s.heap.objs.size, _, I1, rfl, ⟨_, x, rfl, I.hok.fresh (Nat.le_refl _), rfl, fun ys hy => by rw [I.tuple_inj hy hq]; exact hx⟩, ⟨⟨x', ?_⟩, hst'.1.at fun o q => (sb.2 it (Ne.symm hne)).trans q, hne⟩, fun b hb => ?_⟩
    · have e1 : ((i + 1 : Nat) : Int) = (i : Int) + 1 := by omega
      rw [e1]; exact he'
    · have hb' : b < s.heap.objs.size := by
        have e' : b = e ∨ b = it := by simpa using hb
        rcases e' with z | z
        · rw [z]; exact hel
        · rw [z]; exact hil
      rw [upd_ne (Nat.ne_of_lt hb')]
      exact (hf b hb).1
  done := by
    intro X hP hw hK hc i pins s σ H E I hf st hg
    subst hP hw hK
    obtain ⟨⟨old, he⟩, hit, hne⟩ := st
    obtain ⟨xs, hq, hx⟩ := hg
    obtain ⟨its, rv, p, hz⟩ := I.tuple hq
    obtain ⟨f0, f1, f2, f3, f4, f5⟩ := hf it (by simp)
    have hl := rv.length
    have hai : a ≠ it := fun z => by
      obtain ⟨o1, e1, c1, _⟩ := p
      obtain ⟨o2, e2, c2, _⟩ := hit
      rw [z, e2] at e1
      cases e1
      rw [c1] at c2
      exact absurd c2 (by decide)
    have D := Draws.tuple (prog := X.prog) (w := X.w) (A := X.A.in1) (I.ok.hd hc) it a hai its.toArray
    have hn : its.toArray.size = i := by rw [List.size_toArray]; omega
    exact wpAny_pyNext_enum_endD D he (by rw [hn]; exact ⟨hit, p⟩) fun h' eb => ⟨rfl, I.turned (t' := s.toks) (fun b o hb q => eb b o hb q) f0 f1 f3 f4 f5⟩
  self := fun A i s Q E st h => let ⟨⟨_, he⟩, _⟩ := st; wpAny_pyIter_enum he h
def iEnumT (K : PySem.W.Frag) (ta : TA) : TI := fun σ H R => ta σ H fun vs H1 => ∃ a xs, vs = [.ref a] ∧ SqT K H1 a xs ∧ R (IteT K a) H1
/-- enumerate(v): its two new cells -/
theorem meets_enumerate_newB1 {v : Value} {o : Obj} {H : Heap → Prop} (B : Begins v o H) :
    Meets (Builtin.«enumerate.__new__» ⟨[.type "enumerate", v], []⟩) (fun _ R s => H s.heap ∧
      R (.ok (.ret (.ref (s.heap.push o).objs.size))) { s with heap := (s.heap.push o).push { cls := .type "enumerate", data := .fields #[.none, .bool false, .ref s.heap.objs.size, rawInt 0, .none, .none] } }) :=
  .of_wp fun prog w A R s h => by
    obtain ⟨hp, g, d, tk, os⟩ := s; obtain ⟨h1, h⟩ := h
    have hsub := sub_enumerate
    have q1 : ∀ {A' : Around} {E : Value → Shared → Prop} {Q : Value → Shared → Prop}, Q (.ref hp.objs.size) ⟨hp.push o, g, d, tk, os⟩ → wpAny (model prog w) A' (pyIter v) Q E ⟨hp, g, d, tk, os⟩ :=
      fun q => B.iter prog w _ _ ⟨hp, g, d, tk, os⟩ _ h1 q
    wp_walk using q1
    refine wpAny_stack_any fun st => wpAny_pure ?_
    split
    · rename_i c _ _ _ _ _
      cases (c == Value.type "enumerate")
      · wp_walk using q1
        exact ⟨_, rfl, h⟩
      · wp_walk using q1
        exact ⟨_, rfl, h⟩
    · wp_walk using q1
      exact ⟨_, rfl, h⟩
section
variable {prog : Program} {w : World} {A : Around} {E : Value → Shared → Prop} {s : Shared}
theorem enum_begins1 {v : Value} {o : Obj} {H : Heap → Prop} {Q : Value → Shared → Prop} (B : Begins v o H) (h1 : H s.heap)
    (h : ∀ h', IsEnum h' (s.heap.objs.size + 1) s.heap.objs.size 0 .none → h'.get? s.heap.objs.size = some o → h'.objs.size = s.heap.objs.size + 2 →
      (∀ b o, s.heap.get? b = some o → h'.get? b = some o) → Q (.ref (s.heap.objs.size + 1)) { s with heap := h' }) :
    wpAny (model prog w) A (call (.type "enumerate") [v]) Q E s := by
  refine callType_new F.called_enumerate (by decide) (F.typeCall_enumerate_1 _) (F.newCall_enumerate_1 _) (fun obj => F.args_object_init_2 obj _) F.entry_enumerate_new
    (meets_enumerate_newB1 B) ⟨h1, ?_⟩
  have hz : (s.heap.push o).objs.size = s.heap.objs.size + 1 := Heap.size_push ..
  show _ ∧ _
  rw [hz]
  have he : IsEnum ((s.heap.push o).push { cls := .type "enumerate", data := .fields #[.none, .bool false, .ref s.heap.objs.size, rawInt 0, .none, .none] }) (s.heap.objs.size + 1) s.heap.objs.size 0 .none := by
    have := Heap.get?_push_size (s.heap.push o) (o := { cls := .type "enumerate", data := .fields #[.none, .bool false, .ref s.heap.objs.size, rawInt 0, .none, .none] }) rfl
    rw [hz] at this; exact this
  refine ⟨⟨_, he, rfl⟩, h _ he (Heap.get?_push_of_some _ (Heap.get?_push_size _ B.free)) (by rw [Heap.size_push, hz]) fun b o x => Heap.get?_push_of_some _ (Heap.get?_push_of_some _ x)⟩
end
theorem pi_enumT {X : Cx} {e : Expr} {ta : TA} {p pos tpos : Pos} {elts : List Expr} {kk : Nat} (hg : Gl X "enumerate") (hm : X.mg "enumerate" = none) (ha : PA X [e] ta) (hs : starEach [e] X.env = [(false, eval e X.env)] := by rfl) :
    PI X (.Tuple elts kk tpos) (.Call (.Name "enumerate" p) [e] [] pos) (iEnumT X.K ta) := by
  refine ⟨fun pins s σ H R I h => ?_⟩
  refine Call_ (ld_blt I hg hm boot_enumerate (PyProof.Rows.callWith_type1 (thn (ha.run pos pins s σ H _ I h) fun us s1 ⟨vs, H1, I1, r1, q1⟩ => ?_) hs rfl))
  obtain ⟨a, xs, ex, hq, q⟩ := q1
  subst ex
  cases r1 with
  | cons r rr =>
    cases rr
    cases r
    obtain ⟨its, rv, p', hz⟩ := I1.tuple hq
    refine enum_begins1 (begins_tuple a its.toArray) p' fun h' he hit hsz hk => wpAny_pyIter_enum he ?_
    have I2 : Inv X pins σ H1 { s1 with heap := h' } := I1.kept (t' := s1.toks) hk
    refine ⟨s1.heap.objs.size + 1, [s1.heap.objs.size + 1, s1.heap.objs.size], _, _, H1, rfl, I2, turn_enumT a (s1.heap.objs.size + 1) s1.heap.objs.size, ⟨⟨.none, he⟩, ⟨_, hit, rfl, rfl⟩, Nat.succ_ne_self _⟩, fun b hb => ?_, q⟩
    have e' : b = s1.heap.objs.size + 1 ∨ b = s1.heap.objs.size := by simpa using hb
    have hle : s1.heap.objs.size ≤ b := by
      rcases e' with z | z
      · rw [z]; exact Nat.le_add_right _ _
      · rw [z]; exact Nat.le_refl _
    exact I1.fpOk hle (I1.hok.fresh hle)
theorem walk_enumT {K : PySem.W.Frag} {a : Addr} {xs : List V} : Walk (IteT K a) xs.length (fun H => SqT K H a xs) (YPair (fun i => some (.int (i : Nat))) (fun i => xs[i]?)) := by
  refine ⟨fun i _ hi q => ⟨xs, xs[i], q, by simp [hi]⟩, fun _ q => ⟨xs, q, rfl⟩, fun i H v H' _ q y => ?_⟩
  obtain ⟨T, x, h1, h2, h3, h4⟩ := y
  exact ⟨T, .int (i : Nat), x, h1, h2, h3, rfl, h4 xs q⟩
/-! ### zip of a tuple and a list -/
def ItzM (K : PySem.W.Frag) (a b : Addr) : It :=
  ⟨fun i H => ∃ (xs ys : List V) (x y : V), SqT K H a xs ∧ SqL K H b ys ∧ xs[i]? = some x ∧ ys[i]? = some y,
    fun i H v H' => ∃ T x y, v = .ref T ∧ H T = none ∧ H' = upd H T (.tup [x, y]) ∧ (∀ xs, SqT K H a xs → xs[i]? = some x) ∧ ∀ ys, SqL K H b ys → ys[i]? = some y,
    fun i H => ∃ xs ys : List V, SqT K H a xs ∧ SqL K H b ys ∧ xs.length = i ∧ ys.length = i⟩
theorem off_ne (N i j : Nat) (h : i ≠ j) : N + i ≠ N + j := by omega
theorem off_ne0 (N j : Nat) (h : 0 < j) : N ≠ N + j := by omega
theorem off_ne1 (N j : Nat) (h : 0 < j) : N + j ≠ N := by omega
theorem off_lt (N i j m : Nat) (h : N + j < m) (hi : i ≤ j) : N + i < m := by omega
theorem off_lt0 (N j m : Nat) (h : N + j < m) : N < m := by omega
theorem apart_of {h : Heap} {a b : Addr} {o1 o2 : Obj} (e1 : h.get? a = some o1) (e2 : h.get? b = some o2) (d : o1.cls ≠ o2.cls) : a ≠ b := fun z => by
  rw [z, e2] at e1
  cases e1
  exact d rfl
theorem turn_zipM {P : Program} {w : World} {K : PySem.W.Frag} {elts : List Expr} {kk : Nat} {tpos : Pos} {a b N : Addr} (ha : a < N) (hb0 : b < N) :
    Turn P w K (.Tuple elts kk tpos) (ItzM K a b) [N + 4, N + 2, N + 3, N, N + 1] (N + 4) (fun i h => IsZip h (N + 4) (N + 2) (N + 3) .none ∧ IsTupOf2 h (N + 2) (.ref N) (.ref (N + 1)) ∧ (∃ x y, IsTupOf2 h (N + 3) x y) ∧ h.IsTupleIter N a i ∧ h.IsListIter (N + 1) b i) where
  mem := by simp
  obj := fun i h st c hc => by
    obtain ⟨hz, hTI, ⟨x, y, hTO⟩, ⟨o1, e1, _, d1⟩, ⟨o2, e2, _, d2⟩⟩ := st
    have e' : c = N + 4 ∨ c = N + 2 ∨ c = N + 3 ∨ c = N ∨ c = N + 1 := by simpa using hc
    rcases e' with q | q | q | q | q
    · rw [q]; exact ⟨_, hz, fun v q => nomatch q⟩
    · rw [q]; exact ⟨_, hTI, fun v q => nomatch q⟩
    · rw [q]; exact ⟨_, hTO, fun v q => nomatch q⟩
    · rw [q]; exact ⟨o1, e1, fun v q => by rw [d1] at q; cases q⟩
    · rw [q]; exact ⟨o2, e2, fun v q => by rw [d2] at q; cases q⟩
  keep := fun i h h' st k => by
    obtain ⟨hz, hTI, ⟨x, y, hTO⟩, h1, h2⟩ := st
    exact ⟨k _ (by simp) _ hz, k _ (by simp) _ hTI, ⟨x, y, k _ (by simp) _ hTO⟩, h1.at fun o q => k _ (by simp) o q, h2.at fun o q => k _ (by simp) o q⟩
  item := by
    intro X hP hw hK hc i pins s σ H E I hf st hg
    subst hP hw hK
    obtain ⟨hz, hTI, ⟨x0, y0, hTO⟩, h1, h2⟩ := st
    obtain ⟨xs, ys, x, y, hqx, hqy, hx, hy⟩ := hg
    obtain ⟨its, rv, p, _⟩ := I.tuple hqx
    obtain ⟨its2, rv2, p2, _⟩ := I.list hqy
    obtain ⟨u, hu, ru⟩ := rv.get hx
    obtain ⟨u2, hu2, ru2⟩ := rv2.get hy
    have hzl : N + 4 < s.heap.objs.size := Heap.lt_size hz
    have D1 := Draws.tuple (prog := X.prog) (w := X.w) (A := X.A.in1) (I.ok.hd hc) N a (Nat.ne_of_lt ha) its.toArray
    have D2 := Draws.list (prog := X.prog) (w := X.w) (A := X.A.in1) (I.ok.hd hc) (N + 1) b (Nat.ne_of_lt (Nat.lt_succ_of_lt hb0)) its2.toArray
    have S : ZipSep2 (N + 4) (N + 2) (N + 3) N (N + 1) [N, a] [N + 1, b] := zip_sep2 (fp1 := [a]) (fp2 := [b]) (by simpa using ha) (by simpa using hb0)
    have l1 : i < its.toArray.size := by have := (List.getElem?_eq_some_iff.mp hu).1; rw [List.size_toArray]; exact this
    have l2 : i < its2.toArray.size := by have := (List.getElem?_eq_some_iff.mp hu2).1; rw [List.size_toArray]; exact this
    refine wpAny_pyNext_zipD2_item S D1 D2 hz hTI hTO ⟨h1, p⟩ ⟨h2, p2.isList⟩ l1 l2 fun x1 x2 h' tk g1 g2 z' TO' st1 st2 hT hsz hk => ?_
    have ex1 : x1 = u := by
      have q : its.toArray[i]? = some x1 := g1
      have q2 : its.toArray[i]? = some u := by simpa using hu
      rw [q] at q2
      exact Option.some.inj q2
    have ex2 : x2 = u2 := by
      have q : its2.toArray[i]? = some x2 := g2
      have q2 : its2.toArray[i]? = some u2 := by simpa using hu2
      rw [q] at q2
      exact Option.some.inj q2
    subst ex1 ex2
    refine ⟨_, rfl, wpAny_letOwnedTupleGo_zip (s := { s with heap := h', toks := tk }) z' fun h'' z'' sb => ?_⟩
    have hT2 : h''.get? s.heap.objs.size = some { cls := .type "tuple", data := .seq #[x1, x2] } := (sb.2 _ (Nat.ne_of_gt hzl)).trans hT
    have new : ObjOk X.prog X.w (upd H s.heap.objs.size (.tup [x, y])) h'' s.heap.objs.size (.tup [x, y]) :=
      ⟨by show 2 ≤ sizeLine; decide, [x1, x2], .cons ru (.cons ru2 .nil), ⟨_, hT2, rfl, _, rfl⟩⟩
    have I1 : Inv X pins σ (upd H s.heap.objs.size (.tup [x, y])) { s with heap := h'', toks := tk } :=
      I.turnedNew (t' := tk) (ch := [N + 4, N + 2, N + 3, N, N + 1]) (fun c o hb q => (sb.2 c (fun q' => hb (by simp [q']))).trans (hk c o (fun q' => hb (by simp [q'])) (fun q' => hb (by simp [q'])) (fun q' => hb (by simp [q'])) (fun q' => hb (by simp [q'])) q)) hf (Nat.le_refl _) new
    have n1 : (N : Nat) + 2 ≠ N + 4 := off_ne N 2 4 (by decide)
    have n2 : (N : Nat) + 3 ≠ N + 4 := off_ne N 3 4 (by decide)
    have n3 : (N : Nat) ≠ N + 4 := off_ne0 N 4 (by decide)
    have n4 : (N : Nat) + 1 ≠ N + 4 := off_ne N 1 4 (by decide)
    have n5 : (N : Nat) + 2 ≠ N + 3 := off_ne N 2 3 (by decide)
    have n6 : (N : Nat) + 2 ≠ N := off_ne1 N 2 (by decide)
    have n7 : (N : Nat) + 2 ≠ N + 1 := off_ne N 2 1 (by decide)
    refine ⟨.ref s.heap.objs.size, _, I1, rfl, ⟨_, x, y, rfl, I.hok.fresh (Nat.le_refl _), rfl, fun l hl => by rw [I.tuple_inj hl hqx]; exact hx, fun l hl => by rw [I.list_inj hl hqy]; exact hy⟩, ⟨z'', ?_, ⟨x1, x2, ?_⟩, ?_, ?_⟩, fun c hcm => ?_⟩
    · exact (sb.2 _ n1).trans (hk _ _ n1 n5 n6 n7 hTI)
    · exact (sb.2 _ n2).trans TO'
    · exact st1.1.at fun o q => (sb.2 _ n3).trans q
    · exact st2.1.at fun o q => (sb.2 _ n4).trans q
    · have hlt : c < s.heap.objs.size := by
        have e' : c = N + 4 ∨ c = N + 2 ∨ c = N + 3 ∨ c = N ∨ c = N + 1 := by simpa using hcm
        have hzl' : (N : Nat) + 4 < s.heap.objs.size := hzl
        rcases e' with q | q | q | q | q
        · rw [q]; exact hzl
        · rw [q]; exact off_lt N 2 4 _ hzl (by decide)
        · rw [q]; exact off_lt N 3 4 _ hzl (by decide)
        · rw [q]; exact off_lt0 N 4 _ hzl
        · rw [q]; exact off_lt N 1 4 _ hzl (by decide)
      rw [upd_ne (Nat.ne_of_lt hlt)]
      exact (hf c hcm).1
  done := by
    intro X hP hw hK hc i pins s σ H E I hf st hg
    subst hP hw hK
    obtain ⟨hz, hTI, ⟨x0, y0, hTO⟩, h1, h2⟩ := st
    obtain ⟨xs, ys, hqx, hqy, hx, hy⟩ := hg
    obtain ⟨its, rv, p, _⟩ := I.tuple hqx
    obtain ⟨its2, rv2, p2, _⟩ := I.list hqy
    have l1 := rv.length
    have l2 := rv2.length
    have D1 := Draws.tuple (prog := X.prog) (w := X.w) (A := X.A.in1) (I.ok.hd hc) N a (Nat.ne_of_lt ha) its.toArray
    have D2 := Draws.list (prog := X.prog) (w := X.w) (A := X.A.in1) (I.ok.hd hc) (N + 1) b (Nat.ne_of_lt (Nat.lt_succ_of_lt hb0)) its2.toArray
    have S : ZipSep2 (N + 4) (N + 2) (N + 3) N (N + 1) [N, a] [N + 1, b] := zip_sep2 (fp1 := [a]) (fp2 := [b]) (by simpa using ha) (by simpa using hb0)
    have z1 : its.toArray.size = i := by rw [List.size_toArray]; omega
    have z2 : its2.toArray.size = i := by rw [List.size_toArray]; omega
    exact wpAny_pyNext_zipD2_end (i := i) S D1 D2 hz hTI hTO ⟨h1, p⟩ ⟨h2, p2.isList⟩ (by omega) (by omega) (.inl z1.symm) fun h' tk hk => ⟨rfl, I.turnedL (t' := tk) (ch := [N + 4, N + 2, N + 3, N, N + 1]) (fun c o hb q =>
      hk c o (fun q' => hb (by simp [q'])) (fun q' => hb (by simp [q'])) (fun q' => hb (by simp [q'])) (fun q' => hb (by simp [q'])) q) hf⟩
  self := fun A i s Q E st h => wpAny_pyIter_zip st.1 h
def iZipTL (K : PySem.W.Frag) (ta : TA) : TI := fun σ H R => ta σ H fun vs H1 => ∃ a b xs ys, vs = [.ref a, .ref b] ∧ SqT K H1 a xs ∧ SqL K H1 b ys ∧ R (ItzM K a b) H1
theorem pi_zipTL {X : Cx} {e e2 : Expr} {ta : TA} {p pos tpos : Pos} {elts : List Expr} {kk : Nat} (hg : Gl X "zip") (hm : X.mg "zip" = none) (ha : PA X [e, e2] ta)
    (hs : starEach [e, e2] X.env = (false, eval e X.env) :: starEach [e2] X.env := by rfl) (hpl : (backTo pos (starEach [e2] X.env)).any (·.1) = false := by rfl) :
    PI X (.Tuple elts kk tpos) (.Call (.Name "zip" p) [e, e2] [] pos) (iZipTL X.K ta) := by
  refine ⟨fun pins s σ H R I h => ?_⟩
  refine Call_ (ld_blt I hg hm PyProof.Rows.boot_zip (PyProof.Rows.callWith_type1 (thn (ha.run pos pins s σ H _ I h) fun us s1 ⟨vs, H1, I1, r1, q1⟩ => ?_) hs hpl))
  obtain ⟨a, b, xs, ys, ex, hqx, hqy, q⟩ := q1
  subst ex
  cases r1 with
  | cons r rr =>
    cases rr with
    | cons r' rr =>
      cases rr
      cases r
      cases r'
      have fresh5 : ∀ c, c ∈ [s1.heap.objs.size + 4, s1.heap.objs.size + 2, s1.heap.objs.size + 3, s1.heap.objs.size, s1.heap.objs.size + 1] → FpOk X pins H1 c := fun c hcm => by
        have e' : c = s1.heap.objs.size + 4 ∨ c = s1.heap.objs.size + 2 ∨ c = s1.heap.objs.size + 3 ∨ c = s1.heap.objs.size ∨ c = s1.heap.objs.size + 1 := by simpa using hcm
        have hle : s1.heap.objs.size ≤ c := by
          rcases e' with z | z | z | z | z
          · rw [z]; exact Nat.le_add_right _ _
          · rw [z]; exact Nat.le_add_right _ _
          · rw [z]; exact Nat.le_add_right _ _
          · rw [z]; exact Nat.le_refl _
          · rw [z]; exact Nat.le_add_right _ _
        exact I1.fpOk hle (I1.hok.fresh hle)
      obtain ⟨its, rv, p1, _⟩ := I1.tuple hqx
      obtain ⟨its2, rv2, p2, _⟩ := I1.list hqy
      have la : a < s1.heap.objs.size := let ⟨_, e1, _⟩ := p1; Heap.lt_size e1
      refine zip_begins2 (begins_tuple a its.toArray) (begins_list b its2.toArray) p1 p2.isList fun h' hz hTI hTO h1 h2 hsz hk => wpAny_pyIter_zip hz ?_
      have I2 : Inv X pins σ H1 { s1 with heap := h' } := I1.kept (t' := s1.toks) hk
      exact ⟨s1.heap.objs.size + 4, [s1.heap.objs.size + 4, s1.heap.objs.size + 2, s1.heap.objs.size + 3, s1.heap.objs.size, s1.heap.objs.size + 1], _, _, H1, rfl, I2, turn_zipM la p2.lt, ⟨hz, hTI, ⟨_, _, hTO⟩, ⟨_, h1, rfl, rfl⟩, ⟨_, h2, rfl, rfl⟩⟩, fresh5, q⟩
theorem walk_zipM {K : PySem.W.Frag} {a b : Addr} {xs ys : List V} (hn : xs.length = ys.length) : Walk (ItzM K a b) xs.length (fun H => SqT K H a xs ∧ SqL K H b ys) (YPair (fun i => xs[i]?) (fun i => ys[i]?)) := by
  refine ⟨fun i _ hi q => ?_, fun _ q => ⟨xs, ys, q.1, q.2, rfl, hn.symm⟩, fun i H v H' _ q y => ?_⟩
  · have h2 : i < ys.length := by omega
    exact ⟨xs, ys, xs[i], ys[i], q.1, q.2, by simp [hi], by simp [h2]⟩
  · obtain ⟨T, x, z, h1, h2, h3, h4, h5⟩ := y
    exact ⟨T, x, z, h1, h2, h3, h4 xs q.1, h5 ys q.2⟩
theorem walk_zipT {K : PySem.W.Frag} {a b : Addr} {xs ys : List V} {n : Nat} (hn : n = min xs.length ys.length) : Walk (RZ.ItzT K a b) n (fun H => SqT K H a xs ∧ SqT K H b ys) (YPair (fun i => xs[i]?) (fun i => ys[i]?)) := by
  subst hn
  refine ⟨fun i _ hi q => ?_, fun _ q => ⟨xs, ys, q.1, q.2, by omega⟩, fun i H v H' _ q y => ?_⟩
  · have h1 : i < xs.length := by omega
    have h2 : i < ys.length := by omega
    exact ⟨xs, ys, xs[i], ys[i], q.1, q.2, by simp [h1], by simp [h2]⟩
  · obtain ⟨T, x, z, h1, h2, h3, h4, h5⟩ := y
    exact ⟨T, x, z, h1, h2, h3, h4 xs q.1, h5 ys q.2⟩
end Fv
namespace Fv
open PySem PySem.Spec PyProof.Rows L2
/-! ### the values of a locked dict with tuple keys -/
def ItdT (d : Addr) (o : Obj) (kvs : List (List L2.Key × V)) : It :=
  ⟨fun i H => H d = some (.frz o (.dT kvs)) ∧ i < kvs.length, fun i H x H' => H' = H ∧ ∃ k, kvs[i]? = some (k, x), fun i H => H d = some (.frz o (.dT kvs)) ∧ kvs.length ≤ i⟩
section
variable {X : Cx} {pins : List (Addr × Obj)} {σ : L2.St} {H : Hp} {s : Shared} {d : Addr} {o : Obj}
theorem frzTv {kvs : List (List L2.Key × V)} (I : L2.Inv X pins σ H s) (h : H d = some (.frz o (.dT kvs))) :
    (d == sysModules) = false ∧ s.heap.get? d = some o ∧ o.ExactDict ∧ ∃ (es : Array DictEntry) (ep : Nat), o.data = .dict es ep ∧ es.size = kvs.length ∧
      ∀ (i : Nat) (k : List L2.Key) (v : V), kvs[i]? = some (k, v) → ∃ (en : DictEntry), es[i]? = some en ∧ RelV v en.val := by
  obtain ⟨hd, z, hs, xs, pr, o', es, ep, ho, hx, hdt, he, _⟩ := I.hok d _ h
  rw [hd] at ho
  cases ho
  refine ⟨hs, hd, hx, es, ep, hdt, ?_, fun i k v e => ?_⟩
  · have l1 : es.size = xs.length := size_of_entries he
    have l2 : kvs.length = xs.length := Paired.length pr
    omega
  · obtain ⟨b, hb, e1, e2, e3⟩ := paired_get pr e
    have q := entry_at he i
    rw [hb] at q
    exact ⟨_, q, e3⟩
end
section
variable {P : Program} {w : World} {K : PySem.W.Frag} {tg : Expr} {d : Addr} {o : Obj} {es : Array DictEntry} {ep : Nat}
theorem turn_valsT {kvs : List (List L2.Key × V)} (it : Addr) (hod : o.data = .dict es ep) : Turn P w K tg (ItdT d o kvs) [it] it (fun i h => h.IsValIter it d i kvs.length ep) where
  mem := by simp
  obj := fun i h st b hb => by
    have e : b = it := by simpa using hb
    subst e
    obtain ⟨oi, e, c, dd⟩ := st
    exact ⟨oi, e, fun v z => by rw [dd] at z; cases z⟩
  keep := fun i h h' st k => st.at fun oi e => k it (by simp) oi e
  item := by
    intro X hP hw hK hc i pins s σ H E I hf st hg
    subst hP hw hK
    obtain ⟨hd, hi⟩ := hg
    obtain ⟨f0, f1, f2, f3, f4, f5⟩ := hf it (by simp)
    obtain ⟨hs, hgd, hx, es', ep', hdt, hsz, hv⟩ := frzTv I hd
    obtain ⟨rfl, rfl⟩ := dict_ep hod hdt
    obtain ⟨⟨k, v⟩, hkv⟩ : ∃ p, kvs[i]? = some p := ⟨kvs[i], List.getElem?_eq_getElem hi⟩
    obtain ⟨en, hen, ru⟩ := hv i k v hkv
    rw [← hsz] at st hi
    have een : es'[i] = en := by
      rw [Array.getElem?_eq_getElem hi] at hen
      exact Option.some.inj hen
    have hm : s.heap.DictRaw d es' ep' := ⟨o, hgd, hx, hdt⟩
    refine wpAny_pyNext_values_item_raw st hm hi fun h' st' sb => ?_
    have I1 : L2.Inv X pins σ H { s with heap := h' } := I.turned (t' := s.toks) (fun b ob hb e => (sb.2 b hb).trans e) f0 f1 f3 f4 f5
    obtain ⟨oi, e, c, dd⟩ := id st'
    refine ⟨es'[i].val, rfl, go_of (s := { s with heap := h' }) e c dd (by decide) ⟨v, H, I1, by rw [een]; exact ru, ⟨rfl, k, hkv⟩, ?_, fun b hb => (hf b hb).1⟩⟩
    show h'.IsValIter it d (i + 1) kvs.length _
    rw [← hsz]
    exact st'
  done := by
    intro X hP hw hK hc i pins s σ H E I hf st hg
    subst hP hw hK
    obtain ⟨hd, hi⟩ := hg
    obtain ⟨f0, f1, f2, f3, f4, f5⟩ := hf it (by simp)
    obtain ⟨hs, hgd, hx, es', ep', hdt, hsz, hv⟩ := frzTv I hd
    obtain ⟨rfl, rfl⟩ := dict_ep hod hdt
    rw [← hsz] at st hi
    have hm : s.heap.DictRaw d es' ep' := ⟨o, hgd, hx, hdt⟩
    exact wpAny_pyNext_values_end_raw (I.ok.hd hc) st hm hi fun h' eb => ⟨rfl, I.turned (t' := s.toks) (fun b ob hb e => eb b ob hb e) f0 f1 f3 f4 f5⟩
  self := fun A i s Q E st h => wpAny_pyIter_valiter st h
end
def iValsT (td : TE) : TI := fun σ H R => td σ H fun x H1 => ∃ d o kvs, x = .ref d ∧ H1 d = some (.frz o (.dT kvs)) ∧ R (ItdT d o kvs) H1
section
variable {X : Cx} {tg e : Expr} {td : TE} {apos cpos : Pos}
theorem pi_valuesT (he : PE X e td) (hbase : attributeBase e "values" X.env (eval e X.env) = eval e X.env := by rfl) (hline : (apos.endLine == cpos.line) = true := by rfl) : PI X tg (.Call (.Attribute e "values" apos) [] [] cpos) (iValsT td) := by
  refine ⟨fun pins s σ H R I h => ?_⟩
  refine wpAny_Call_method (T := "dict") (id := "dict.values") hbase rfl hline F.plainAttrs_dict F.slot_dict_values F.type_dict_values (thn (he.run pins s σ H _ I h) fun u s1 ⟨x, H1, I1, rx, d, o, kvs, ex, hd, q⟩ => ?_)
  subst ex
  obtain rfl : u = Value.ref d := rx
  obtain ⟨hs, hgd, hx, es, ep, hdt, hsz, hv⟩ := frzTv I1 hd
  have hm : s1.heap.DictRaw d es ep := ⟨o, hgd, hx, hdt⟩
  refine ⟨hm.typeIs, fun b q => (by cases q; exact ⟨o, hgd, hx.2.1⟩), ?_⟩
  have I2 : L2.Inv X pins σ H1 { s1 with heap := s1.heap.push { cls := .type "dict_values", data := .fields #[.ref d] } } := I1.kept (t' := s1.toks) fun b ob q => Heap.get?_push_of_some _ q
  have fin : wpAny (model X.prog X.w) X.A (pyIter (.ref s1.heap.objs.size)) (PIE X pins σ tg R) X.xe { s1 with heap := s1.heap.push { cls := .type "dict_values", data := .fields #[.ref d] } } := by
    refine wpAny_pyIter_values_raw (d := d) (es := es) (ep := ep) ⟨_, Heap.get?_push_size _ rfl, rfl, rfl⟩ ⟨o, Heap.get?_push_of_some _ hgd, hx, hdt⟩ (pi_one (tk := s1.toks) I2 _ (turn_valsT _ hdt) ⟨_, Heap.get?_push_size _ rfl, rfl, ?_⟩ q)
    rw [hsz] <;> rfl
  show wpAny _ _ (callWith cpos (.builtin "dict.values") [.ref d] [] []) _ X.xe s1
  exact method_meetsIn F.slot_dict_values F.entry_dict_values rfl (PySem.evalArgs_none ⟨rfl, hm.typeIs, F.args_dict_values_1 _, _, meets_dict_values_raw (prog := X.prog) (w := X.w) d hs, ⟨es, ep, hm⟩, fin⟩)
end
theorem walk_valuesT {d : Addr} {o : Obj} {kvs : List (List L2.Key × V)} : Walk (ItdT d o kvs) kvs.length (fun H => H d = some (.frz o (.dT kvs))) (fun i H x H' => H' = H ∧ ∃ k, kvs[i]? = some (k, x)) :=
  ⟨fun _ _ hi q => ⟨q, hi⟩, fun _ q => ⟨q, Nat.le_refl _⟩, fun _ _ _ _ _ _ y => y⟩
/-! ### d.setdefault(k, x), tuple keys -/
def tDSetdT (td ty tx : TE) : TE := fun σ H Q => td σ H fun x H1 => ∃ a, x = .ref a ∧ IsD H1 a ∧ ty σ H1 fun y H2 => tx σ H2 fun z H3 => ∃ (kvs : List (List L2.Key × V)) (k : List L2.Key) (b : Addr), H3 a = some (.dT kvs) ∧ y = .ref b ∧ H3 b = some (.tup (k.map L2.kV)) ∧ kvs.length < sizeLine ∧
  (∀ v, valV kvs k = some v → Q v H3) ∧ (valV kvs k = none → Q z (upd H3 a (.dT (putK kvs k z))))
section
variable {X : Cx} {o e f : Expr} {td ty tx : TE} {apos cpos : Pos}
theorem pe_dsetdT (hu : X.A.units + 1 < cLine) (ho : PE X o td) (he : PE X e ty) (hf : PE X f tx) (m : M2 X o "setdefault" apos e f cpos) : PE X (.Call (.Attribute o "setdefault" apos) [e, f] [] cpos) (tDSetdT td ty tx) := by
  refine ⟨fun pins s σ H Q I h => ?_⟩
  refine wpAny_Call_method m.base m.few m.line PySem.F.plainAttrs_dict PySem.F.slot_dict_setdefault PySem.F.type_dict_setdefault (thn (ho.run pins s σ H _ I h) fun u s1 ⟨x, H1, I1, rx, a, ex, d, q1⟩ => ?_)
  subst ex
  obtain rfl : u = Value.ref a := rx
  obtain ⟨t1, t2, _⟩ := isD_at I1 d
  refine ⟨t1, t2, ?_⟩
  rw [m.trees]
  refine Calls.callWith_builtin rfl (Calls.evalArgs_plain (Calls.spliced_cons (thn (he.run pins s1 σ H1 _ I1 q1) fun iv s2 ⟨y, H2, I2, ry, q2⟩ =>
    Calls.spliced_cons (thn (hf.run pins s2 σ H2 _ I2 q2) fun fv s3 ⟨z, H3, I3, rz, kvs, k, b, ea, ey, eb, hl, q3, q4⟩ => Calls.spliced_nil ?_))))
  subst ey
  cases (show iv = Value.ref b from ry)
  obtain ⟨zl, hd, xs, rel, dd⟩ := dt_of I3.hok ea
  have hz : xs.length ≤ sizeLine := by rw [← Paired.length rel]; exact zl
  have hl2 : (putK kvs k z).length ≤ sizeLine := by have := length_putK kvs k z; omega
  refine call_setdefault_heap (hsz := hz) (tupleKind_room_in1 hu) (key_of I3.hok eb) hd dd (fun p hp => ?_) fun hn h' dd' hs => ?_
  · have q := rel.val k
    rw [hp] at q
    cases q0 : valV kvs k with
    | none =>
      rw [q0] at q
      exact (show False from q).elim
    | some v0 =>
      rw [q0] at q
      exact ⟨v0, H3, I3.tok _, q, q3 v0 q0⟩
  · have q := rel.val k
    rw [hn] at q
    cases q0 : valV kvs k with
    | some v0 =>
      rw [q0] at q
      exact (show False from q).elim
    | none =>
      obtain ⟨ob, es, ep, hq, h2, h3, h4, _, h5⟩ := dd'
      refine ⟨z, _, d_write (ob := .dT (putK kvs k z)) I3 (by rw [ea]; exact True.intro) hs ⟨ob, hq⟩ ⟨hl2, hd, _, (rel.put k eb rz).keeps fun c ys ec => ?_, ob, es, ep, hq, h2, h3, h4, h5⟩, rz, q4 q0⟩
      rw [upd_ne (ne_of ec ea (fun z => nomatch z))]
      exact ec
end
/-! ### tuples of which it is known that they have no dict of their own -/
/-- a tuple object without a dict -/
def TO (o : Obj) : Prop := o.dict = none
def tTupF (t : TA) : TE := fun σ H Q => t σ H fun xs H1 => xs.length ≤ sizeLine ∧ ∀ p o, TO o → H1 p = none → Q (.ref p) (upd H1 p (.frz o (.tup xs)))
def rTupF (K : PySem.W.Frag) : List V → Hp → VK → Prop := fun xs H Q => ∃ p ys, xs = [.ref p] ∧ SqL K H p ys ∧ ∀ l o, TO o → H l = none → Q (.ref l) (upd H l (.frz o (.tup ys)))
section
variable {X : Cx}
theorem pe_tupF {es : List Expr} {x1 : Nat} {pos : Pos} {t : TA} (h : PA X es t) : PE X (.Tuple es x1 pos) (tTupF t) := by
  refine ⟨fun pins s σ H Q I hq => ?_⟩
  refine wpAny_Tuple_spliced (thn (h.run pos pins s σ H _ I hq) fun us s1 ⟨xs, H1, I1, r, z, q⟩ => ⟨by rw [← r.length]; exact z, ?_⟩)
  have hf : H1 s1.heap.objs.size = none := I1.hok.fresh (Nat.le_refl _)
  refine ⟨.ref s1.heap.objs.size, upd H1 s1.heap.objs.size (.frz { cls := .type "tuple", data := .seq us.toArray } (.tup xs)), I1.laid (t' := s1.toks) (fun b u e => Heap.get?_push_of_some _ e) (Nat.le_refl _) ?_, rfl, q _ _ rfl hf⟩
  exact ⟨Heap.get?_push_size _ rfl, z, us, r, ⟨_, Heap.get?_push_size _ rfl, rfl, _, rfl⟩⟩
theorem call_tupleF : CallR X (.type "tuple") (rTupF X.K) := by
  intro pins s σ H xs us Q I r h
  obtain ⟨p, ys, rfl, hq, q⟩ := h
  obtain ⟨u, rfl, rx⟩ := vals1 r
  cases rx
  obtain ⟨its, r', pl, hz⟩ := I.list hq
  have hlen := r'.length
  refine call_tuple_list pl.isList (fun h' kp => ?_) (by simp only [List.size_toArray] <;> omega)
  have I1 : L2.Inv X pins σ H { s with heap := h' } := I.kept (t' := s.toks) kp
  have I2 : L2.Inv X pins σ (upd H h'.objs.size (.frz { cls := .type "tuple", data := .seq its.toArray } (.tup ys))) { s with heap := h'.push { cls := .type "tuple", data := .seq its.toArray } } :=
    I1.laid (t' := s.toks) (fun b o e => Heap.get?_push_of_some _ e) (Nat.le_refl _) (show ObjOk X.prog X.w _ _ _ (.frz _ (.tup ys)) from ⟨Heap.get?_push_size _ rfl, hz, its, r', IsTup.new _ _⟩)
  exact ⟨.ref h'.objs.size, _, I2, rfl, q _ _ rfl (I1.hok.fresh (Nat.le_refl _))⟩
end
/-! ### dict(t) of a tuple of pairs with tuple keys -/
def mergeT (ps : List (List L2.Key × V)) : List (List L2.Key × V) := ps.foldl (fun acc p => putK acc p.1 p.2) []
/-- the pairs of dict(t): the pair's tuple, the key's tuple -/
structure PrT (H : Hp) (p : Addr × Addr × List L2.Key × V) : Prop where
  pair : H p.1 = some (.tup [.ref p.2.1, p.2.2.2])
  key : H p.2.1 = some (.tup (p.2.2.1.map L2.kV))
def rDictT : List V → Hp → VK → Prop := fun xs H Q => ∃ (a : Addr) (o : Obj) (ps : List (Addr × Addr × List L2.Key × V)), xs = [.ref a] ∧ TO o ∧ H a = some (.frz o (.tup (ps.map fun p => V.ref p.1))) ∧ (∀ p ∈ ps, PrT H p) ∧
  ∀ q, H q = none → Q (.ref q) (upd H q (.dT (mergeT (ps.map fun p => (p.2.2.1, p.2.2.2)))))
theorem mergeT_len : ∀ (ps acc : List (List L2.Key × V)), (ps.foldl (fun acc p => putK acc p.1 p.2) acc).length ≤ acc.length + ps.length
  | [], acc => by simp
  | p :: r, acc => by
    have h1 := mergeT_len r (putK acc p.1 p.2)
    have h2 := length_putK acc p.1 p.2
    rw [List.foldl_cons, List.length_cons]
    omega
section
variable {X : Cx}
/-- the raw pairs -/
theorem raws {pins : List (Addr × Obj)} {σ : L2.St} {H : Hp} {s : Shared} (I : L2.Inv X pins σ H s) : ∀ (ps : List (Addr × Addr × List L2.Key × V)), (∀ p ∈ ps, PrT H p) →
    ∃ zs : List ((Addr × Addr × List L2.Key × V) × Value), zs.map (·.1) = ps ∧ ∀ z ∈ zs, PrT H z.1 ∧ RelV z.1.2.2.2 z.2 ∧ s.heap.IsTuple z.1.1 #[.ref z.1.2.1, z.2]
  | [], _ => ⟨[], rfl, fun _ h => nomatch h⟩
  | p :: ps, h => by
    obtain ⟨zs, hl, hr⟩ := raws I ps fun q hq => h q (List.mem_cons_of_mem _ hq)
    obtain ⟨its, rv, pt, _⟩ := I.tuple (SqT.of (K := X.K) (h p List.mem_cons_self).pair)
    obtain ⟨u, w', rfl, r1, r2⟩ := vals2 rv
    cases r1
    refine ⟨(p, w') :: zs, by rw [List.map_cons, hl], fun z hz => ?_⟩
    rcases List.mem_cons.mp hz with e | hz
    · rw [e]
      exact ⟨h p List.mem_cons_self, r2, pt⟩
    · exact hr z hz
theorem kt_merge {H : Hp} : ∀ (zs : List ((Addr × Addr × List L2.Key × V) × Value)) (acc : List (List L2.Key × V)) (xs : List (List L2.Key × Addr × Value)), (∀ z ∈ zs, PrT H z.1 ∧ RelV z.1.2.2.2 z.2) → KT H acc xs →
    KT H ((zs.map fun z => (z.1.2.2.1, z.1.2.2.2)).foldl (fun acc p => putK acc p.1 p.2) acc) (storedAllH xs (zs.map fun z => (z.1.2.2.1, z.1.2.1, z.2)))
  | [], acc, xs, _, k => k
  | z :: zs, acc, xs, h, k => by
    obtain ⟨h1, h2⟩ := h z List.mem_cons_self
    exact kt_merge zs (putK acc z.1.2.2.1 z.1.2.2.2) (storedH xs z.1.2.2.1 z.1.2.1 z.2) (fun q hq => h q (List.mem_cons_of_mem _ hq)) (k.put z.1.2.2.1 h1.key h2)
theorem call_dictT (hc : X.calm = true) (hu : X.A.units + 64 < cLine) : CallR X (.type "dict") rDictT := by
  intro pins s σ H xs us Q I r h
  obtain ⟨a, o, ps, rfl, to, ha, hp, q⟩ := h
  obtain ⟨u, rfl, rx⟩ := vals1 r
  cases rx
  obtain ⟨ho, hz, its, rv, ob, ho', hcl, n, hdt⟩ := I.hok a _ ha
  rw [ho] at ho'
  cases ho'
  obtain ⟨zs, hl, hr⟩ := raws I ps hp
  subst hl
  rw [List.map_map] at hz rv
  rw [List.length_map] at hz
  have hil : its.length = zs.length := by rw [← rv.length]; exact List.length_map _
  have P := PairArg.tuple (prog := X.prog) (w := X.w) a its.toArray (fun i => ((zs[i]?).map (·.1.1)).getD 0) (zs.map fun z => (Value.ref z.1.2.1, z.2))
  have ok : PlainSeq "tuple" s.heap a its.toArray ∧ PairItems s.heap its.toArray (fun i => ((zs[i]?).map (·.1.1)).getD 0) (zs.map fun z => (Value.ref z.1.2.1, z.2)) := by
    refine ⟨⟨o, n, ho, hcl, to, hdt⟩, by rw [List.size_toArray, List.length_map]; exact hil, fun j k v e => ?_⟩
    rw [List.getElem?_map] at e
    obtain ⟨z, hz1, hz2⟩ := Option.map_eq_some_iff.mp e
    injection hz2 with e1 e2
    have hg : (zs.map ((fun p => V.ref p.1) ∘ (·.1)))[j]? = some (V.ref z.1.1) := by rw [List.getElem?_map, hz1] <;> rfl
    obtain ⟨u, hu1, hu2⟩ := rv.get hg
    cases hu2
    refine ⟨?_, .inl ?_⟩
    · show its.toArray[j]? = some (Value.ref (((zs[j]?).map (·.1.1)).getD 0))
      rw [hz1]
      simpa using hu1
    · show s.heap.IsTuple (((zs[j]?).map (·.1.1)).getD 0) #[k, v]
      rw [hz1, ← e1, ← e2]
      exact (hr z (List.mem_of_getElem? hz1)).2.2
  have zl : (zs.map fun z => (Value.ref z.1.2.1, z.2)).length = zs.length := List.length_map _
  refine call_dict_pairsH (knd := tupleKind (mixKind X.prog X.w)) (ps := zs.map fun z => (z.1.2.2.1, z.1.2.1, z.2)) P (I.ok.hd hc) (tupleKind_room_in1 (by show X.A.units + 1 + 1 < cLine; omega)) ok ⟨by rw [zl, List.length_map], fun i key v e => ?_⟩
    (fun h' hk x hx => ?_) (by rw [zl]; exact hz) fun h' tk hd' hk => ?_
  · have e' : (zs.map fun z => (Value.ref z.1.2.1, z.2))[i]? = some (key, v) := e
    rw [List.getElem?_map] at e'
    obtain ⟨z, hz1, hz2⟩ := Option.map_eq_some_iff.mp e'
    injection hz2 with e1 e2
    refine ⟨z.1.2.2.1, z.1.2.1, ?_, e1.symm⟩
    rw [List.getElem?_map, hz1, ← e2]
    rfl
  · obtain ⟨z, hz1, rfl⟩ := List.mem_map.mp hx
    have k0 := key_of I.hok (hr z hz1).1.key
    refine tupleKind_stays.stays (fun b o' vs m e _ => hk b o' (Nat.ne_of_lt (Heap.lt_size e)) (fun q => nomatch q) e) k0
  · obtain ⟨ob, es, ep, hq, h2, h3, h4, _, h5⟩ := hd'
    have kt := kt_merge (H := H) zs [] [] (fun z hz1 => ⟨(hr z hz1).1, (hr z hz1).2.1⟩) .nil
    have hn := I.hok.fresh (Nat.le_refl s.heap.objs.size)
    rw [List.map_map] at q
    have ml := mergeT_len (zs.map fun z => (z.1.2.2.1, z.1.2.2.2)) []
    rw [List.length_map, List.length_nil, Nat.zero_add] at ml
    refine ⟨.ref s.heap.objs.size, _, I.laid (t' := tk) (o := .dT (mergeT (zs.map ((fun p => (p.2.2.1, p.2.2.2)) ∘ (·.1))))) (fun b o' e => hk b o' (fun q => nomatch q) e) (Nat.le_refl _) ?_, rfl, q _ hn⟩
    refine ⟨Nat.le_trans ml hz, beq_eq_false_iff_ne.mpr (Ne.symm (Nat.ne_of_lt I.big)), _, kt.keeps fun c ys ec => ?_, ob, es, ep, hq, h2, h3, h4, h5⟩
    rw [upd_ne (ne_of_none ec hn)]
    exact ec
end
/-! ### dicts whose keys are tuples of any depth, their values bools -/
mutual
/-- the value is that key -/
def NV (H : Hp) : NestedKey → V → Prop
  | .none, v => v = .non
  | .num i, v => v = .int i
  | .text x, v => v = .str x
  | .tup ks, v => ∃ b vs, v = .ref b ∧ H b = some (.tup vs) ∧ NVs H ks vs
def NVs (H : Hp) : List NestedKey → List V → Prop
  | [], vs => vs = []
  | k :: ks, vs => ∃ v r, vs = v :: r ∧ NV H k v ∧ NVs H ks r
end
mutual
theorem NV.mono {H H' : Hp} (ht : ∀ b xs, H b = some (.tup xs) → H' b = some (.tup xs)) : ∀ (k : NestedKey) (v : V), NV H k v → NV H' k v
  | .none, _, h => h
  | .num _, _, h => h
  | .text _, _, h => h
  | .tup ks, v, h => by
    unfold NV at h ⊢
    obtain ⟨b, vs, e, h1, h2⟩ := h
    exact ⟨b, vs, e, ht _ _ h1, NVs.mono ht ks vs h2⟩
theorem NVs.mono {H H' : Hp} (ht : ∀ b xs, H b = some (.tup xs) → H' b = some (.tup xs)) : ∀ (ks : List NestedKey) (vs : List V), NVs H ks vs → NVs H' ks vs
  | [], _, h => h
  | k :: ks, vs, h => by
    unfold NVs at h ⊢
    obtain ⟨v, r, e, h1, h2⟩ := h
    exact ⟨v, r, e, NV.mono ht k v h1, NVs.mono ht ks r h2⟩
end
section
variable {P : Program} {w : World} {H : Hp} {h : Heap}
mutual
theorem NV.is (ok : HOk P w H h) : ∀ (k : NestedKey) (v : V) (u : Value), NV H k v → RelV v u → NestedIs h k u
  | .none, v, u, q, r => by
    unfold NV at q
    subst q
    cases r
    exact .none
  | .num i, v, u, q, r => by
    unfold NV at q
    subst q
    obtain ⟨t, rfl⟩ := r
    exact .int i t
  | .text x, v, u, q, r => by
    unfold NV at q
    subst q
    obtain ⟨t, rfl⟩ := r
    exact .text x t
  | .tup ks, v, u, q, r => by
    unfold NV at q
    obtain ⟨b, vs, rfl, h1, h2⟩ := q
    cases r
    obtain ⟨_, its, rv, o, ho, hc, n, hd⟩ := (show ObjOk P w H h b (.tup vs) from ok b _ h1)
    exact .tup ho hc hd (NVs.is ok ks vs its h2 rv)
theorem NVs.is (ok : HOk P w H h) : ∀ (ks : List NestedKey) (vs : List V) (us : List Value), NVs H ks vs → Vals vs us → NestedAll h ks us
  | [], vs, us, q, r => by
    unfold NVs at q
    subst q
    cases r
    exact .nil
  | k :: ks, vs, us, q, r => by
    unfold NVs at q
    obtain ⟨v, r', rfl, h1, h2⟩ := q
    cases r with
    | cons r1 r2 => exact .cons (NV.is ok k v _ h1 r1) (NVs.is ok ks r' _ h2 r2)
end
end
abbrev NE := NestedKey × Addr × Bool
def rawN (xs : List NE) : List (NestedKey × Addr × Value) := xs.map fun x => (x.1, x.2.1, Value.bool x.2.2)
/-- the dict at a -/
def DNO (P : Program) (w : World) (a : Addr) (xs : List NE) : HO := .ext fun h => xs.length ≤ sizeLine ∧ (a == sysModules) = false ∧
  ∃ o es ep, h.get? a = some o ∧ o.ExactDict ∧ o.data = .dict es ep ∧ es.toList = (rawN xs).map (entryOfKey (nestedKind P w)) ∧ ((rawN xs).map (·.1)).Nodup
/-- a dict with these entries stands at a, its keys' tuples too -/
structure DN (P : Program) (w : World) (H : Hp) (a : Addr) (xs : List NE) : Prop where
  at_ : H a = some (DNO P w a xs)
  keys : ∀ e ∈ xs, NV H e.1 (.ref e.2.1) ∧ e.1.depth ≤ 8
def valN (xs : List NE) (k : NestedKey) : Option Bool := (xs.find? fun x => decide (x.1 = k)).map (·.2.2)
def putN (xs : List NE) (k : NestedKey) (b : Addr) (v : Bool) : List NE := if (valN xs k).isSome then xs.map (fun x => if x.1 = k then (x.1, x.2.1, v) else x) else xs ++ [(k, b, v)]
theorem atKey_raw (k : NestedKey) : ∀ xs : List NE, (atKey (rawN xs) k).map (·.2) = (valN xs k).map Value.bool
  | [] => rfl
  | x :: xs => by
    have ih := atKey_raw k xs
    unfold atKey valN rawN at *
    rw [List.map_cons, List.find?_cons, List.find?_cons]
    by_cases e : x.1 = k
    · simp [e]
    · simp only [e, decide_false]
      exact ih
theorem atKey_some (k : NestedKey) (xs : List NE) : (atKey (rawN xs) k).isSome = (valN xs k).isSome := by
  have h := congrArg Option.isSome (atKey_raw k xs)
  rw [Option.isSome_map, Option.isSome_map] at h
  exact h
theorem raw_put (xs : List NE) (k : NestedKey) (b : Addr) (v : Bool) : storedH (rawN xs) k b (Value.bool v) = rawN (putN xs k b v) := by
  unfold storedH putN
  rw [atKey_some]
  by_cases e : (valN xs k).isSome = true
  · rw [if_pos e, if_pos e]
    unfold rawN
    rw [List.map_map, List.map_map]
    refine List.map_congr_left fun x _ => ?_
    by_cases e2 : x.1 = k
    · simp [putAt, e2]
    · simp [putAt, e2]
  · rw [if_neg e, if_neg e]
    simp [rawN]
theorem putN_len (xs : List NE) (k : NestedKey) (b : Addr) (v : Bool) : (putN xs k b v).length ≤ xs.length + 1 := by
  unfold putN
  split <;> simp
section
variable {X : Cx} {pins : List (Addr × Obj)} {σ : L2.St} {H : Hp} {s : Shared} {a b : Addr} {xs : List NE} {k : NestedKey}
theorem dn_at (I : L2.Inv X pins σ H s) (d : DN X.prog X.w H a xs) : xs.length ≤ sizeLine ∧ (a == sysModules) = false ∧ s.heap.DictOfH (nestedKind X.prog X.w) a (rawN xs) := by
  obtain ⟨⟨z, lo, o, es, ep, h1, h2, h3, h4, h5⟩, _, _⟩ := (show ObjOk X.prog X.w H s.heap a (DNO X.prog X.w a xs) from I.hok a _ d.at_)
  refine ⟨z, lo, o, es, ep, h1, h2, h3, h4, fun x hx => ?_, h5⟩
  obtain ⟨e, he, rfl⟩ := List.mem_map.mp hx
  obtain ⟨k1, k2⟩ := d.keys e he
  exact ⟨NV.is I.hok e.1 _ _ k1 rfl, k2⟩
theorem nkey (I : L2.Inv X pins σ H s) (h : NV H k (.ref b)) (hd : k.depth ≤ 8) : (nestedKind X.prog X.w).is s.heap k b := ⟨NV.is I.hok k _ _ h rfl, hd⟩
theorem dnO_ok {P : Program} {w : World} {H' : Hp} {h : Heap} (z : xs.length ≤ sizeLine) (lo : (a == sysModules) = false)
    (d : ∃ o es ep, h.get? a = some o ∧ o.ExactDict ∧ o.data = .dict es ep ∧ es.toList = (rawN xs).map (entryOfKey (nestedKind P w)) ∧ ((rawN xs).map (·.1)).Nodup) : ObjOk P w H' h a (DNO P w a xs) := by
  refine ⟨⟨z, lo, d⟩, ?_, fun h1 h2 p keep => ?_⟩
  · obtain ⟨o, _, _, e, _⟩ := d
    exact ⟨o, e⟩
  · obtain ⟨z', lo', o, es, ep, e, r⟩ := p
    exact ⟨z', lo', o, es, ep, keep o e, r⟩
theorem room_n (hu : X.A.units + 64 < cLine) : (nestedKind X.prog X.w).room X.A.in1 := by
  show X.A.units + 1 + 8 < cLine
  omega
/-- k in d, k not in d -/
def rInN (P : Program) (w : World) (neg : Bool) : R2 := fun x y H Q => ∃ (k : NestedKey) (b a : Addr) (xs : List NE), x = .ref b ∧ y = .ref a ∧ NV H k (.ref b) ∧ k.depth ≤ 8 ∧ DN P w H a xs ∧ Q (.bl (if neg then !(valN xs k).isSome else (valN xs k).isSome)) H
theorem op_notInN (hu : X.A.units + 64 < cLine) : OpR X (compareOp .NotIn) (rInN X.prog X.w true) := by
  intro pins s σ H x y v u Q I rx ry h
  obtain ⟨k, b, a, xs, rfl, rfl, h1, h2, d, q⟩ := h
  cases rx
  cases ry
  obtain ⟨z, lo, dd⟩ := dn_at I d
  refine wpAny_notIn_heap (room_n hu) (nkey I h1 h2) lo dd ?_
  rw [atKey_some]
  exact ⟨.bl (!(valN xs k).isSome), H, I.tok _, rfl, q⟩
/-- d[k], there -/
def rIxN (P : Program) (w : World) : R2 := fun x y H Q => ∃ (k : NestedKey) (b a : Addr) (xs : List NE) (v : Bool), x = .ref a ∧ y = .ref b ∧ NV H k (.ref b) ∧ k.depth ≤ 8 ∧ DN P w H a xs ∧ valN xs k = some v ∧ Q (.bl v) H
theorem ix_n (hu : X.A.units + 64 < cLine) : IxR X (rIxN X.prog X.w) := by
  intro value slice pins s σ H x y v u Q I rx ry h hs
  obtain ⟨k, b, a, xs, w', rfl, rfl, h1, h2, d, e, q⟩ := h
  cases rx
  cases ry
  obtain ⟨z, lo, dd⟩ := dn_at I d
  have e1 := atKey_raw k xs
  rw [e] at e1
  obtain ⟨p, hp, hp2⟩ := Option.map_eq_some_iff.mp e1
  refine tail_any dd.typeIs slot_dict_getitem.lookup (wpAny_getItem_heap (room_n hu) (nkey I h1 h2) dd hp ?_) hs
  rw [hp2]
  exact ⟨.bl w', H, I.tok _, rfl, q⟩
/-- d[k] = v -/
def sNPut (P : Program) (w : World) (td ty tv : TE) : TS := fun D σ H => tv σ H fun v H1 => td σ H1 fun x H2 => ty σ H2 fun y H3 => ∃ (k : NestedKey) (b a : Addr) (xs : List NE) (w' : Bool), x = .ref a ∧ y = .ref b ∧ v = .bl w' ∧ NV H3 k (.ref b) ∧ k.depth ≤ 8 ∧ DN P w H3 a xs ∧ xs.length < sizeLine ∧
  D.nx σ (upd H3 a (DNO P w a (putN xs k b w')))
theorem ps_nput {o i value : Expr} {pos pos' : Pos} {td ty tv : TE} (hu : X.A.units + 64 < cLine) (ho : PE X o td) (hi : PE X i ty) (hv : PE X value tv) (hs : swapsWith value (some (.Subscript o i pos')) pos.line X.env = pure false) :
    PS X (.Assign [.Subscript o i pos'] value pos) (sNPut X.prog X.w td ty tv) := by
  refine ⟨fun pins s σ H D I h => ?_⟩
  refine wpAny_Assign_Subscript (thn (hv.run pins s σ H _ I h) fun r s1 ⟨v, H1, I1, rv, q1⟩ => thn (ho.run pins s1 σ H1 _ I1 q1) fun u s2 ⟨x, H2, I2, rx, q2⟩ => thn (hi.run pins s2 σ H2 _ I2 q2) fun iv s3 ⟨y, H3, I3, ry, k, b, a, xs, w', ex, ey, ev, h1, h2, d, hl, q3⟩ => ?_) hs
  subst ex ey ev
  cases rx
  cases ry
  cases rv
  obtain ⟨z, lo, dd⟩ := dn_at I3 d
  have hz : (rawN xs).length ≤ sizeLine := by unfold rawN; rw [List.length_map]; exact z
  refine wpAny_setItem_heap (hsz := hz) (room_n hu) (nkey I3 h1 h2) dd fun h' dd' hs' => ⟨σ, _, ?_, q3⟩
  rw [raw_put] at dd'
  obtain ⟨ob, es, ep, e1, e2, e3, e4, _, e5⟩ := dd'
  refine d_write (ob := DNO X.prog X.w a (putN xs k b w')) I3 (by rw [d.at_]; exact True.intro) hs' ⟨ob, e1⟩ (dnO_ok (by have := putN_len xs k b w'; omega) lo ⟨ob, es, ep, e1, e2, e3, e4, e5⟩)
/-- {} -/
def tDNewN (P : Program) (w : World) : TE := fun _ H Q => ∀ p, H p = none → Q (.ref p) (upd H p (DNO P w p []))
theorem pe_dnewN {pos : Pos} : PE X (.Dict [] [] pos) (tDNewN X.prog X.w) := ⟨fun pins s σ H Q I h =>
  wpAny_Dict_empty ⟨.ref s.heap.objs.size, _, I.laid (a := s.heap.objs.size) (o := DNO X.prog X.w s.heap.objs.size []) (t' := s.toks) (fun _ _ q => Heap.get?_push_of_some _ q) (Nat.le_refl _)
    (dnO_ok (Nat.zero_le _) (beq_eq_false_iff_ne.mpr (Ne.symm (Nat.ne_of_lt I.big))) ⟨_, #[], 0, Heap.get?_push_size _ rfl, ⟨rfl, rfl, rfl⟩, rfl, rfl, List.nodup_nil⟩), rfl, h _ (I.hok.fresh (Nat.le_refl _))⟩⟩
/-- list(d) -/
theorem call_listN (hc : X.calm = true) : CallR X (.type "list") (fun xs H Q => ∃ d es, xs = [V.ref d] ∧ DN X.prog X.w H d es ∧ ∀ p, H p = none → Q (.ref p) (upd H p (.lst (es.map fun e => V.ref e.2.1)))) := by
  intro pins s σ H xs us Q I r h
  obtain ⟨d, ns, rfl, hd, q⟩ := h
  obtain ⟨u, rfl, rx⟩ := r.one
  cases rx
  obtain ⟨z, hs, o, es, ep, ho, hx, hdt, he, _, hn⟩ := dn_at I hd
  have l1 : es.size = (rawN ns).length := size_of_entries he
  have l2 : (rawN ns).length = ns.length := List.length_map _
  refine PySem.W.kdl_call (kdl_raw hs hx hdt) (I.ok.hd hc) ho (by omega) fun h' tk acc' c' kp e it => ?_
  have ea : acc'.toList = (rawN ns).map fun x => Value.ref x.2.1 := by
    have hl : acc'.toList.length = (rawN ns).length := by rw [Array.length_toList, it.1]; exact l1
    apply List.ext_getElem?
    intro j
    rw [List.getElem?_map]
    cases hj : acc'.toList[j]? with
    | none =>
      have h1 := List.getElem?_eq_none_iff.mp hj
      rw [List.getElem?_eq_none (by omega)]
      all_goals rfl
    | some v =>
      obtain ⟨en, hen, hv⟩ := it.2 j v (by rw [← Array.getElem?_toList]; exact hj)
      have qe := entry_at he j
      rw [hen] at qe
      cases hb : (rawN ns)[j]? with
      | none =>
        rw [hb] at qe
        exact nomatch (show some en = none from qe)
      | some b =>
        rw [hb] at qe
        have e2 : en = entryOfKey (nestedKind X.prog X.w) b := Option.some.inj qe
        rw [hv, e2]
        all_goals rfl
  have eb : acc'.toList = (ns.map fun x => x.2.1).map Value.ref := by rw [ea]; unfold rawN; rw [List.map_map, List.map_map]; all_goals rfl
  have rv : Vals (ns.map fun e => V.ref e.2.1) acc'.toList := by
    rw [eb]
    have := vals_refs (ns.map fun x => x.2.1)
    rw [List.map_map] at this
    exact this
  have hz : (ns.map fun e => V.ref e.2.1).length ≤ sizeLine := by rw [List.length_map]; exact z
  refine ⟨.ref s.heap.objs.size, _, I.laid (t' := tk) (o := .lst (ns.map fun e => V.ref e.2.1)) kp (Nat.le_refl _) ?_, rfl, q _ (I.hok.fresh (Nat.le_refl _))⟩
  exact ⟨hz, acc'.toList, c', rv, by rw [Array.toArray_toList]; exact e⟩
end
end Fv
namespace Fv
open PySem L2
/-! ### the text by places -/
def top (i : Nat) : Stmt := PySem.Challenge.pw_flyovers_k86_whole_bends_told_by_runs.main.body.getD i (.Pass ⟨0, 0, 0, 0⟩)
abbrev s_is_integer : Stmt := top 7
abbrev n_is_integer : List Str := ["thing"]
theorem sc_is_integer : FnScope n_is_integer ["thing"] (defScope s_is_integer) := ⟨rfl, rfl, rfl, by decide +kernel, rfl, by decide +kernel, by decide +kernel⟩
abbrev s_is_between : Stmt := top 8
abbrev n_is_between : List Str := ["thing", "least", "most"]
theorem sc_is_between : FnScope n_is_between ["thing", "least", "most"] (defScope s_is_between) := ⟨rfl, rfl, rfl, by decide +kernel, rfl, by decide +kernel, by decide +kernel⟩
abbrev s_is_index : Stmt := top 9
abbrev n_is_index : List Str := ["thing", "many"]
theorem sc_is_index : FnScope n_is_index ["thing", "many"] (defScope s_is_index) := ⟨rfl, rfl, rfl, by decide +kernel, rfl, by decide +kernel, by decide +kernel⟩
abbrev s_power_of : Stmt := top 10
abbrev n_power_of : List Str := ["number", "times", "found", "_"]
theorem sc_power_of : FnScope n_power_of ["number", "times"] (defScope s_power_of) := ⟨rfl, rfl, rfl, by decide +kernel, rfl, by decide +kernel, by decide +kernel⟩
abbrev s_rows_of : Stmt := top 15
abbrev n_rows_of : List Str := ["letters", "lanes", "found", "_", "longer", "row", "letter"]
theorem sc_rows_of : FnScope n_rows_of ["letters", "lanes"] (defScope s_rows_of) := ⟨rfl, rfl, rfl, by decide +kernel, rfl, by decide +kernel, by decide +kernel⟩
abbrev s_check_listed : Stmt := top 16
abbrev n_check_listed : List Str := ["letters", "lanes"]
theorem sc_check_listed : FnScope n_check_listed ["letters", "lanes"] (defScope s_check_listed) := ⟨rfl, rfl, rfl, by decide +kernel, rfl, by decide +kernel, by decide +kernel⟩
abbrev s_is_exchange : Stmt := top 18
abbrev n_is_exchange : List Str := ["thing", "lanes"]
theorem sc_is_exchange : FnScope n_is_exchange ["thing", "lanes"] (defScope s_is_exchange) := ⟨rfl, rfl, rfl, by decide +kernel, rfl, by decide +kernel, by decide +kernel⟩
abbrev s_exchanged_by : Stmt := top 19
abbrev n_exchanged_by : List Str := ["row", "a", "b", "c"]
theorem sc_exchanged_by : FnScope n_exchanged_by ["row", "a", "b", "c"] (defScope s_exchanged_by) := ⟨rfl, rfl, rfl, by decide +kernel, rfl, by decide +kernel, by decide +kernel⟩
abbrev s_is_letters : Stmt := top 23
abbrev n_is_letters : List Str := ["thing", "many", "letters", "letter"]
theorem sc_is_letters : FnScope n_is_letters ["thing", "many", "letters"] (defScope s_is_letters) := ⟨rfl, rfl, rfl, by decide +kernel, rfl, by decide +kernel, by decide +kernel⟩
abbrev s_are_others : Stmt := top 24
abbrev n_are_others : List Str := ["thing", "wide", "letters", "pair", "one", "other"]
theorem sc_are_others : FnScope n_are_others ["thing", "wide", "letters"] (defScope s_are_others) := ⟨rfl, rfl, rfl, by decide +kernel, rfl, by decide +kernel, by decide +kernel⟩
abbrev s_is_step_form : Stmt := top 25
abbrev n_is_step_form : List Str := ["thing"]
theorem sc_is_step_form : FnScope n_is_step_form ["thing"] (defScope s_is_step_form) := ⟨rfl, rfl, rfl, by decide +kernel, rfl, by decide +kernel, by decide +kernel⟩
abbrev s_lanes_after : Stmt := top 26
abbrev n_lanes_after : List Str := ["step", "lanes", "letters", "place", "wide"]
theorem sc_lanes_after : FnScope n_lanes_after ["step", "lanes", "letters"] (defScope s_lanes_after) := ⟨rfl, rfl, rfl, by decide +kernel, rfl, by decide +kernel, by decide +kernel⟩
abbrev s_can_be : Stmt := top 27
abbrev n_can_be : List Str := ["step", "lanes", "letters", "after"]
theorem sc_can_be : FnScope n_can_be ["step", "lanes", "letters"] (defScope s_can_be) := ⟨rfl, rfl, rfl, by decide +kernel, rfl, by decide +kernel, by decide +kernel⟩
abbrev s_Net_init : Stmt := inClass (top 28) 0
abbrev n_Net_init : List Str := ["self", "letters", "lanes", "steps", "many", "index", "step"]
theorem sc_Net_init : FnScope n_Net_init ["self", "letters", "lanes", "steps"] (defScope s_Net_init) := ⟨rfl, rfl, rfl, by decide +kernel, rfl, by decide +kernel, by decide +kernel⟩
abbrev s_Net_keep : Stmt := inClass (top 28) 1
abbrev n_Net_keep : List Str := ["self", "letters", "lanes", "steps", "outs", "step"]
theorem sc_Net_keep : FnScope n_Net_keep ["self", "letters", "lanes", "steps", "outs"] (defScope s_Net_keep) := ⟨rfl, rfl, rfl, by decide +kernel, rfl, by decide +kernel, by decide +kernel⟩
abbrev s_place_by : Stmt := top 29
abbrev n_place_by : List Str := ["step", "others", "letters"]
theorem sc_place_by : FnScope n_place_by ["step", "others", "letters"] (defScope s_place_by) := ⟨rfl, rfl, rfl, by decide +kernel, rfl, by decide +kernel, by decide +kernel⟩
abbrev s_work : Stmt := top 30
abbrev n_work : List Str := ["step", "others", "lanes", "bears", "at", "seen", "place", "lane"]
theorem sc_work : FnScope n_work ["step", "others", "lanes", "bears"] (defScope s_work) := ⟨rfl, rfl, rfl, by decide +kernel, rfl, by decide +kernel, by decide +kernel⟩
abbrev s_sources : Stmt := top 31
abbrev n_sources : List Str := ["net", "row", "lanes", "step", "others"]
theorem sc_sources : FnScope n_sources ["net", "row"] (defScope s_sources) := ⟨rfl, rfl, rfl, by decide +kernel, rfl, by decide +kernel, by decide +kernel⟩
abbrev s_run_of : Stmt := top 32
abbrev n_run_of : List Str := ["net", "row", "lane"]
theorem sc_run_of : FnScope n_run_of ["net", "row"] (defScope s_run_of) := ⟨rfl, rfl, rfl, by decide +kernel, rfl, by decide +kernel, by decide +kernel⟩
abbrev s_check_all : Stmt := top 33
abbrev n_check_all : List Str := ["net"]
theorem sc_check_all : FnScope n_check_all ["net"] (defScope s_check_all) := ⟨rfl, rfl, rfl, by decide +kernel, rfl, by decide +kernel, by decide +kernel⟩
abbrev s_all_ins : Stmt := top 34
abbrev n_all_ins : List Str := ["net"]
theorem sc_all_ins : FnScope n_all_ins ["net"] (defScope s_all_ins) := ⟨rfl, rfl, rfl, by decide +kernel, rfl, by decide +kernel, by decide +kernel⟩
abbrev s_bends_of : Stmt := top 37
abbrev n_bends_of : List Str := ["net", "found", "index", "step", "place"]
theorem sc_bends_of : FnScope n_bends_of ["net"] (defScope s_bends_of) := ⟨rfl, rfl, rfl, by decide +kernel, rfl, by decide +kernel, by decide +kernel⟩
abbrev s_bent_of : Stmt := top 38
abbrev n_bent_of : List Str := ["net", "index", "place", "step", "steps"]
theorem sc_bent_of : FnScope n_bent_of ["net", "index", "place"] (defScope s_bent_of) := ⟨rfl, rfl, rfl, by decide +kernel, rfl, by decide +kernel, by decide +kernel⟩
abbrev s_shown_of : Stmt := top 39
abbrev n_shown_of : List Str := ["net", "index", "place", "other", "row"]
theorem sc_shown_of : FnScope n_shown_of ["net", "index", "place"] (defScope s_shown_of) := ⟨rfl, rfl, rfl, by decide +kernel, rfl, by decide +kernel, by decide +kernel⟩
abbrev s_harmless : Stmt := top 40
abbrev n_harmless : List Str := ["net", "index", "place"]
theorem sc_harmless : FnScope n_harmless ["net"] (defScope s_harmless) := ⟨rfl, rfl, rfl, by decide +kernel, rfl, by decide +kernel, by decide +kernel⟩
abbrev s_Teller_init : Stmt := inClass (top 43) 0
abbrev n_Teller_init : List Str := ["self", "nets", "rows", "told", "net", "row"]
theorem sc_Teller_init : FnScope n_Teller_init ["self", "nets", "rows"] (defScope s_Teller_init) := ⟨rfl, rfl, rfl, by decide +kernel, rfl, by decide +kernel, by decide +kernel⟩
abbrev s_Teller_parts : Stmt := inClass (top 43) 1
abbrev n_Teller_parts : List Str := ["self", "left", "row", "found", "net", "lot"]
theorem sc_Teller_parts : FnScope n_Teller_parts ["self", "left", "row"] (defScope s_Teller_parts) := ⟨rfl, rfl, rfl, by decide +kernel, rfl, by decide +kernel, by decide +kernel⟩
abbrev s_Teller_fewest : Stmt := inClass (top 43) 2
abbrev n_Teller_fewest : List Str := ["self", "left", "best", "row", "lots", "number", "lot"]
theorem sc_Teller_fewest : FnScope n_Teller_fewest ["self", "left"] (defScope s_Teller_fewest) := ⟨rfl, rfl, rfl, by decide +kernel, rfl, by decide +kernel, by decide +kernel⟩
abbrev s_tell_bends : Stmt := top 44
abbrev n_tell_bends : List Str := ["net", "told", "nets", "index", "place", "teller"]
theorem sc_tell_bends : FnScope n_tell_bends ["net"] (defScope s_tell_bends) := ⟨rfl, rfl, rfl, by decide +kernel, rfl, by decide +kernel, by decide +kernel⟩
abbrev s__law_hand : Stmt := top 46
abbrev n__law_hand : List Str := ["_law_script", "_law_cells", "_law_cell"]
theorem sc__law_hand : FnScope n__law_hand ["_law_script"] (defScope s__law_hand) := ⟨rfl, rfl, rfl, by decide +kernel, rfl, by decide +kernel, by decide +kernel⟩
abbrev s__law_draw : Stmt := top 47
abbrev n__law_draw : List Str := ["_law_hand_here", "_law_many", "_law_cell", "_law_digit", "_law_number"]
theorem sc__law_draw : FnScope n__law_draw ["_law_hand_here", "_law_many"] (defScope s__law_draw) := ⟨rfl, rfl, rfl, by decide +kernel, rfl, by decide +kernel, by decide +kernel⟩
abbrev s__law_some : Stmt := top 48
abbrev n__law_some : List Str := ["_law_hand_here", "_law_things"]
theorem sc__law_some : FnScope n__law_some ["_law_hand_here", "_law_things"] (defScope s__law_some) := ⟨rfl, rfl, rfl, by decide +kernel, rfl, by decide +kernel, by decide +kernel⟩
abbrev s__law_rows : Stmt := top 49
abbrev n__law_rows : List Str := ["_law_letters", "_law_lanes", "_law_found", "_law_turn", "_law_longer", "_law_row", "_law_letter"]
theorem sc__law_rows : FnScope n__law_rows ["_law_letters", "_law_lanes"] (defScope s__law_rows) := ⟨rfl, rfl, rfl, by decide +kernel, rfl, by decide +kernel, by decide +kernel⟩
abbrev s__law_exchanged : Stmt := top 50
abbrev n__law_exchanged : List Str := ["_law_row", "_law_a", "_law_b", "_law_c"]
theorem sc__law_exchanged : FnScope n__law_exchanged ["_law_row", "_law_a", "_law_b", "_law_c"] (defScope s__law_exchanged) := ⟨rfl, rfl, rfl, by decide +kernel, rfl, by decide +kernel, by decide +kernel⟩
abbrev s__law_exchanges : Stmt := top 51
abbrev n__law_exchanges : List Str := ["_law_lanes", "_law_found", "_law_a", "_law_b", "_law_c"]
theorem sc__law_exchanges : FnScope n__law_exchanges ["_law_lanes"] (defScope s__law_exchanges) := ⟨rfl, rfl, rfl, by decide +kernel, rfl, by decide +kernel, by decide +kernel⟩
abbrev s__law_step : Stmt := top 52
abbrev n__law_step : List Str := ["_law_hand_here", "_law_lanes", "_law_letters", "_law_kind", "_law_at", "_law_a", "_law_b", "_law_c", "_law_wide", "_law_others", "_law_share", "_law_seen"]
theorem sc__law_step : FnScope n__law_step ["_law_hand_here", "_law_lanes", "_law_letters"] (defScope s__law_step) := ⟨rfl, rfl, rfl, by decide +kernel, rfl, by decide +kernel, by decide +kernel⟩
abbrev s__law_worked : Stmt := top 53
abbrev n__law_worked : List Str := ["_law_step_here", "_law_row", "_law_k", "_law_seen", "_law_place"]
theorem sc__law_worked : FnScope n__law_worked ["_law_step_here", "_law_row"] (defScope s__law_worked) := ⟨rfl, rfl, rfl, by decide +kernel, rfl, by decide +kernel, by decide +kernel⟩
abbrev s__law_led : Stmt := top 54
abbrev n__law_led : List Str := ["_law_steps", "_law_row", "_law_step_here"]
theorem sc__law_led : FnScope n__law_led ["_law_steps", "_law_row"] (defScope s__law_led) := ⟨rfl, rfl, rfl, by decide +kernel, rfl, by decide +kernel, by decide +kernel⟩
abbrev s__law_net : Stmt := top 55
abbrev n__law_net : List Str := ["_law_hand_here", "_law_most", "_law_chooses", "_law_letters", "_law_wide", "_law_lanes", "_law_steps", "_law_many", "_law_turn", "_law_step_here", "_law_one"]
theorem sc__law_net : FnScope n__law_net ["_law_hand_here", "_law_most", "_law_chooses"] (defScope s__law_net) := ⟨rfl, rfl, rfl, by decide +kernel, rfl, by decide +kernel, by decide +kernel⟩
abbrev s__law_bent : Stmt := top 56
abbrev n__law_bent : List Str := ["_law_steps", "_law_index", "_law_place", "_law_step_here"]
theorem sc__law_bent : FnScope n__law_bent ["_law_steps", "_law_index", "_law_place"] (defScope s__law_bent) := ⟨rfl, rfl, rfl, by decide +kernel, rfl, by decide +kernel, by decide +kernel⟩
abbrev s__law_bends : Stmt := top 57
abbrev n__law_bends : List Str := ["_law_steps", "_law_found", "_law_index", "_law_step_here", "_law_place"]
theorem sc__law_bends : FnScope n__law_bends ["_law_steps"] (defScope s__law_bends) := ⟨rfl, rfl, rfl, by decide +kernel, rfl, by decide +kernel, by decide +kernel⟩
abbrev s__law_all : Stmt := top 58
abbrev n__law_all : List Str := ["_law_letters", "_law_lanes", "_law_steps", "_law_every", "_law_found", "_law_row", "_law_index", "_law_place", "_law_outs"]
theorem sc__law_all : FnScope n__law_all ["_law_letters", "_law_lanes", "_law_steps"] (defScope s__law_all) := ⟨rfl, rfl, rfl, by decide +kernel, rfl, by decide +kernel, by decide +kernel⟩
abbrev s__law_parted : Stmt := top 59
abbrev n__law_parted : List Str := ["_law_nets", "_law_lot", "_law_row", "_law_outs", "_law_net_here", "_law_out"]
theorem sc__law_parted : FnScope n__law_parted ["_law_nets", "_law_lot", "_law_row"] (defScope s__law_parted) := ⟨rfl, rfl, rfl, by decide +kernel, rfl, by decide +kernel, by decide +kernel⟩
abbrev s__law_can : Stmt := top 60
abbrev n__law_can : List Str := ["_law_known", "_law_nets", "_law_lot", "_law_many", "_law_good", "_law_row", "_law_lots", "_law_part"]
theorem sc__law_can : FnScope n__law_can ["_law_known", "_law_nets", "_law_lot", "_law_many"] (defScope s__law_can) := ⟨rfl, rfl, rfl, by decide +kernel, rfl, by decide +kernel, by decide +kernel⟩
abbrev s__law_due : Stmt := top 61
abbrev n__law_due : List Str := ["_law_nets", "_law_known", "_law_lot", "_law_many"]
theorem sc__law_due : FnScope n__law_due ["_law_nets"] (defScope s__law_due) := ⟨rfl, rfl, rfl, by decide +kernel, rfl, by decide +kernel, by decide +kernel⟩
abbrev s__law_parts : Stmt := top 62
abbrev n__law_parts : List Str := ["_law_hand_here", "_law_steps", "_law_turn", "_law_others", "_law_seen"]
theorem sc__law_parts : FnScope n__law_parts ["_law_hand_here"] (defScope s__law_parts) := ⟨rfl, rfl, rfl, by decide +kernel, rfl, by decide +kernel, by decide +kernel⟩
abbrev s_law : Stmt := top 63
abbrev n_law : List Str := ["_law_script", "_law_hand_here", "_law_turn", "_law_letters", "_law_lanes", "_law_steps", "_law_net_here", "_law_nets", "_law_told"]
theorem sc_law : FnScope n_law ["_law_script"] (defScope s_law) := ⟨rfl, rfl, rfl, by decide +kernel, rfl, by decide +kernel, by decide +kernel⟩
/-! ### a def of the text, its promise, its call -/
structure FunAt (K : PySem.W.Frag) (mg : Str → Option Value) (x : Str) (st : Stmt) : Prop where
  ex : ∃ (f : Addr) (fd : FuncData), Fun K x x st f fd ∧ mg x = some (.ref f)
structure MethAt (K : PySem.W.Frag) (C : Addr) (m qual : Str) (st : Stmt) : Prop where
  ex : ∃ (f : Addr) (fd : FuncData), Fun K m qual st f fd ∧ Meth K C m f
structure InitAt (K : PySem.W.Frag) (C : Addr) (qual : Str) (st : Stmt) : Prop where
  ex : ∃ (f : Addr) (fd : FuncData), Fun K "__init__" qual st f fd ∧ Mk K C f
structure Cal (P : Program) (w : World) (K : PySem.W.Frag) (mg : Str → Option Value) (base : Heap) (x : Str) (ps : List Str) (k : Nat) (sp : Sp) : Prop where
  ex : ∃ (f : Addr) (fd : FuncData), FnOk P w K mg base CX0 k f fd ps sp ∧ mg x = some (.ref f) ∧ PySem.W.keepIn K (.ref f) = true ∧ Binds K fd ps []
structure CalM (P : Program) (w : World) (K : PySem.W.Frag) (mg : Str → Option Value) (base : Heap) (C : Addr) (m : Str) (ps : List Str) (k : Nat) (sp : Sp) : Prop where
  ex : ∃ (f : Addr) (fd : FuncData), FnOk P w K mg base CX0 k f fd ps sp ∧ Meth K C m f ∧ Binds K fd ps []
structure CalC (P : Program) (w : World) (K : PySem.W.Frag) (mg : Str → Option Value) (base : Heap) (x : Str) (C : Addr) (ps : List Str) (k : Nat) (sp : Sp) : Prop where
  ex : ∃ (f : Addr) (fd : FuncData), FnOk P w K mg base CX0 k f fd ps sp ∧ Mk K C f ∧ mg x = some (.ref C) ∧ Binds K fd ps []
section
variable {P : Program} {w : World} {K : PySem.W.Frag} {mg : Str → Option Value} {base : Heap}
theorem cal_mk {x : Str} {st : Stmt} {ps : List Str} {k : Nat} {sp : Sp} (F : FunAt K mg x st) (h : ∀ {f fd}, Fun K x x st f fd → FnOk P w K mg base CX0 k f fd ps sp) (hb : ∀ {f fd}, Fun K x x st f fd → Binds K fd ps []) : Cal P w K mg base x ps k sp := by
  obtain ⟨f, fd, F, m⟩ := F.ex
  exact ⟨f, fd, h F, m, F.kp, hb F⟩
theorem calM_mk {C : Addr} {m qual : Str} {st : Stmt} {ps : List Str} {k : Nat} {sp : Sp} (F : MethAt K C m qual st) (h : ∀ {f fd}, Fun K m qual st f fd → FnOk P w K mg base CX0 k f fd ps sp) (hb : ∀ {f fd}, Fun K m qual st f fd → Binds K fd ps []) : CalM P w K mg base C m ps k sp := by
  obtain ⟨f, fd, F, m⟩ := F.ex
  exact ⟨f, fd, h F, m, hb F⟩
theorem calC_mk {x : Str} {C : Addr} {qual : Str} {st : Stmt} {ps : List Str} {k : Nat} {sp : Sp} (F : InitAt K C qual st) (hm : mg x = some (.ref C)) (h : ∀ {f fd}, Fun K "__init__" qual st f fd → FnOk P w K mg base CX0 k f fd ps sp) (hb : ∀ {f fd}, Fun K "__init__" qual st f fd → Binds K fd ps []) : CalC P w K mg base x C ps k sp := by
  obtain ⟨f, fd, F, m⟩ := F.ex
  exact ⟨f, fd, h F, m, hm, hb F⟩
theorem Cal.mono {x : Str} {ps : List Str} {j k : Nat} {sp : Sp} (c : Cal P w K mg base x ps j sp) (h : j ≤ k) : Cal P w K mg base x ps k sp := by
  obtain ⟨f, fd, F, r⟩ := c.ex
  exact ⟨f, fd, F.mono h, r⟩
theorem CalM.mono {C : Addr} {x : Str} {ps : List Str} {j k : Nat} {sp : Sp} (c : CalM P w K mg base C x ps j sp) (h : j ≤ k) : CalM P w K mg base C x ps k sp := by
  obtain ⟨f, fd, F, r⟩ := c.ex
  exact ⟨f, fd, F.mono h, r⟩
end
section
variable {X : Cx} {k : Nat} {sp : Sp} {ps : List Str} {x m : Str} {C : Addr} {p pos apos : Pos} {e o : Expr} {es : List Expr} {ta : TE} {t : TA}
theorem pe_fn (c : Cal X.prog X.w X.K X.mg X.base x ps k sp) (hr : Room k X.A) (hg : Gl X x) (ha : PA X (e :: es) t)
    (hdb : (x == ("__debug__" : Str)) = false := by decide) (he : starEach (e :: es) X.env = (false, eval e X.env) :: starEach es X.env := by rfl) (hpl : (backTo pos (starEach es X.env)).any (·.1) = false := by rfl) :
    PE X (.Call (.Name x p) (e :: es) [] pos) (tCall sp [] E0 t) := by
  obtain ⟨f, fd, F, hm, hk, hb⟩ := c.ex
  exact pe_call F hr hg hm hk hb .nil pass0 ha hdb he hpl
theorem pe_mt {pl : Sem Bool} (c : CalM X.prog X.w X.K X.mg X.base C m ps k sp) (cl : Cls X.K C) (hr : Room k X.A) (ho : PE X o ta) (ha : PA X (e :: es) t)
    (hst : starEach (e :: es) X.env = (false, eval e X.env) :: starEach es X.env := by rfl) (hpl : (backTo pos (starEach es X.env)).any (·.1) = false := by rfl)
    (ht : eval (.Call (.Attribute o m apos) (e :: es) [] pos) X.env = (do
      let ov ← eval o X.env
      standAt apos.atName
      let (f, first) ← holding [ov] (getMethod ov m pl)
      callWith pos f first (backTo pos (starEach (e :: es) X.env)) (backToKw pos (keywordEach [] X.env))) := by rfl) :
    PE X (.Call (.Attribute o m apos) (e :: es) [] pos) (tMeth C m sp [] E0 ta t) := by
  obtain ⟨f, fd, F, hm, hb⟩ := c.ex
  exact pe_meth ho cl hm F hr hb .nil pass0 ha hst hpl ht
theorem pe_mk (c : CalC X.prog X.w X.K X.mg X.base x C ps k sp) (hr : Room (k + 1) X.A) (hg : Gl X x) (ha : PA X (e :: es) t)
    (hdb : (x == ("__debug__" : Str)) = false := by decide) (he : starEach (e :: es) X.env = (false, eval e X.env) :: starEach es X.env := by rfl) (hpl : (backTo pos (starEach es X.env)).any (·.1) = false := by rfl) :
    PE X (.Call (.Name x p) (e :: es) [] pos) (tMake C sp [] E0 t) := by
  obtain ⟨f, fd, F, M, hm, hb⟩ := c.ex
  exact pe_make M F hr hg hm hb .nil pass0 ha hdb he hpl
/-- a module's number -/
theorem pe_gint {i : Int} (hm : ∃ t, X.mg x = some (.int i t)) (hg : Gl X x := by rfl) (hd : (x == ("__debug__" : Str)) = false := by decide) : PE X (.Name x p) (tC (.int i)) := by
  obtain ⟨t, hm⟩ := hm
  exact pe_glob hg hm ⟨t, rfl⟩ hd
/-- a built-in type by its name -/
theorem pe_ty (n : String) (hm : X.mg x = none) (hv : bootBuiltins x = some (.type n) := by decide +kernel) (hg : Gl X x := by rfl) (hn : x ≠ "__name__" := by decide) (hd : (x == ("__debug__" : Str)) = false := by decide) : PE X (.Name x p) (tC (.ty n)) :=
  pe_bltn hg hm hv rfl hn hd
/-- k in d, a written dict, k there -/
theorem op_inK : OpR X (compareOp .In) (fun x y H Q => ∃ z d v, x = .str z ∧ y = .ref d ∧ KDct X.K X.w d z v ∧ (d == sysModules) = false ∧ Q (.bl true) H) := by
  intro pins s σ H x y v u Q I rx ry h
  obtain ⟨z, d, v0, rfl, rfl, ⟨es, n, u0, hl, hk, e, ru⟩, lo, q⟩ := h
  exact op_in_kd ⟨hl, hk, lo⟩ pins s σ H _ _ v u Q I rx ry ⟨z, some u0, rfl, rfl, e, q⟩
end
/-! ### what the top has left -/
structure Txt (w : World) (K : PySem.W.Frag) (mg : Str → Option Value) (CN CT dS : Addr) : Prop where
  len : mg "len" = none
  isinstance : mg "isinstance" = none
  int_ : mg "int" = none
  bool_ : mg "bool" = none
  tuple_ : mg "tuple" = none
  list_ : mg "list" = none
  str_ : mg "str" = none
  range : mg "range" = none
  all : mg "all" = none
  zip : mg "zip" = none
  dict : mg "dict" = none
  enumerate : mg "enumerate" = none
  min : mg "min" = none
  max : mg "max" = none
  abs : mg "abs" = none
  set : mg "set" = none
  sorted : mg "sorted" = none
  c_MOST_LETTERS : ∃ t, mg "MOST_LETTERS" = some (.int 4 t)
  c_MOST_LANES : ∃ t, mg "MOST_LANES" = some (.int 1000 t)
  c_MOST_ROWS : ∃ t, mg "MOST_ROWS" = some (.int 4096 t)
  c_MOST_LISTED : ∃ t, mg "MOST_LISTED" = some (.int 12 t)
  c_MOST_OTHERS : ∃ t, mg "MOST_OTHERS" = some (.int 64 t)
  c_MOST_TESTED : ∃ t, mg "MOST_TESTED" = some (.int 32 t)
  c_MOST_TOLD : ∃ t, mg "MOST_TOLD" = some (.int 8 t)
  c_SIZES : mg "SIZES" = some (.ref dS)
  loS : (dS == sysModules) = false
  zD : KDct K w dS "double" (.int 2)
  zS : KDct K w dS "strike" (.int 2)
  zC : KDct K w dS "choose" (.int 5)
  zF : KDct K w dS "fly" (.int 4)
  f_is_integer : FunAt K mg "is_integer" s_is_integer
  f_is_between : FunAt K mg "is_between" s_is_between
  f_is_index : FunAt K mg "is_index" s_is_index
  f_power_of : FunAt K mg "power_of" s_power_of
  f_rows_of : FunAt K mg "rows_of" s_rows_of
  f_check_listed : FunAt K mg "check_listed" s_check_listed
  f_is_exchange : FunAt K mg "is_exchange" s_is_exchange
  f_exchanged_by : FunAt K mg "exchanged_by" s_exchanged_by
  f_is_letters : FunAt K mg "is_letters" s_is_letters
  f_are_others : FunAt K mg "are_others" s_are_others
  f_is_step_form : FunAt K mg "is_step_form" s_is_step_form
  f_lanes_after : FunAt K mg "lanes_after" s_lanes_after
  f_can_be : FunAt K mg "can_be" s_can_be
  f_place_by : FunAt K mg "place_by" s_place_by
  f_work : FunAt K mg "work" s_work
  f_sources : FunAt K mg "sources" s_sources
  f_run_of : FunAt K mg "run_of" s_run_of
  f_check_all : FunAt K mg "check_all" s_check_all
  f_all_ins : FunAt K mg "all_ins" s_all_ins
  f_bends_of : FunAt K mg "bends_of" s_bends_of
  f_bent_of : FunAt K mg "bent_of" s_bent_of
  f_shown_of : FunAt K mg "shown_of" s_shown_of
  f_harmless : FunAt K mg "harmless" s_harmless
  f_tell_bends : FunAt K mg "tell_bends" s_tell_bends
  f__law_hand : FunAt K mg "_law_hand" s__law_hand
  f__law_draw : FunAt K mg "_law_draw" s__law_draw
  f__law_some : FunAt K mg "_law_some" s__law_some
  f__law_rows : FunAt K mg "_law_rows" s__law_rows
  f__law_exchanged : FunAt K mg "_law_exchanged" s__law_exchanged
  f__law_exchanges : FunAt K mg "_law_exchanges" s__law_exchanges
  f__law_step : FunAt K mg "_law_step" s__law_step
  f__law_worked : FunAt K mg "_law_worked" s__law_worked
  f__law_led : FunAt K mg "_law_led" s__law_led
  f__law_net : FunAt K mg "_law_net" s__law_net
  f__law_bent : FunAt K mg "_law_bent" s__law_bent
  f__law_bends : FunAt K mg "_law_bends" s__law_bends
  f__law_all : FunAt K mg "_law_all" s__law_all
  f__law_parted : FunAt K mg "_law_parted" s__law_parted
  f__law_can : FunAt K mg "_law_can" s__law_can
  f__law_due : FunAt K mg "_law_due" s__law_due
  f__law_parts : FunAt K mg "_law_parts" s__law_parts
  clN : Cls K CN
  mgN : mg "Net" = some (.ref CN)
  iN : InitAt K CN "Net.__init__" s_Net_init
  mN_keep : MethAt K CN "keep" "Net.keep" s_Net_keep
  aN1 : NoAttr K CN "kept_letters"
  aN2 : NoAttr K CN "kept_lanes"
  aN3 : NoAttr K CN "kept_steps"
  aN4 : NoAttr K CN "kept_outs"
  aN5 : NoAttr K CN "kept_others"
  clT : Cls K CT
  mgT : mg "Teller" = some (.ref CT)
  iT : InitAt K CT "Teller.__init__" s_Teller_init
  mT_parts : MethAt K CT "parts" "Teller.parts" s_Teller_parts
  mT_fewest : MethAt K CT "fewest" "Teller.fewest" s_Teller_fewest
  aT1 : NoAttr K CT "outs"
  aT2 : NoAttr K CT "rows"
  aT3 : NoAttr K CT "known"
/-! ### heaps -/
/-- tuples stay -/
structure TS (H H' : Hp) : Prop where
  tup : ∀ b xs, H b = some (.tup xs) → H' b = some (.tup xs)
  frz : ∀ b o u, H b = some (.frz o u) → H' b = some (.frz o u)
theorem TS.refl (H : Hp) : TS H H := ⟨fun _ _ h => h, fun _ _ _ h => h⟩
theorem TS.trans {H H1 H2 : Hp} (a : TS H H1) (b : TS H1 H2) : TS H H2 := ⟨fun c x h => b.tup c x (a.tup c x h), fun c o u h => b.frz c o u (a.frz c o u h)⟩
theorem TS.of {H H' : Hp} (s : Same H H') : TS H H' := ⟨fun b _ h => s b _ h, fun b _ _ h => s b _ h⟩
/-- what is not a tuple -/
def NT : Option HO → Prop
  | some (.tup _) => False
  | some (.frz _ _) => False
  | _ => True
theorem TS.upd {H : Hp} {l : Addr} {o : HO} (h : NT (H l)) : TS H (upd H l o) :=
  ⟨fun b xs e => by rw [upd_ne (fun z => by rw [z] at e; rw [e] at h; exact h)]; exact e, fun b ob u e => by rw [upd_ne (fun z => by rw [z] at e; rw [e] at h; exact h)]; exact e⟩
theorem same_new {H : Hp} {p : Addr} {o : HO} (h : H p = none) : Same H (upd H p o) := fun b u q => by rw [upd_ne (ne_of_none q h)]; exact q
theorem same_mut {H H' : Hp} {p : Addr} {o : HO} (s : Same H H') (h : H p = none) : Same H (upd H' p o) := fun b u q => by rw [upd_ne (ne_of_none q h)]; exact s b u q
theorem same_add {H H' : Hp} {p : Addr} {o : HO} (s : Same H H') (h : H' p = none) : Same H (upd H' p o) := s.trans (same_new h)
/-- all but one -/
def But (a : Addr) (H H' : Hp) : Prop := ∀ b o, b ≠ a → H b = some o → H' b = some o
theorem But.of {a : Addr} {H H' : Hp} (s : Same H H') : But a H H' := fun b o _ h => s b o h
theorem But.trans {a : Addr} {H H1 H2 : Hp} (x : But a H H1) (y : But a H1 H2) : But a H H2 := fun b o n h => y b o n (x b o n h)
theorem But.upd {a : Addr} {H : Hp} {o : HO} : But a H (upd H a o) := fun b u n h => by rw [upd_ne n]; exact h
theorem But.refl (a : Addr) (H : Hp) : But a H H := fun _ _ _ h => h
theorem But.mut {a : Addr} {H0 H H' : Hp} {l : Addr} {o : HO} (s : But a H0 H) (h : H0 l = none) : But a H0 (L2.upd H l o) := fun b u n q => by rw [upd_ne (ne_of_none q h)]; exact s b u n q
theorem But.ts {a : Addr} {H H' : Hp} (s : But a H H') (h : NT (H a)) : TS H H' :=
  ⟨fun b xs e => s b _ (fun z => by rw [z] at e; rw [e] at h; exact h) e, fun b o u e => s b _ (fun z => by rw [z] at e; rw [e] at h; exact h) e⟩
theorem But.same {a : Addr} {H H' : Hp} (s : But a H H') (h : H a = none) : Same H H' := fun b o e => s b o (ne_of_none e h) e
theorem But.free {a l : Addr} {H H' : Hp} (s : But a H H') (n : l ≠ a) (h : H' l = none) : H l = none := by
  cases q : H l with
  | none => rfl
  | some o => rw [s l o n q] at h; cases h
/-! ### data in the heap -/
abbrev Rl (α : Type) := Hp → V → α → Prop
structure Mono {α : Type} (R : Rl α) : Prop where
  mono : ∀ {H H' : Hp} {v : V} {x : α}, TS H H' → R H v x → R H' v x
theorem Mono.all {α : Type} {R : Rl α} (m : Mono R) {H H' : Hp} (t : TS H H') {vs : List V} {xs : List α} (p : Paired (R H) vs xs) : Paired (R H') vs xs := Paired.mapP p fun _ _ h => m.mono t h
theorem pget {α β : Type} {F : α → β → Prop} : ∀ {l : List α} {m : List β}, Paired F l m → ∀ {i : Nat} {b : β}, m[i]? = some b → ∃ a, l[i]? = some a ∧ F a b
  | _, _, .nil, i, b, e => by simp at e
  | _, _, .cons h t, 0, b, e => by
    simp only [List.getElem?_cons_zero, Option.some.injEq] at e ⊢
    subst e
    exact ⟨_, rfl, h⟩
  | _, _, .cons h t, i + 1, b, e => by
    simp only [List.getElem?_cons_succ] at e ⊢
    exact pget t e
theorem pgetL {α β : Type} {F : α → β → Prop} : ∀ {l : List α} {m : List β}, Paired F l m → ∀ {i : Nat} {a : α}, l[i]? = some a → ∃ b, m[i]? = some b ∧ F a b
  | _, _, .nil, i, b, e => by simp at e
  | _, _, .cons h t, 0, b, e => by
    simp only [List.getElem?_cons_zero, Option.some.injEq] at e ⊢
    subst e
    exact ⟨_, rfl, h⟩
  | _, _, .cons h t, i + 1, b, e => by
    simp only [List.getElem?_cons_succ] at e ⊢
    exact pgetL t e
theorem papp {α β : Type} {F : α → β → Prop} : ∀ {l l' : List α} {m m' : List β}, Paired F l m → Paired F l' m' → Paired F (l ++ l') (m ++ m')
  | _, _, _, _, .nil, q => q
  | _, _, _, _, .cons h t, q => .cons h (papp t q)
/-- an int -/
def IntR : Rl Int := fun _ v i => v = .int i
theorem int_mono : Mono IntR := ⟨fun _ h => h⟩
theorem ints_iff {H : Hp} : ∀ {vs : List V} {ns : List Int}, Paired (IntR H) vs ns ↔ vs = ns.map V.int
  | [], [] => ⟨fun _ => rfl, fun _ => .nil⟩
  | [], n :: ns => ⟨fun h => (by cases h), fun h => (by simp at h)⟩
  | v :: vs, [] => ⟨fun h => (by cases h), fun h => (by simp at h)⟩
  | v :: vs, n :: ns => ⟨fun h => (by
      cases h with
      | cons a b =>
        rw [List.map_cons, ← ints_iff.mp b]
        rw [show v = .int n from a]), fun h => (by
      rw [List.map_cons] at h
      injection h with h1 h2
      exact .cons h1 (ints_iff.mpr h2))⟩
/-- a tuple of ints -/
def RowR : Rl (List Int) := fun H v r => ∃ a, v = .ref a ∧ H a = some (.tup (r.map V.int))
theorem row_mono : Mono RowR := ⟨fun t ⟨a, e, h⟩ => ⟨a, e, t.tup _ _ h⟩⟩
/-- a tuple of rows -/
def OutR : Rl (List (List Int)) := fun H v t => ∃ a vs, v = .ref a ∧ H a = some (.tup vs) ∧ Paired (RowR H) vs t
theorem out_mono : Mono OutR := ⟨fun t ⟨a, vs, e, h, p⟩ => ⟨a, vs, e, t.tup _ _ h, row_mono.all t p⟩⟩
/-- a pair of numbers -/
def IPR : Rl (Nat × Nat) := fun H v b => ∃ a, v = .ref a ∧ H a = some (.tup [.int b.1, .int b.2])
theorem ip_mono : Mono IPR := ⟨fun t ⟨a, e, h⟩ => ⟨a, e, t.tup _ _ h⟩⟩
def PairR : Rl (List Int × Nat) := fun H v q => ∃ a b, v = .ref a ∧ H a = some (.tup [.ref b, .int q.2]) ∧ H b = some (.tup (q.1.map V.int))
theorem pair_mono : Mono PairR := ⟨fun t ⟨a, b, e, h, q⟩ => ⟨a, b, e, t.tup _ _ h, t.tup _ _ q⟩⟩
/-- the other places of a step that chooses -/
def OthR : Rl (List (List Int × Nat)) := fun H v o => ∃ a ob vs, v = .ref a ∧ TO ob ∧ H a = some (.frz ob (.tup vs)) ∧ Paired (PairR H) vs o
theorem oth_mono : Mono OthR := ⟨fun t ⟨a, ob, vs, e, to, h, p⟩ => ⟨a, ob, vs, e, to, t.frz _ _ _ h, pair_mono.all t p⟩⟩
/-- what stands in a step's tuple -/
def StV (H : Hp) (vs : List V) : Stp → Prop
  | .dbl k => vs = [.str "double", .int k]
  | .strk k => vs = [.str "strike", .int k]
  | .fly a b c => vs = [.str "fly", .int a, .int b, .int c]
  | .chs k w p o => ∃ t, vs = [.str "choose", .int k, .int w, .int p, t] ∧ OthR H t o
def StpR : Rl Stp := fun H v s => ∃ a vs, v = .ref a ∧ H a = some (.tup vs) ∧ StV H vs s
theorem stv_mono {H H' : Hp} (t : TS H H') {vs : List V} {s : Stp} (h : StV H vs s) : StV H' vs s := by
  cases s with
  | chs k w p o =>
    obtain ⟨z, e, q⟩ := h
    exact ⟨z, e, oth_mono.mono t q⟩
  | dbl _ => exact h
  | strk _ => exact h
  | fly _ _ _ => exact h
theorem stp_mono : Mono StpR := ⟨fun t ⟨a, vs, e, h, q⟩ => ⟨a, vs, e, t.tup _ _ h, stv_mono t q⟩⟩
/-- a list at an address -/
def LA {α : Type} (R : Rl α) (H : Hp) (l : Addr) (xs : List α) : Prop := ∃ vs, H l = some (.lst vs) ∧ Paired (R H) vs xs
theorem LA.same {α : Type} {R : Rl α} (m : Mono R) {H H' : Hp} {l : Addr} {xs : List α} (s : Same H H') (h : LA R H l xs) : LA R H' l xs := let ⟨vs, e, p⟩ := h; ⟨vs, s _ _ e, m.all (.of s) p⟩
theorem LA.but {α : Type} {R : Rl α} (m : Mono R) {a : Addr} {H H' : Hp} {l : Addr} {xs : List α} (s : But a H H') (na : NT (H a)) (n : l ≠ a) (h : LA R H l xs) : LA R H' l xs := let ⟨vs, e, p⟩ := h; ⟨vs, s _ _ n e, m.all (s.ts na) p⟩
theorem LA.ts {α : Type} {R : Rl α} (m : Mono R) {H H' : Hp} {l : Addr} {xs : List α} (t : TS H H') (e : ∀ vs, H l = some (.lst vs) → H' l = some (.lst vs)) (h : LA R H l xs) : LA R H' l xs := let ⟨vs, h1, p⟩ := h; ⟨vs, e _ h1, m.all t p⟩
theorem LA.snoc {α : Type} {R : Rl α} (m : Mono R) {H : Hp} {l : Addr} {vs : List V} {v : V} {xs : List α} {x : α} (e : H l = some (.lst vs)) (p : Paired (R H) vs xs) (h : R H v x) : LA R (upd H l (.lst (vs ++ [v]))) l (xs ++ [x]) :=
  have t : TS H (upd H l (.lst (vs ++ [v]))) := TS.upd (by rw [e]; trivial)
  ⟨_, upd_same, Paired.snoc (m.all t p) (m.mono t h)⟩
theorem sz1000 {n : Nat} (h : n ≤ 100000) : n ≤ sizeLine := Nat.le_trans h (by decide)
theorem sz1000' {n : Nat} (h : n < 100000) : n < sizeLine := Nat.lt_of_lt_of_le h (by decide)
theorem atI_get {xs : List V} {i : Int} {v : V} (h0 : 0 ≤ i) (h : xs[i.toNat]? = some v) : atI xs i = some v := at_of (j := i.toNat) (by omega) h
/-- all but lists stays -/
structure LS (H H' : Hp) : Prop where
  keep : ∀ b o, (∀ xs, o ≠ .lst xs) → H b = some o → H' b = some o
theorem LS.of {H H' : Hp} (s : Same H H') : LS H H' := ⟨fun b o _ h => s b o h⟩
theorem LS.upd {H : Hp} {l : Addr} {xs : List V} {o : HO} (h : H l = some (.lst xs)) : LS H (L2.upd H l o) := ⟨fun b u n e => by rw [upd_ne (fun z => by rw [z, h] at e; exact n xs (Option.some.inj e).symm)]; exact e⟩
theorem LS.ts {H H' : Hp} (s : LS H H') : TS H H' := ⟨fun b _ h => s.keep b _ (fun _ z => nomatch z) h, fun b _ _ h => s.keep b _ (fun _ z => nomatch z) h⟩
structure MonoL {α : Type} (R : Rl α) : Prop where
  mono : ∀ {H H' : Hp} {v : V} {x : α}, LS H H' → R H v x → R H' v x
theorem MonoL.all {α : Type} {R : Rl α} (m : MonoL R) {H H' : Hp} (t : LS H H') {vs : List V} {xs : List α} (p : Paired (R H) vs xs) : Paired (R H') vs xs := Paired.mapP p fun _ _ h => m.mono t h
theorem Mono.toL {α : Type} {R : Rl α} (m : Mono R) : MonoL R := ⟨fun t h => m.mono t.ts h⟩
/-! ### comprehensions by walks -/
section
variable {J : It} {n : Nat} {G : Hp → Prop} {Y : Nat → Hp → V → Hp → Prop} {β : Type}
theorem lcWL (w : Walk J n G Y) {g : TG} {tt : TT} {te : TE} {vs : List Nat} {σ : L2.St} {H1 : Hp} {D : Addr} {Qd : Hp → Prop} {R : Rl β} (mR : MonoL R) (acc : Nat → List β)
    (hD : H1 D = none) (h0 : acc 0 = []) (hz : ∀ i, i < n → (acc i).length < 100000) (hG : ∀ H, Same H1 H → G H)
    (hs : ∀ i x H H', i < n → Same H1 H → Y i H x H' → ∀ (Ny : V → Hp → Prop) (Nn : Hp → Prop), (∀ y H4 z, Same H H4 → R H4 y z → acc (i + 1) = acc i ++ [z] → Ny y H4) → (∀ H3, Same H H3 → acc (i + 1) = acc i → Nn H3) →
      g x (wipe σ vs) H' fun σ2 H2 => wipe σ2 vs = wipe σ vs ∧ tt σ2 H2 fun b H3 => if b = true then te σ2 H3 Ny else Nn H3)
    (hd : ∀ H ws, Same H1 H → H D = some (.lst ws) → Paired (R H) ws (acc n) → Qd H) :
    ∃ W : Nat → Nat → Hp → Prop, (∃ m, W 0 m (upd H1 D (.lst []))) ∧ ∀ i m H, W i m H →
      (J.stop i H ∧ Qd H) ∨ (J.go i H ∧ ∃ Nx : Hp → Prop, (∀ H', Nx H' → ∃ m', m' < m ∧ W (i + 1) m' H') ∧ ∀ x H', J.yld i H x H' → g x (wipe σ vs) H' fun σ2 H2 => wipe σ2 vs = wipe σ vs ∧ tt σ2 H2 fun b H3 =>
        if b = true then te σ2 H3 fun y H4 => ∃ acc, H4 D = some (.lst acc) ∧ acc.length < sizeLine ∧ Nx (upd H4 D (.lst (acc ++ [y]))) else Nx H3) := by
  refine lc_it w (fun i H => Same H1 H ∧ ∃ ws, H D = some (.lst ws) ∧ Paired (R H) ws (acc i)) ⟨same_new hD, [], upd_same, by rw [h0]; exact .nil⟩ (fun i H _ p => hG H p.1) ?_ ?_
  · rintro i x H H' hi ⟨s, ws, hl, p⟩ y
    refine hs i x H H' hi s y _ _ (fun y H4 z s4 r e => ⟨ws, s4 _ _ hl, ?_, same_mut (s.trans s4) hD, ?_⟩) (fun H3 s3 e => ⟨s.trans s3, ws, s3 _ _ hl, ?_⟩)
    · rw [Paired.length p]
      exact sz1000' (hz i hi)
    · have t : LS H4 (upd H4 D (.lst (ws ++ [y]))) := LS.upd (s4 _ _ hl)
      rw [e]
      exact ⟨_, upd_same, Paired.snoc (mR.all t (mR.all (.of s4) p)) (mR.mono t r)⟩
    · rw [e]
      exact mR.all (.of s3) p
  · rintro H ⟨s, ws, hl, p⟩
    exact hd H ws s hl p
theorem lcW (w : Walk J n G Y) {g : TG} {tt : TT} {te : TE} {vs : List Nat} {σ : L2.St} {H1 : Hp} {D : Addr} {Qd : Hp → Prop} {R : Rl β} (mR : Mono R) (acc : Nat → List β)
    (hD : H1 D = none) (h0 : acc 0 = []) (hz : ∀ i, i < n → (acc i).length < 100000) (hG : ∀ H, Same H1 H → G H)
    (hs : ∀ i x H H', i < n → Same H1 H → Y i H x H' → ∀ (Ny : V → Hp → Prop) (Nn : Hp → Prop), (∀ y H4 z, Same H H4 → R H4 y z → acc (i + 1) = acc i ++ [z] → Ny y H4) → (∀ H3, Same H H3 → acc (i + 1) = acc i → Nn H3) →
      g x (wipe σ vs) H' fun σ2 H2 => wipe σ2 vs = wipe σ vs ∧ tt σ2 H2 fun b H3 => if b = true then te σ2 H3 Ny else Nn H3)
    (hd : ∀ H ws, Same H1 H → H D = some (.lst ws) → Paired (R H) ws (acc n) → Qd H) :
    ∃ W : Nat → Nat → Hp → Prop, (∃ m, W 0 m (upd H1 D (.lst []))) ∧ ∀ i m H, W i m H →
      (J.stop i H ∧ Qd H) ∨ (J.go i H ∧ ∃ Nx : Hp → Prop, (∀ H', Nx H' → ∃ m', m' < m ∧ W (i + 1) m' H') ∧ ∀ x H', J.yld i H x H' → g x (wipe σ vs) H' fun σ2 H2 => wipe σ2 vs = wipe σ vs ∧ tt σ2 H2 fun b H3 =>
        if b = true then te σ2 H3 fun y H4 => ∃ acc, H4 D = some (.lst acc) ∧ acc.length < sizeLine ∧ Nx (upd H4 D (.lst (acc ++ [y]))) else Nx H3) := by
  exact lcWL w mR.toL acc hD h0 hz hG hs hd
/-- without a test -/
theorem lcYL (w : Walk J n G Y) {g : TG} {te : TE} {vs : List Nat} {σ : L2.St} {H1 : Hp} {D : Addr} {Qd : Hp → Prop} {R : Rl β} (mR : MonoL R) (acc : Nat → List β)
    (hD : H1 D = none) (h0 : acc 0 = []) (hz : ∀ i, i < n → (acc i).length < 100000) (hG : ∀ H, Same H1 H → G H)
    (hs : ∀ i x H H', i < n → Same H1 H → Y i H x H' → ∀ (Ny : V → Hp → Prop), (∀ y H4 z, Same H H4 → R H4 y z → acc (i + 1) = acc i ++ [z] → Ny y H4) →
      g x (wipe σ vs) H' fun σ2 H2 => wipe σ2 vs = wipe σ vs ∧ te σ2 H2 Ny)
    (mono : ∀ x σ H Q Q', (∀ σ2 H2, Q σ2 H2 → Q' σ2 H2) → g x σ H Q → g x σ H Q')
    (hd : ∀ H ws, Same H1 H → H D = some (.lst ws) → Paired (R H) ws (acc n) → Qd H) :
    ∃ W : Nat → Nat → Hp → Prop, (∃ m, W 0 m (upd H1 D (.lst []))) ∧ ∀ i m H, W i m H →
      (J.stop i H ∧ Qd H) ∨ (J.go i H ∧ ∃ Nx : Hp → Prop, (∀ H', Nx H' → ∃ m', m' < m ∧ W (i + 1) m' H') ∧ ∀ x H', J.yld i H x H' → g x (wipe σ vs) H' fun σ2 H2 => wipe σ2 vs = wipe σ vs ∧ tYes σ2 H2 fun b H3 =>
        if b = true then te σ2 H3 fun y H4 => ∃ acc, H4 D = some (.lst acc) ∧ acc.length < sizeLine ∧ Nx (upd H4 D (.lst (acc ++ [y]))) else Nx H3) := by
  refine lcWL w mR acc hD h0 hz hG (fun i x H H' hi s y Ny Nn hNy _ => mono _ _ _ _ _ (fun σ2 H2 q => ⟨q.1, ?_⟩) (hs i x H H' hi s y Ny hNy)) hd
  exact (show (if true = true then te σ2 H2 Ny else Nn H2) from iteT q.2)
theorem lcY (w : Walk J n G Y) {g : TG} {te : TE} {vs : List Nat} {σ : L2.St} {H1 : Hp} {D : Addr} {Qd : Hp → Prop} {R : Rl β} (mR : Mono R) (acc : Nat → List β)
    (hD : H1 D = none) (h0 : acc 0 = []) (hz : ∀ i, i < n → (acc i).length < 100000) (hG : ∀ H, Same H1 H → G H)
    (hs : ∀ i x H H', i < n → Same H1 H → Y i H x H' → ∀ (Ny : V → Hp → Prop), (∀ y H4 z, Same H H4 → R H4 y z → acc (i + 1) = acc i ++ [z] → Ny y H4) →
      g x (wipe σ vs) H' fun σ2 H2 => wipe σ2 vs = wipe σ vs ∧ te σ2 H2 Ny)
    (mono : ∀ x σ H Q Q', (∀ σ2 H2, Q σ2 H2 → Q' σ2 H2) → g x σ H Q → g x σ H Q')
    (hd : ∀ H ws, Same H1 H → H D = some (.lst ws) → Paired (R H) ws (acc n) → Qd H) :
    ∃ W : Nat → Nat → Hp → Prop, (∃ m, W 0 m (upd H1 D (.lst []))) ∧ ∀ i m H, W i m H →
      (J.stop i H ∧ Qd H) ∨ (J.go i H ∧ ∃ Nx : Hp → Prop, (∀ H', Nx H' → ∃ m', m' < m ∧ W (i + 1) m' H') ∧ ∀ x H', J.yld i H x H' → g x (wipe σ vs) H' fun σ2 H2 => wipe σ2 vs = wipe σ vs ∧ tYes σ2 H2 fun b H3 =>
        if b = true then te σ2 H3 fun y H4 => ∃ acc, H4 D = some (.lst acc) ∧ acc.length < sizeLine ∧ Nx (upd H4 D (.lst (acc ++ [y]))) else Nx H3) := by
  exact lcYL w mR.toL acc hD h0 hz hG hs mono hd
theorem mono_name {i : Nat} : ∀ (x : V) (σ : L2.St) (H : Hp) (Q Q' : L2.St → Hp → Prop), (∀ σ2 H2, Q σ2 H2 → Q' σ2 H2) → gName i x σ H Q → gName i x σ H Q' := fun _ _ _ _ _ h q => h _ _ q
theorem mono_pair {K : PySem.W.Frag} {i j : Nat} : ∀ (x : V) (σ : L2.St) (H : Hp) (Q Q' : L2.St → Hp → Prop), (∀ σ2 H2, Q σ2 H2 → Q' σ2 H2) → gTup K 2 (gCons (gName i) (gCons (gName j) gNil)) x σ H Q → gTup K 2 (gCons (gName i) (gCons (gName j) gNil)) x σ H Q' :=
  fun _ _ _ _ _ h ⟨a, xs, e, hx, hl, v, r, e1, v2, r2, e2, e3, q⟩ => ⟨a, xs, e, hx, hl, v, r, e1, v2, r2, e2, e3, h _ _ q⟩
end
end Fv
namespace Fv
open PySem L2
/-! ### small answers -/
theorem kit_ii : kitB "int" "int" = some true := by decide +kernel
theorem kit_ib : kitB "int" "bool" = some false := by decide +kernel
theorem kit_tt : kitB "tuple" "tuple" = some true := by decide +kernel
theorem kit_ss : kitB "str" "str" = some true := by decide +kernel
theorem decT {p : Prop} [Decidable p] {Q : VK} {H : Hp} (h : p) (q : Q (.bl true) H) : Q (.bl (decide p)) H := by rw [decide_eq_true h]; exact q
theorem iteD {p : Prop} [Decidable p] {A B : Prop} (h : p) (q : A) : if decide p = true then A else B := by rw [decide_eq_true h]; exact iteT q
theorem iteDF {p : Prop} [Decidable p] {A B : Prop} (h : ¬ p) (q : B) : if decide p = true then A else B := by rw [decide_eq_false h]; exact iteF q
def rLenQ (K : PySem.W.Frag) : List V → Hp → VK → Prop := fun xs H Q => ∃ p ys, xs = [.ref p] ∧ (SqL K H p ys ∨ SqT K H p ys) ∧ Q (.int ys.length) H
theorem call_lenQ {X : Cx} : CallR X (.builtin "len") (rLenQ X.K) := call_len_seq
def rTupQ (K : PySem.W.Frag) : List V → Hp → VK → Prop := fun xs H Q => ∃ p ys, xs = [.ref p] ∧ SqL K H p ys ∧ ∀ l, H l = none → Q (.ref l) (upd H l (.tup ys))
theorem call_tupQ {X : Cx} : CallR X (.type "tuple") (rTupQ X.K) := by
  intro pins s σ H xs us Q I r h
  obtain ⟨p, ys, e, hq, q⟩ := h
  exact call_tuple_of pins s σ H xs us Q I r ⟨p, ys, e, .inl ⟨hq, q⟩⟩
def rListQ (K : PySem.W.Frag) : List V → Hp → VK → Prop := fun xs H Q => ∃ p ys, xs = [.ref p] ∧ (SqL K H p ys ∨ SqT K H p ys) ∧ ∀ l, H l = none → Q (.ref l) (upd H l (.lst ys))
theorem call_listQ {X : Cx} : CallR X (.type "list") (rListQ X.K) := call_list_of
/-- t[lo:hi] of a tuple, whatever is cut -/
def rSlQ : V → Option Int → Option Int → Hp → VK → Prop := fun x lo hi H Q => ∃ a xs, x = .ref a ∧ H a = some (.tup xs) ∧ ∀ H' p, Same H H' → H' p = some (.tup (cutV xs lo hi)) → Q (.ref p) H'
theorem sl_tupQ {X : Cx} : SlR X rSlQ := by
  intro pins s σ H x v vl vu lo hi sl Q I rx hs pl pu h
  obtain ⟨a, xs, e, ha, q⟩ := h
  refine sl_tupA pins s σ H x v vl vu lo hi sl Q I rx hs pl pu ⟨a, xs, e, SqT.of ha, fun hw => q H a (Same.refl H) ?_, fun _ p hp => q _ p (same_new hp) upd_same⟩
  rw [ha]
  unfold cutV
  rw [hw.1, hw.2, List.drop_zero, Nat.sub_zero, List.take_length]
/-- xs[lo:hi] of a list -/
def rSlLQ (K : PySem.W.Frag) : V → Option Int → Option Int → Hp → VK → Prop := fun x lo hi H Q => ∃ a xs, x = .ref a ∧ SqL K H a xs ∧ ∀ H' p, Same H H' → H p = none → H' p = some (.lst (cutV xs lo hi)) → Q (.ref p) H'
theorem sl_listQ {X : Cx} : SlR X (rSlLQ X.K) := by
  intro pins s σ H x v vl vu lo hi sl Q I rx hs pl pu h
  obtain ⟨a, xs, e, ha, q⟩ := h
  exact sl_list pins s σ H x v vl vu lo hi sl Q I rx hs pl pu ⟨a, xs, e, ha, fun p hp => q _ p (same_new hp) hp upd_same⟩
/-- t + u of tuples -/
def rCatQ : R2 := fun x y H Q => ∃ a b xs ys, x = .ref a ∧ y = .ref b ∧ H a = some (.tup xs) ∧ H b = some (.tup ys) ∧ xs.length + ys.length ≤ sizeLine ∧ ∀ H' p, Same H H' → H' p = some (.tup (xs ++ ys)) → Q (.ref p) H'
theorem op_catQ {X : Cx} : OpR X (binaryOp .Add) rCatQ := by
  intro pins s σ H x y v u Q I rx ry h
  obtain ⟨a, b, xs, ys, e1, e2, ha, hb, hz, q⟩ := h
  refine op_catA pins s σ H x y v u Q I rx ry ⟨a, b, xs, ys, e1, e2, SqT.of ha, SqT.of hb, hz, fun e => q H b (Same.refl H) (by rw [hb, e, List.nil_append]), fun _ e => q H a (Same.refl H) (by rw [ha, e, List.append_nil]), fun _ _ p hp => q _ p (same_new hp) upd_same⟩
def rCatLQ : R2 := fun x y H Q => ∃ a b xs ys, x = .ref a ∧ y = .ref b ∧ H a = some (.lst xs) ∧ H b = some (.lst ys) ∧ xs.length + ys.length ≤ sizeLine ∧ ∀ H' p, Same H H' → H p = none → H' p = some (.lst (xs ++ ys)) → Q (.ref p) H'
theorem op_catLQ {X : Cx} : OpR X (binaryOp .Add) rCatLQ := by
  intro pins s σ H x y v u Q I rx ry h
  obtain ⟨a, b, xs, ys, e1, e2, ha, hb, hz, q⟩ := h
  exact op_cat pins s σ H x y v u Q I rx ry ⟨a, b, xs, ys, e1, e2, ha, hb, hz, fun p hp => q _ p (same_new hp) hp upd_same⟩
theorem cut_ns {xs : List V} {a : Nat} (h : a ≤ xs.length) : cutV xs none (some (a : Int)) = xs.take a := by
  unfold cutV
  rw [HT.sIx_none, HT.sIx_nat, List.drop_zero, Nat.sub_zero, Nat.min_eq_left h]
theorem cut_ss {xs : List V} {a b : Nat} (h : a ≤ b) (h2 : b ≤ xs.length) : cutV xs (some (a : Int)) (some (b : Int)) = (xs.drop a).take (b - a) := by
  unfold cutV
  rw [HT.sIx_nat, HT.sIx_nat, Nat.min_eq_left h2, Nat.min_eq_left (Nat.le_trans h h2)]
theorem cut_sn {xs : List V} {a : Nat} (h : a ≤ xs.length) : cutV xs (some (a : Int)) none = xs.drop a := by
  unfold cutV
  rw [HT.sIx_none, HT.sIx_nat, Nat.min_eq_left h, List.take_of_length_le (by rw [List.length_drop]; omega)]
theorem un65 {k : Nat} {A : Around} (r : Room k A) : A.units + 65 < cLine := by have := r.un; omega
section
variable {P : Program} {w : World} {K : PySem.W.Frag} {mg : Str → Option Value} {base : Heap} {CN CT dS : Addr}
def sp_is_integer : Sp := fun vs H Q _ => ∃ i : Int, vs = [.int i] ∧ Q (.bl true) H
theorem cal_is_integer (T : Txt w K mg CN CT dS) : Cal P w K mg base "is_integer" ["thing"] 1 sp_is_integer := by
  refine cal_mk T.f_is_integer (fun F => F.ok sc_is_integer (fun vs H Q E h => ?_) (fun cdv A outer s H vs Q E hr h => ?_)) (fun F => F.binds fun _ _ _ _ _ _ us hl => match us, hl with | [_], _ => rfl)
  · obtain ⟨i, rfl, _⟩ := h
    rfl
  obtain ⟨i, rfl, q⟩ := h
  refine ⟨_, (pss_one (ps_ret (pe_and (pe_callB (r := rIsi K) call_isi (by rfl) T.isinstance (by decide +kernel) (pa_cons (pv 0) (pa_cons (pe_ty "int" T.int_) pa_nil))) (pe_one (pe_not (pe_callB (r := rIsi K) call_isi (by rfl) T.isinstance (by decide +kernel) (pa_cons (pv 0) (pa_cons (pe_ty "bool" T.bool_) pa_nil)))))))), ?_⟩
  exact ⟨_, rfl, _, _, _, _, _, rfl, .ty _, .base (.int i), kit_ty kit_ii, true, rfl, iteT ⟨_, rfl, _, _, _, _, _, rfl, .ty _, .base (.int i), kit_ty kit_ib, false, rfl, q⟩⟩
def sp_is_between : Sp := fun vs H Q _ => ∃ i a b : Int, vs = [.int i, .int a, .int b] ∧ a ≤ i ∧ i ≤ b ∧ Q (.bl true) H
theorem cal_is_between (T : Txt w K mg CN CT dS) : Cal P w K mg base "is_between" ["thing", "least", "most"] 2 sp_is_between := by
  have g_is_integer := cal_is_integer (P := P) (base := base) T
  refine cal_mk T.f_is_between (fun F => F.ok sc_is_between (fun vs H Q E h => ?_) (fun cdv A outer s H vs Q E hr h => ?_)) (fun F => F.binds fun _ _ _ _ _ _ us hl => match us, hl with | [_, _, _], _ => rfl)
  · obtain ⟨i, a, b, rfl, _⟩ := h
    rfl
  obtain ⟨i, a, b, rfl, h1, h2, q⟩ := h
  refine ⟨_, (pss_one (ps_ret (pe_and (pe_fn g_is_integer (hr.mono (by decide)) (by rfl) (pa_cons (pv 0) pa_nil)) (pe_one (pe_chain op_le op_le (pv 1) (pv 0) (pv 2)))))), ?_⟩
  exact ⟨_, rfl, i, rfl, true, rfl, iteT ⟨_, rfl, _, rfl, _, _, rfl, rfl, _, rfl, iteD h1 ⟨_, rfl, _, _, rfl, rfl, decT h2 q⟩⟩⟩
def sp_is_index : Sp := fun vs H Q _ => ∃ i n : Int, vs = [.int i, .int n] ∧ 0 ≤ i ∧ i < n ∧ Q (.bl true) H
theorem cal_is_index (T : Txt w K mg CN CT dS) : Cal P w K mg base "is_index" ["thing", "many"] 3 sp_is_index := by
  have g_is_between := cal_is_between (P := P) (base := base) T
  refine cal_mk T.f_is_index (fun F => F.ok sc_is_index (fun vs H Q E h => ?_) (fun cdv A outer s H vs Q E hr h => ?_)) (fun F => F.binds fun _ _ _ _ _ _ us hl => match us, hl with | [_, _], _ => rfl)
  · obtain ⟨i, n, rfl, _⟩ := h
    rfl
  obtain ⟨i, n, rfl, h1, h2, q⟩ := h
  refine ⟨_, (pss_one (ps_ret (pe_fn g_is_between (hr.mono (by decide)) (by rfl) (pa_cons (pv 0) (pa_cons pe_int (pa_cons (pe_op op_sub (pv 1) pe_int) pa_nil)))))), ?_⟩
  exact ⟨_, rfl, _, rfl, _, _, rfl, rfl, i, 0, n - 1, rfl, h1, by omega, q⟩
def sp_power_of : Sp := fun vs H Q _ => ∃ n t : Nat, vs = [.int n, .int t] ∧ n ≤ 4 ∧ t ≤ 12 ∧ Q (.int ((n ^ t : Nat))) H
theorem pow_le {n t i : Nat} (hn : n ≤ 4) (ht : t ≤ 12) (hi : i ≤ t) : n ^ i ≤ 4 ^ 12 := Nat.le_trans (Nat.pow_le_pow_left hn i) (Nat.pow_le_pow_right (by decide) (by omega))
theorem cal_power_of (T : Txt w K mg CN CT dS) : Cal P w K mg base "power_of" ["number", "times"] 1 sp_power_of := by
  refine cal_mk T.f_power_of (fun F => F.ok sc_power_of (fun vs H Q E h => ?_) (fun cdv A outer s H vs Q E hr h => ?_)) (fun F => F.binds fun _ _ _ _ _ _ us hl => match us, hl with | [_, _], _ => rfl)
  · obtain ⟨n, t, rfl, _⟩ := h
    rfl
  obtain ⟨n, t, rfl, hn, ht, q⟩ := h
  refine ⟨_, (pss_cons (ps_set (i := 2) sc_power_of.nd rfl (Or.inl rfl) pe_int)
      (pss_cons (ps_for PassesOwn.never rfl (pi_range1 (by rfl) T.range (pa_cons (pv 1) pa_nil)) (pg_name (i := 3) sc_power_of.nd rfl (Or.inl rfl)) 
        (pss_one (ps_set (i := 2) sc_power_of.nd rfl (Or.inl rfl) (pe_op op_mul (pv 2) (pv 0)))))
      (pss_one (ps_ret (pv 2))))), ?_⟩
  refine ⟨_, rfl, t, rfl, by omega, by omega, ?_⟩
  refine for_it walk_range (fun i σ H' => H' = H ∧ ∃ v, σ = [some (.int n), some (.int t), some (.int ((n ^ i : Nat))), v]) ⟨rfl, _, rfl⟩ (fun _ _ _ _ _ => trivial) ?_ ?_
  · rintro i x σ H1 H2 hi ⟨rfl, v, rfl⟩ ⟨rfl, rfl⟩
    have hb := pow_le hn ht (Nat.le_of_lt (show i < t by omega))
    refine ⟨_, rfl, _, rfl, _, _, rfl, rfl, .inl ⟨by omega, by omega⟩, rfl, some (.int (0 + (i : Nat))), ?_⟩
    show [some (V.int n), some (V.int t), some (V.int (((n ^ i : Nat) : Int) * (n : Int))), _] = _
    rw [Nat.pow_succ, Int.natCast_mul]
  · rintro σ H1 ⟨rfl, v, rfl⟩
    refine ⟨_, rfl, ?_⟩
    have e : ((t : Int)).toNat = t := by omega
    rw [e]
    exact q
end
end Fv
namespace Fv
open PySem L2
/-! ### all rows -/
theorem take_one_more {α : Type} {l : List α} {j : Nat} {x : α} (h : l[j]? = some x) : l.take (j + 1) = l.take j ++ [x] := by rw [List.take_add_one, h]; rfl
theorem flat_one_more {α β : Type} {f : α → List β} {l : List α} {j : Nat} {x : α} (h : l[j]? = some x) : (l.take (j + 1)).flatMap f = (l.take j).flatMap f ++ f x := by rw [take_one_more h, flat_snoc]
theorem rowsM_len_le {Ls : List Int} {n : Nat} (h1 : Ls.length ≤ 4) (h2 : n ≤ 5) : (rowsM Ls n).length ≤ 1024 := by
  rw [rowsM_len]
  exact Nat.le_trans (Nat.pow_le_pow_left h1 n) (Nat.le_trans (Nat.pow_le_pow_right (by decide) h2) (by decide))
theorem flat_le {Ls : List Int} {rs : List (List Int)} {j : Nat} (h1 : Ls.length ≤ 4) (h2 : rs.length ≤ 1024) : ((rs.take j).flatMap fun r => Ls.map fun l => r ++ [l]).length ≤ 4096 := by
  rw [flat_len (c := Ls.length) _ (fun x _ => by simp), List.length_take]
  have : min j rs.length * Ls.length ≤ 1024 * 4 := Nat.mul_le_mul (by omega) h1
  omega
section
variable {P : Program} {w : World} {K : PySem.W.Frag} {mg : Str → Option Value} {base : Heap} {CN CT dS : Addr}
/-- row + (letter,) -/
theorem cat_one {H : Hp} {a : Addr} {r : List Int} {l : Int} {Q : VK} (h : H a = some (.tup (r.map V.int))) (hr : r.length ≤ 1000)
    (q : ∀ y H', Same H H' → RowR H' y (r ++ [l]) → Q y H') (p : Addr) (hp : H p = none) : rCatQ (.ref a) (.ref p) (upd H p (.tup [.int l])) Q := by
  have s1 := same_new (o := .tup [.int l]) hp
  refine ⟨a, p, r.map V.int, [.int l], rfl, rfl, s1 _ _ h, upd_same, (by rw [List.length_map]; exact sz1000 (by simp; omega)), fun H' z s2 hz => q _ _ (s1.trans s2) ⟨z, rfl, by rw [hz, List.map_append]; rfl⟩⟩
def sp_rows_of : Sp := fun vs H Q _ => ∃ n t : Nat, vs = [.int n, .int t] ∧ n ≤ 4 ∧ t ≤ 5 ∧ ∀ H' l, Same H H' → LA RowR H' l (rowsM (lets n) t) → Q (.ref l) H'
theorem cal_rows_of (T : Txt w K mg CN CT dS) : Cal P w K mg base "rows_of" ["letters", "lanes"] 1 sp_rows_of := by
  refine cal_mk T.f_rows_of (fun F => F.ok sc_rows_of (fun vs H Q E h => ?_) (fun cdv A outer s H vs Q E hr h => ?_)) (fun F => F.binds fun _ _ _ _ _ _ us hl => match us, hl with | [_, _], _ => rfl)
  · obtain ⟨n, t, rfl, _⟩ := h
    rfl
  obtain ⟨n, t, rfl, hn, ht, q⟩ := h
  refine ⟨_, (pss_cons (ps_set (i := 2) sc_rows_of.nd rfl (Or.inl rfl) (pe_lst (pa_cons (pe_tup pa_nil) pa_nil)))
      (pss_cons (ps_for PassesOwn.never rfl (pi_range1 (by rfl) T.range (pa_cons (pv 1) pa_nil)) (pg_name (i := 3) sc_rows_of.nd rfl (Or.inl rfl)) 
        (pss_cons (ps_set (i := 4) sc_rows_of.nd rfl (Or.inl rfl) (pe_lst pa_nil))
        (pss_cons (ps_for PassesOwn.never rfl (pi_list (pv 2)) (pg_name (i := 5) sc_rows_of.nd rfl (Or.inr rfl)) 
          (pss_one (ps_expr (pe_bm PySem.F.plainAttrs_list PySem.F.slot_list_extend PySem.F.type_list_extend mt_extend (pv 4) (pa_cons (pe_lc (own := [("letter", 6)]) (g := gName 6) rfl sc_rows_of.nd (pi_range1 (by rfl) T.range (pa_cons (pv 0) pa_nil)) (blkOk_by (N := n_rows_of) (sc := defScope s_rows_of) (by decide +kernel)) (fun _ _ _ _ _ => (pg_name (i := 6) sc_rows_of.nd rfl (Or.inl rfl))) (fun _ _ _ _ _ => pts_nil) (fun _ _ _ _ _ => (pe_op (r := rCatQ) op_catQ (pv 5) (pe_tup (pa_cons (pv 6) pa_nil))))) pa_nil)))))
        (pss_one (ps_set (i := 2) sc_rows_of.nd rfl (Or.inl rfl) (pv 4))))))
      (pss_one (ps_ret (pv 2))))), ?_⟩
  have hlen : (lets n).length ≤ 4 := by rw [lets_len]; exact hn
  refine ⟨Nat.zero_le _, fun p hp => ⟨by show 1 ≤ sizeLine; decide, fun l0 hl0 => ?_⟩⟩
  have s0 := same_add (o := .lst [.ref p]) (same_new (o := .tup []) hp) hl0
  have hp0 : p ≠ l0 := fun e => by rw [← e, upd_same] at hl0; cases hl0
  refine ⟨_, rfl, t, rfl, by omega, by omega, ?_⟩
  refine for_it walk_range (fun i σ H' => ∃ l v3 v4 v5 v6, σ = [some (.int n), some (.int t), some (.ref l), v3, v4, v5, v6] ∧ Same H H' ∧ LA RowR H' l (rowsM (lets n) i))
    ⟨l0, _, _, _, _, rfl, s0, [.ref p], upd_same, .cons ⟨p, rfl, by rw [upd_ne hp0, upd_same]; rfl⟩ .nil⟩ (fun _ _ _ _ _ => trivial) ?_ ?_
  · rintro i x σ H1 H1' hi ⟨l, v3, v4, v5, v6, rfl, s1, vs, hl, pr⟩ ⟨rfl, rfl⟩
    have hi5 : i < 5 := by omega
    have rl := rowsM_len_le (n := i) hlen (by omega)
    have vl : vs.length = (rowsM (lets n) i).length := Paired.length pr
    refine ⟨Nat.zero_le _, fun m hm => ?_⟩
    have s2 := same_new (o := .lst []) hm
    refine ⟨_, rfl, l, rfl, ⟨_, SqL.of (s2 _ _ hl)⟩, ?_⟩
    refine for_it walk_list (fun j σ H2 => ∃ v5 v6, σ = [some (.int n), some (.int t), some (.ref l), some (.int (0 + (i : Nat))), some (.ref m), v5, v6] ∧ Same H1' H2 ∧ LA RowR H2 m (((rowsM (lets n) i).take j).flatMap fun r => (lets n).map fun l => r ++ [l]))
      ⟨_, _, rfl, s2, [], upd_same, .nil⟩ (fun j σ H2 _ ⟨_, _, _, s3, _⟩ => SqL.of (s3 _ _ hl)) ?_ ?_
    · rintro j x σ H2 H2' hj ⟨w5, w6, rfl, s3, us, hu, pu⟩ ⟨rfl, hx⟩
      obtain ⟨r, hr0, a, rfl, ha⟩ := pgetL pr hx
      have ha2 := s3 _ _ ha
      have rlen := (rowsM_row (List.mem_of_getElem? hr0)).1
      refine ⟨_, rfl, .inl ⟨rfl, _, SqL.of hu⟩, _, rfl, n, rfl, by omega, by omega, fun D hD => ?_⟩
      have nDm : m ≠ D := ne_of_none hu hD
      refine lcY walk_range row_mono (fun k => (List.range k).map fun (z : Nat) => r ++ [(z : Int)]) hD rfl (fun k hk => by simp; omega) (fun _ _ => trivial) ?_ mono_name ?_
      · rintro k x H3 H3' hk s4 ⟨rfl, rfl⟩ Ny hNy
        refine ⟨rfl, _, rfl, _, rfl, by show 1 ≤ sizeLine; decide, fun p hp => ?_⟩
        refine cat_one (s4 _ _ ha2) (by omega) (fun y H4 s5 hy => hNy y H4 _ s5 hy ?_) p hp
        show (List.range (k + 1)).map _ = _
        rw [List.range_succ, List.map_append, Int.zero_add]
        rfl
      · intro H3 ws s4 hw pw
        have e1 : ((List.range (n : Int).toNat).map fun (z : Nat) => r ++ [(z : Int)]) = (lets n).map fun l => r ++ [l] := by
          rw [Int.toNat_natCast]
          unfold lets
          rw [List.map_map]
          rfl
        have pw : Paired (RowR H3) ws ((lets n).map fun l => r ++ [l]) := by rw [← e1]; exact pw
        have lw : ws.length ≤ 4 := by rw [Paired.length pw, List.length_map]; exact hlen
        have lu : us.length ≤ 4096 := by rw [Paired.length pu]; exact flat_le hlen rl
        refine ⟨m, D, us, ws, rfl, rfl, s4 _ _ hu, hw, sz1000 (by omega), _, _, rfl, ?_, ?_⟩
        · exact same_mut (s3.trans s4) hm
        · refine ⟨_, upd_same, ?_⟩
          rw [flat_one_more hr0]
          have t4 : TS H2' (upd H3 m (.lst (us ++ ws))) := (TS.of s4).trans (TS.upd (by rw [s4 _ _ hu]; trivial))
          exact papp (row_mono.all t4 pu) (row_mono.all (TS.upd (by rw [s4 _ _ hu]; trivial)) pw)
    · rintro σ H2 ⟨w5, w6, rfl, s3, hm2⟩
      refine ⟨_, rfl, m, _, _, _, _, rfl, s1.trans s3, ?_⟩
      rw [vl, List.take_length] at hm2
      exact hm2
  · rintro σ H1 ⟨l, v3, v4, v5, v6, rfl, s1, hl⟩
    rw [Int.toNat_natCast] at hl
    exact ⟨_, rfl, q H1 l s1 hl⟩
def sp__law_rows : Sp := fun vs H Q _ => ∃ (la : Addr) (Ls : List Int) (t : Nat), vs = [.ref la, .int t] ∧ H la = some (.lst (Ls.map V.int)) ∧ Ls.length ≤ 4 ∧ t ≤ 5 ∧ ∀ H' l, Same H H' → LA RowR H' l (rowsM Ls t) → Q (.ref l) H'
theorem cal__law_rows (T : Txt w K mg CN CT dS) : Cal P w K mg base "_law_rows" ["_law_letters", "_law_lanes"] 1 sp__law_rows := by
  refine cal_mk T.f__law_rows (fun F => F.ok sc__law_rows (fun vs H Q E h => ?_) (fun cdv A outer s H vs Q E hr h => ?_)) (fun F => F.binds fun _ _ _ _ _ _ us hl => match us, hl with | [_, _], _ => rfl)
  · obtain ⟨la, Ls, t, rfl, _⟩ := h
    rfl
  obtain ⟨la, Ls, t, rfl, hla, hlen, ht, q⟩ := h
  refine ⟨_, (pss_cons (ps_set (i := 2) sc__law_rows.nd rfl (Or.inl rfl) (pe_lst (pa_cons (pe_tup pa_nil) pa_nil)))
      (pss_cons (ps_for PassesOwn.never rfl (pi_range1 (by rfl) T.range (pa_cons (pv 1) pa_nil)) (pg_name (i := 3) sc__law_rows.nd rfl (Or.inl rfl)) 
        (pss_cons (ps_set (i := 4) sc__law_rows.nd rfl (Or.inl rfl) (pe_lst pa_nil))
        (pss_cons (ps_for PassesOwn.never rfl (pi_list (pv 2)) (pg_name (i := 5) sc__law_rows.nd rfl (Or.inr rfl)) 
          (pss_one (ps_expr (pe_bm PySem.F.plainAttrs_list PySem.F.slot_list_extend PySem.F.type_list_extend mt_extend (pv 4) (pa_cons (pe_lc (own := [("_law_letter", 6)]) (g := gName 6) rfl sc__law_rows.nd (pi_list (pv 0)) (blkOk_by (N := n__law_rows) (sc := defScope s__law_rows) (by decide +kernel)) (fun _ _ _ _ _ => (pg_name (i := 6) sc__law_rows.nd rfl (Or.inl rfl))) (fun _ _ _ _ _ => pts_nil) (fun _ _ _ _ _ => (pe_op (r := rCatQ) op_catQ (pv 5) (pe_tup (pa_cons (pv 6) pa_nil))))) pa_nil)))))
        (pss_one (ps_set (i := 2) sc__law_rows.nd rfl (Or.inl rfl) (pv 4))))))
      (pss_one (ps_ret (pv 2))))), ?_⟩
  refine ⟨Nat.zero_le _, fun p hp => ⟨by show 1 ≤ sizeLine; decide, fun l0 hl0 => ?_⟩⟩
  have s0 := same_add (o := .lst [.ref p]) (same_new (o := .tup []) hp) hl0
  have hp0 : p ≠ l0 := fun e => by rw [← e, upd_same] at hl0; cases hl0
  refine ⟨_, rfl, t, rfl, by omega, by omega, ?_⟩
  refine for_it walk_range (fun i σ H' => ∃ l v3 v4 v5 v6, σ = [some (.ref la), some (.int t), some (.ref l), v3, v4, v5, v6] ∧ Same H H' ∧ LA RowR H' l (rowsM Ls i))
    ⟨l0, _, _, _, _, rfl, s0, [.ref p], upd_same, .cons ⟨p, rfl, by rw [upd_ne hp0, upd_same]; rfl⟩ .nil⟩ (fun _ _ _ _ _ => trivial) ?_ ?_
  · rintro i x σ H1 H1' hi ⟨l, v3, v4, v5, v6, rfl, s1, vs, hl, pr⟩ ⟨rfl, rfl⟩
    have hi5 : i < 5 := by omega
    have rl := rowsM_len_le (n := i) hlen (by omega)
    have vl : vs.length = (rowsM Ls i).length := Paired.length pr
    refine ⟨Nat.zero_le _, fun m hm => ?_⟩
    have s2 := same_new (o := .lst []) hm
    refine ⟨_, rfl, l, rfl, ⟨_, SqL.of (s2 _ _ hl)⟩, ?_⟩
    refine for_it walk_list (fun j σ H2 => ∃ v5 v6, σ = [some (.ref la), some (.int t), some (.ref l), some (.int (0 + (i : Nat))), some (.ref m), v5, v6] ∧ Same H1' H2 ∧ LA RowR H2 m (((rowsM Ls i).take j).flatMap fun r => Ls.map fun l => r ++ [l]))
      ⟨_, _, rfl, s2, [], upd_same, .nil⟩ (fun j σ H2 _ ⟨_, _, _, s3, _⟩ => SqL.of (s3 _ _ hl)) ?_ ?_
    · rintro j x σ H2 H2' hj ⟨w5, w6, rfl, s3, us, hu, pu⟩ ⟨rfl, hx⟩
      obtain ⟨r, hr0, a, rfl, ha⟩ := pgetL pr hx
      have ha2 := s3 _ _ ha
      have rlen := (rowsM_row (List.mem_of_getElem? hr0)).1
      have hla2 := s3 _ _ (s1 _ _ hla)
      refine ⟨_, rfl, .inl ⟨rfl, _, SqL.of hu⟩, _, rfl, la, rfl, ⟨_, SqL.of hla2⟩, fun D hD => ?_⟩
      have nDm : m ≠ D := ne_of_none hu hD
      refine lcY walk_list row_mono (fun k => (Ls.take k).map fun z => r ++ [z]) hD rfl (fun k hk => by simp at hk ⊢; omega) (fun _ s => SqL.of (s _ _ hla2)) ?_ mono_name ?_
      · rintro k x H3 H3' hk s4 ⟨rfl, hx⟩ Ny hNy
        rw [List.getElem?_map] at hx
        obtain ⟨z, hz, rfl⟩ := Option.map_eq_some_iff.mp hx
        refine ⟨rfl, _, rfl, _, rfl, by show 1 ≤ sizeLine; decide, fun p hp => ?_⟩
        refine cat_one (s4 _ _ ha2) (by omega) (fun y H4 s5 hy => hNy y H4 _ s5 hy ?_) p hp
        show (Ls.take (k + 1)).map _ = _
        rw [take_one_more hz, List.map_append]
        rfl
      · intro H3 ws s4 hw pw
        have e0 : ((Ls.take (Ls.map V.int).length).map fun z => r ++ [z]) = Ls.map fun l => r ++ [l] := by rw [List.length_map, List.take_length]
        have pw : Paired (RowR H3) ws (Ls.map fun l => r ++ [l]) := by rw [← e0]; exact pw
        have lw : ws.length ≤ 4 := by rw [Paired.length pw, List.length_map]; exact hlen
        have lu : us.length ≤ 4096 := by rw [Paired.length pu]; exact flat_le hlen rl
        refine ⟨m, D, us, ws, rfl, rfl, s4 _ _ hu, hw, sz1000 (by omega), _, _, rfl, ?_, ?_⟩
        · exact same_mut (s3.trans s4) hm
        · refine ⟨_, upd_same, ?_⟩
          rw [flat_one_more hr0]
          have t4 : TS H2' (upd H3 m (.lst (us ++ ws))) := (TS.of s4).trans (TS.upd (by rw [s4 _ _ hu]; trivial))
          exact papp (row_mono.all t4 pu) (row_mono.all (TS.upd (by rw [s4 _ _ hu]; trivial)) pw)
    · rintro σ H2 ⟨w5, w6, rfl, s3, hm2⟩
      refine ⟨_, rfl, m, _, _, _, _, rfl, s1.trans s3, ?_⟩
      rw [vl, List.take_length] at hm2
      exact hm2
  · rintro σ H1 ⟨l, v3, v4, v5, v6, rfl, s1, hl⟩
    rw [Int.toNat_natCast] at hl
    exact ⟨_, rfl, q H1 l s1 hl⟩
end
end Fv
namespace Fv
open PySem L2
def BlR : Rl Bool := fun _ v b => v = .bl b
theorem bl_mono : Mono BlR := ⟨fun _ h => h⟩
theorem bls_eq {H : Hp} : ∀ {vs : List V} {bs : List Bool}, Paired (BlR H) vs bs → vs = bs.map V.bl
  | _, _, .nil => rfl
  | _, _, .cons h t => by rw [List.map_cons, ← bls_eq t, show _ = V.bl _ from h]
section
variable {J : It} {n : Nat} {G : Hp → Prop} {Y : Nat → Hp → V → Hp → Prop}
/-- a comprehension all of whose answers are True -/
theorem lcAll (w : Walk J n G Y) {g : TG} {te : TE} {vs : List Nat} {σ : L2.St} {H1 : Hp} {D : Addr} {Qd : Hp → Prop} (hn : n < 100000)
    (hD : H1 D = none) (hG : ∀ H, Same H1 H → G H)
    (hs : ∀ i x H H', i < n → Same H1 H → Y i H x H' → ∀ (Ny : V → Hp → Prop), (∀ H4, Same H H4 → Ny (.bl true) H4) → g x (wipe σ vs) H' fun σ2 H2 => wipe σ2 vs = wipe σ vs ∧ te σ2 H2 Ny)
    (mono : ∀ x σ H Q Q', (∀ σ2 H2, Q σ2 H2 → Q' σ2 H2) → g x σ H Q → g x σ H Q')
    (hd : ∀ H, Same H1 H → H D = some (.lst ((List.replicate n true).map V.bl)) → Qd H) :
    ∃ W : Nat → Nat → Hp → Prop, (∃ m, W 0 m (upd H1 D (.lst []))) ∧ ∀ i m H, W i m H →
      (J.stop i H ∧ Qd H) ∨ (J.go i H ∧ ∃ Nx : Hp → Prop, (∀ H', Nx H' → ∃ m', m' < m ∧ W (i + 1) m' H') ∧ ∀ x H', J.yld i H x H' → g x (wipe σ vs) H' fun σ2 H2 => wipe σ2 vs = wipe σ vs ∧ tYes σ2 H2 fun b H3 =>
        if b = true then te σ2 H3 fun y H4 => ∃ acc, H4 D = some (.lst acc) ∧ acc.length < sizeLine ∧ Nx (upd H4 D (.lst (acc ++ [y]))) else Nx H3) := by
  refine lcY w bl_mono (fun k => List.replicate k true) hD rfl (fun k hk => by rw [List.length_replicate]; omega) hG (fun i x H H' hi s y Ny hNy => hs i x H H' hi s y Ny fun H4 s4 => hNy _ H4 true s4 rfl ?_) mono (fun H ws s hw pw => hd H s (by rw [hw, bls_eq pw]))
  exact List.replicate_succ'
end
theorem all_rep (n : Nat) : (List.replicate n true).all id = true := by simp
section
variable {P : Program} {w : World} {K : PySem.W.Frag} {mg : Str → Option Value} {base : Heap} {CN CT dS : Addr}
def sp_check_listed : Sp := fun vs H Q _ => ∃ n t : Nat, vs = [.int n, .int t] ∧ n ≤ 4 ∧ t ≤ 5 ∧ Q .non H
theorem cal_check_listed (T : Txt w K mg CN CT dS) : Cal P w K mg base "check_listed" ["letters", "lanes"] 2 sp_check_listed := by
  have g_power_of := cal_power_of (P := P) (base := base) T
  refine cal_mk T.f_check_listed (fun F => F.ok sc_check_listed (fun vs H Q E h => ?_) (fun cdv A outer s H vs Q E hr h => ?_)) (fun F => F.binds fun _ _ _ _ _ _ us hl => match us, hl with | [_, _], _ => rfl)
  · obtain ⟨n, t, rfl, _⟩ := h
    rfl
  obtain ⟨n, t, rfl, hn, ht, q⟩ := h
  refine ⟨_, (pss_one (ps_if (pt_cmpR op_gt (pe_fn g_power_of (hr.mono (by decide)) (by rfl) (pa_cons (pv 0) (pa_cons (pe_callB (call_min2 rfl) (by rfl) T.min (by decide +kernel) (pa_cons (pv 1) (pa_cons (pe_op op_add (pe_gint T.c_MOST_LISTED) pe_int) pa_nil))) pa_nil))) (pe_gint T.c_MOST_ROWS) (nomark _)) 
        (pss_one ps_never) pss_nil)), ?_⟩
  refine ⟨_, rfl, _, rfl, _, _, rfl, rfl, _, _, rfl, n, t, ?_, hn, by omega, ?_⟩
  · rw [if_neg (by omega)]
    rfl
  · have hb : n ^ t ≤ 4 ^ 5 := Nat.le_trans (Nat.pow_le_pow_left hn t) (Nat.pow_le_pow_right (by decide) ht)
    exact ⟨_, _, rfl, rfl, _, rfl, iteDF (by omega) q⟩
def sp_is_exchange : Sp := fun vs H Q _ => ∃ (t : Addr) (a b c n : Nat), vs = [.ref t, .int n] ∧ H t = some (.tup [.int a, .int b, .int c]) ∧ a < b ∧ b < c ∧ c ≤ n ∧ Q (.bl true) H
theorem cal_is_exchange (T : Txt w K mg CN CT dS) : Cal P w K mg base "is_exchange" ["thing", "lanes"] 1 sp_is_exchange := by
  refine cal_mk T.f_is_exchange (fun F => F.ok sc_is_exchange (fun vs H Q E h => ?_) (fun cdv A outer s H vs Q E hr h => ?_)) (fun F => F.binds fun _ _ _ _ _ _ us hl => match us, hl with | [_, _], _ => rfl)
  · obtain ⟨t, a, b, c, n, rfl, _⟩ := h
    rfl
  obtain ⟨t, a, b, c, n, rfl, ht, h1, h2, h3, q⟩ := h
  refine ⟨_, (pss_one (ps_ret (pe_chain4 op_le op_lt op_lt op_le pe_int (pe_ix (r := rIxT K) ix_tup (pv 0) pe_int (fun _ _ => rfl)) (pe_ix (r := rIxT K) ix_tup (pv 0) pe_int (fun _ _ => rfl)) (pe_ix (r := rIxT K) ix_tup (pv 0) pe_int (fun _ _ => rfl)) (pv 1)))), ?_⟩
  refine ⟨_, rfl, _, _, _, _, rfl, rfl, SqT.of ht, rfl, _, _, rfl, rfl, _, rfl, iteD (by omega) ?_⟩
  refine ⟨_, rfl, _, _, _, _, rfl, rfl, SqT.of ht, rfl, _, _, rfl, rfl, _, rfl, iteD (by omega) ?_⟩
  refine ⟨_, rfl, _, _, _, _, rfl, rfl, SqT.of ht, rfl, _, _, rfl, rfl, _, rfl, iteD (by omega) ?_⟩
  exact ⟨_, rfl, _, _, rfl, rfl, decT (by omega) q⟩
theorem four_len {xs : List V} {a b c : Nat} (h1 : a ≤ b) (h2 : b ≤ c) (h3 : c ≤ xs.length) : ((xs.take a).length + ((xs.drop b).take (c - b)).length ≤ xs.length) ∧ ((xs.take a ++ (xs.drop b).take (c - b)).length + ((xs.drop a).take (b - a)).length ≤ xs.length) ∧
    ((xs.take a ++ (xs.drop b).take (c - b) ++ (xs.drop a).take (b - a)).length + (xs.drop c).length ≤ xs.length) := by
  simp only [List.length_append, List.length_take, List.length_drop]
  omega
def sp_exchanged_by : Sp := fun vs H Q _ => ∃ (l : Addr) (xs : List V) (a b c : Nat), vs = [.ref l, .int a, .int b, .int c] ∧ H l = some (.lst xs) ∧ a < b ∧ b < c ∧ c ≤ xs.length ∧ xs.length ≤ 1000 ∧
  ∀ H' p, Same H H' → H p = none → H' p = some (.lst (xs.take a ++ (xs.drop b).take (c - b) ++ (xs.drop a).take (b - a) ++ xs.drop c)) → Q (.ref p) H'
theorem cal_exchanged_by (T : Txt w K mg CN CT dS) : Cal P w K mg base "exchanged_by" ["row", "a", "b", "c"] 1 sp_exchanged_by := by
  refine cal_mk T.f_exchanged_by (fun F => F.ok sc_exchanged_by (fun vs H Q E h => ?_) (fun cdv A outer s H vs Q E hr h => ?_)) (fun F => F.binds fun _ _ _ _ _ _ us hl => match us, hl with | [_, _, _, _], _ => rfl)
  · obtain ⟨l, xs, a, b, c, rfl, _⟩ := h
    rfl
  obtain ⟨l, xs, a, b, c, rfl, hl, h1, h2, h3, h4, q⟩ := h
  refine ⟨_, (pss_one (ps_ret (pe_op (r := rCatLQ) op_catLQ (pe_op (r := rCatLQ) op_catLQ (pe_op (r := rCatLQ) op_catLQ (pe_slice (r := rSlLQ K) sl_listQ (pv 0) po_none (po_some (pv 1))) (pe_slice (r := rSlLQ K) sl_listQ (pv 0) (po_some (pv 2)) (po_some (pv 3)))) (pe_slice (r := rSlLQ K) sl_listQ (pv 0) (po_some (pv 1)) (po_some (pv 2)))) (pe_slice (r := rSlLQ K) sl_listQ (pv 0) (po_some (pv 3)) po_none)))), ?_⟩
  obtain ⟨z1, z2, z3⟩ := four_len (Nat.le_of_lt h1) (Nat.le_of_lt h2) h3
  refine ⟨_, rfl, _, rfl, _, rfl, _, _, rfl, SqL.of hl, fun H1 p1 s1 n1 e1 => ?_⟩
  rw [cut_ns (by omega)] at e1
  refine ⟨_, rfl, _, rfl, _, rfl, _, rfl, _, rfl, _, _, rfl, SqL.of (s1 _ _ hl), fun H2 p2 s2 n2 e2 => ?_⟩
  rw [cut_ss (by omega) h3] at e2
  refine ⟨_, _, _, _, rfl, rfl, s2 _ _ e1, e2, sz1000 (by omega), fun H3 p3 s3 n3 e3 => ?_⟩
  have t3 := (s1.trans s2).trans s3
  refine ⟨_, rfl, _, rfl, _, rfl, _, rfl, _, rfl, _, _, rfl, SqL.of (t3 _ _ hl), fun H4 p4 s4 n4 e4 => ?_⟩
  rw [cut_ss (by omega) (by omega)] at e4
  refine ⟨_, _, _, _, rfl, rfl, s4 _ _ e3, e4, sz1000 (by omega), fun H5 p5 s5 n5 e5 => ?_⟩
  have t5 := (t3.trans s4).trans s5
  refine ⟨_, rfl, _, rfl, _, rfl, _, _, rfl, SqL.of (t5 _ _ hl), fun H6 p6 s6 n6 e6 => ?_⟩
  rw [cut_sn h3] at e6
  refine ⟨_, _, _, _, rfl, rfl, s6 _ _ e5, e6, sz1000 (by omega), fun H7 p7 s7 n7 e7 => ?_⟩
  exact q H7 p7 ((t5.trans s6).trans s7) ((t5.trans s6).free n7) e7
def sp__law_exchanged : Sp := fun vs H Q _ => ∃ (l : Addr) (xs : List V) (a b c : Nat), vs = [.ref l, .int a, .int b, .int c] ∧ H l = some (.tup xs) ∧ a < b ∧ b < c ∧ c ≤ xs.length ∧ xs.length ≤ 1000 ∧
  ∀ H' p, Same H H' → H' p = some (.tup (xs.take a ++ (xs.drop b).take (c - b) ++ (xs.drop a).take (b - a) ++ xs.drop c)) → Q (.ref p) H'
theorem cal__law_exchanged (T : Txt w K mg CN CT dS) : Cal P w K mg base "_law_exchanged" ["_law_row", "_law_a", "_law_b", "_law_c"] 1 sp__law_exchanged := by
  refine cal_mk T.f__law_exchanged (fun F => F.ok sc__law_exchanged (fun vs H Q E h => ?_) (fun cdv A outer s H vs Q E hr h => ?_)) (fun F => F.binds fun _ _ _ _ _ _ us hl => match us, hl with | [_, _, _, _], _ => rfl)
  · obtain ⟨l, xs, a, b, c, rfl, _⟩ := h
    rfl
  obtain ⟨l, xs, a, b, c, rfl, hl, h1, h2, h3, h4, q⟩ := h
  refine ⟨_, (pss_one (ps_ret (pe_op (r := rCatQ) op_catQ (pe_op (r := rCatQ) op_catQ (pe_op (r := rCatQ) op_catQ (pe_slice (r := rSlQ) sl_tupQ (pv 0) po_none (po_some (pv 1))) (pe_slice (r := rSlQ) sl_tupQ (pv 0) (po_some (pv 2)) (po_some (pv 3)))) (pe_slice (r := rSlQ) sl_tupQ (pv 0) (po_some (pv 1)) (po_some (pv 2)))) (pe_slice (r := rSlQ) sl_tupQ (pv 0) (po_some (pv 3)) po_none)))), ?_⟩
  obtain ⟨z1, z2, z3⟩ := four_len (Nat.le_of_lt h1) (Nat.le_of_lt h2) h3
  refine ⟨_, rfl, _, rfl, _, rfl, _, _, rfl, hl, fun H1 p1 s1 e1 => ?_⟩
  rw [cut_ns (by omega)] at e1
  refine ⟨_, rfl, _, rfl, _, rfl, _, rfl, _, rfl, _, _, rfl, s1 _ _ hl, fun H2 p2 s2 e2 => ?_⟩
  rw [cut_ss (by omega) h3] at e2
  refine ⟨_, _, _, _, rfl, rfl, s2 _ _ e1, e2, sz1000 (by omega), fun H3 p3 s3 e3 => ?_⟩
  have t3 := (s1.trans s2).trans s3
  refine ⟨_, rfl, _, rfl, _, rfl, _, rfl, _, rfl, _, _, rfl, t3 _ _ hl, fun H4 p4 s4 e4 => ?_⟩
  rw [cut_ss (by omega) (by omega)] at e4
  refine ⟨_, _, _, _, rfl, rfl, s4 _ _ e3, e4, sz1000 (by omega), fun H5 p5 s5 e5 => ?_⟩
  have t5 := (t3.trans s4).trans s5
  refine ⟨_, rfl, _, rfl, _, rfl, _, _, rfl, t5 _ _ hl, fun H6 p6 s6 e6 => ?_⟩
  rw [cut_sn h3] at e6
  refine ⟨_, _, _, _, rfl, rfl, s6 _ _ e5, e6, sz1000 (by omega), fun H7 p7 s7 e7 => ?_⟩
  exact q H7 p7 ((t5.trans s6).trans s7) e7
def sp_is_letters : Sp := fun vs H Q _ => ∃ (v : V) (r : List Int) (m L : Nat), vs = [v, .int m, .int L] ∧ RowR H v r ∧ r.length = m ∧ m ≤ 1000 ∧ (∀ l ∈ r, 0 ≤ l ∧ l < (L : Int)) ∧ ∀ H', Same H H' → Q (.bl true) H'
theorem cal_is_letters (T : Txt w K mg CN CT dS) : Cal P w K mg base "is_letters" ["thing", "many", "letters"] 4 sp_is_letters := by
  have g_is_index := cal_is_index (P := P) (base := base) T
  refine cal_mk T.f_is_letters (fun F => F.ok sc_is_letters (fun vs H Q E h => ?_) (fun cdv A outer s H vs Q E hr h => ?_)) (fun F => F.binds fun _ _ _ _ _ _ us hl => match us, hl with | [_, _, _], _ => rfl)
  · obtain ⟨v, r, m, L, rfl, _⟩ := h
    rfl
  obtain ⟨v, r, m, L, rfl, ⟨a, rfl, ha⟩, hm, hm2, hl, q⟩ := h
  refine ⟨_, (pss_one (ps_ret (pe_and (pe_callB (r := rIsi K) call_isi (by rfl) T.isinstance (by decide +kernel) (pa_cons (pv 0) (pa_cons (pe_ty "tuple" T.tuple_) pa_nil))) (pe_and (pe_cmpR op_eq (pe_callB (r := rLenQ K) call_lenQ (by rfl) T.len (by decide +kernel) (pa_cons (pv 0) pa_nil)) (pv 1) (nomark _)) (pe_one (pe_callB (r := rAll K) (cr_all rfl) (by rfl) T.all (by decide +kernel) (pa_cons (pe_lc (own := [("letter", 3)]) (g := gName 3) rfl sc_is_letters.nd (pi_tup (pv 0)) (blkOk_by (N := n_is_letters) (sc := defScope s_is_letters) (by decide +kernel)) (fun _ _ _ _ _ => (pg_name (i := 3) sc_is_letters.nd rfl (Or.inl rfl))) (fun _ _ _ _ _ => pts_nil) (fun _ _ _ _ _ => (pe_fn g_is_index (hr.mono (by decide)) (by rfl) (pa_cons (pv 3) (pa_cons (pv 2) pa_nil))))) pa_nil))))))), ?_⟩
  refine ⟨_, rfl, _, _, _, _, _, rfl, .ty _, .base (.tup ha), kit_ty kit_tt, true, rfl, iteT ?_⟩
  refine ⟨_, rfl, _, _, rfl, .inr (SqT.of ha), _, rfl, rfl, _, rfl, iteD (by rw [List.length_map, hm]) ?_⟩
  refine ⟨_, rfl, a, rfl, ⟨_, SqT.of ha⟩, fun D hD => ?_⟩
  refine lcAll walk_tup (by rw [List.length_map]; omega) hD (fun _ s => SqT.of (s _ _ ha)) ?_ mono_name ?_
  · rintro k x H1 H1' hk s1 ⟨rfl, hx⟩ Ny hNy
    rw [List.getElem?_map] at hx
    obtain ⟨z, hz, rfl⟩ := Option.map_eq_some_iff.mp hx
    obtain ⟨l1, l2⟩ := hl z (List.mem_of_getElem? hz)
    exact ⟨rfl, _, rfl, _, rfl, z, L, rfl, l1, l2, hNy _ (Same.refl _)⟩
  · intro H1 s1 hw
    refine ⟨D, _, rfl, SqL.of hw, ?_⟩
    rw [all_rep]
    exact q H1 s1
end
end Fv
namespace Fv
open PySem L2
theorem sq_fz {K : PySem.W.Frag} {H : Hp} {a : Addr} {o : Obj} {xs : List V} (h : H a = some (.frz o (.tup xs))) : SqT K H a xs := .inl (.inr ⟨o, h⟩)
theorem sq_same {K : PySem.W.Frag} {H H' : Hp} {b : Addr} {xs : List V} (s : Same H H') (h : SqT K H b xs) : SqT K H' b xs := by
  rcases h with (h | ⟨o', h⟩) | h
  · exact .inl (.inl (s _ _ h))
  · exact .inl (.inr ⟨o', s _ _ h⟩)
  · exact .inr h
def rSlS (K : PySem.W.Frag) : V → Option Int → Option Int → Hp → VK → Prop := fun x lo hi H Q => ∃ a xs, x = .ref a ∧ SqT K H a xs ∧ ∀ H' p, Same H H' → SqT K H' p (cutV xs lo hi) → Q (.ref p) H'
theorem sl_tupS {X : Cx} : SlR X (rSlS X.K) := by
  intro pins s σ H x v vl vu lo hi sl Q I rx hs pl pu h
  obtain ⟨a, xs, e, ha, q⟩ := h
  refine sl_tupA pins s σ H x v vl vu lo hi sl Q I rx hs pl pu ⟨a, xs, e, ha, fun hw => q H a (Same.refl H) ?_, fun _ p hp => q _ p (same_new hp) (SqT.of upd_same)⟩
  have e2 : cutV xs lo hi = xs := by
    unfold cutV
    rw [hw.1, hw.2, List.drop_zero, Nat.sub_zero, List.take_length]
  rw [e2]
  exact ha
theorem lex_eq : ∀ (a b : List Int), HT.lexLt a b = lexL a b
  | [], [] => rfl
  | [], _ :: _ => rfl
  | _ :: _, [] => rfl
  | x :: xs, y :: ys => by
    unfold HT.lexLt lexL
    rw [lex_eq xs ys]
theorem iteNE {p : Prop} [Decidable p] {A B : Prop} (h : p) (q : B) : if (!decide p) = true then A else B := by rw [decide_eq_true h]; exact iteF q
section
variable {P : Program} {w : World} {K : PySem.W.Frag} {mg : Str → Option Value} {base : Heap} {CN CT dS : Addr}
def sp_are_others : Sp := fun vs H Q _ => ∃ (v : V) (o : List (List Int × Nat)) (m L : Nat), vs = [v, .int m, .int L] ∧ OthR H v o ∧ okOth L m o ∧ m ≤ 3 ∧ ∀ H', Same H H' → Q (.bl true) H'
theorem cal_are_others (T : Txt w K mg CN CT dS) : Cal P w K mg base "are_others" ["thing", "wide", "letters"] 5 sp_are_others := by
  have g_is_index := cal_is_index (P := P) (base := base) T
  have g_is_letters := cal_is_letters (P := P) (base := base) T
  refine cal_mk T.f_are_others (fun F => F.ok sc_are_others (fun vs H Q E h => ?_) (fun cdv A outer s H vs Q E hr h => ?_)) (fun F => F.binds fun _ _ _ _ _ _ us hl => match us, hl with | [_, _, _], _ => rfl)
  · obtain ⟨v, o, m, L, rfl, _⟩ := h
    rfl
  obtain ⟨v, o, m, L, rfl, ⟨a, ob, us, rfl, to, ha, pu⟩, ⟨o1, o2, o3⟩, hm, q⟩ := h
  have lu : us.length = o.length := Paired.length pu
  refine ⟨_, (pss_cons (ps_if (PW.pt (pw_or (pt_not (pt_val (pe_callB (r := rIsi K) call_isi (by rfl) T.isinstance (by decide +kernel) (pa_cons (pv 0) (pa_cons (pe_ty "tuple" T.tuple_) pa_nil))))) (pw_or1 (pt_cmpR op_gt (pe_callB (r := rLenQ K) call_lenQ (by rfl) T.len (by decide +kernel) (pa_cons (pv 0) pa_nil)) (pe_gint T.c_MOST_OTHERS) (nomark _))))) 
        (pss_one (ps_ret pe_bl)) pss_nil)
      (pss_cons (ps_for PassesOwn.never rfl (pi_tup (pv 0)) (pg_name (i := 3) sc_are_others.nd rfl (Or.inl rfl)) 
        (pss_cons (ps_if (PW.pt (pw_or (pt_not (pt_val (pe_callB (r := rIsi K) call_isi (by rfl) T.isinstance (by decide +kernel) (pa_cons (pv 3) (pa_cons (pe_ty "tuple" T.tuple_) pa_nil))))) (pw_or1 (pt_cmpR op_ne (pe_callB (r := rLenQ K) call_lenQ (by rfl) T.len (by decide +kernel) (pa_cons (pv 3) pa_nil)) pe_int (nomark _))))) 
          (pss_one (ps_ret pe_bl)) pss_nil)
        (pss_one (ps_if (PW.pt (pw_or (pt_not (pt_val (pe_fn g_is_letters (hr.mono (by decide)) (by rfl) (pa_cons (pe_ix (r := rIxT K) ix_tup (pv 3) pe_int (fun _ _ => rfl)) (pa_cons (pv 1) (pa_cons (pv 2) pa_nil)))))) (pw_or1 (pt_not (pt_val (pe_fn g_is_index (hr.mono (by decide)) (by rfl) (pa_cons (pe_ix (r := rIxT K) ix_tup (pv 3) pe_int (fun _ _ => rfl)) (pa_cons (pv 1) pa_nil)))))))) 
          (pss_one (ps_ret pe_bl)) pss_nil))))
      (pss_one (ps_ret (pe_callB (r := rAll K) (cr_all rfl) (by rfl) T.all (by decide +kernel) (pa_cons (pe_lc (own := [("one", 4), ("other", 5)]) (g := gTup K 2 ((gCons (gName 4) (gCons (gName 5) gNil)))) rfl sc_are_others.nd (RZ.pi_zipA (by rfl) T.zip (pa_cons (pv 0) (pa_cons (pe_slice (r := rSlS K) sl_tupS (pv 0) (po_some pe_int) po_none) pa_nil))) (blkOk_by (N := n_are_others) (sc := defScope s_are_others) (by decide +kernel)) (fun _ _ _ _ _ => pg_tup rfl (pgs_cons (pg_name (i := 4) sc_are_others.nd rfl (Or.inl rfl)) (pgs_cons (pg_name (i := 5) sc_are_others.nd rfl (Or.inl rfl)) pgs_nil))) (fun _ _ _ _ _ => pts_nil) (fun _ _ _ _ _ => (pe_cmpR (r := rLtT K) (op_ltT hr.units0) (pe_ix (r := rIxT K) ix_tup (pv 4) pe_int (fun _ _ => rfl)) (pe_ix (r := rIxT K) ix_tup (pv 5) pe_int (fun _ _ => rfl)) (nomark _)))) pa_nil)))))), ?_⟩
  refine ⟨_, rfl, _, _, _, _, _, rfl, .ty _, .fTuple ha, kit_ty kit_tt, true, rfl, iteF ?_⟩
  refine ⟨_, rfl, a, _, rfl, .inr (sq_fz ha), _, _, rfl, rfl, _, rfl, iteDF (by omega) ?_⟩
  refine ⟨_, rfl, a, rfl, ⟨_, sq_fz ha⟩, ?_⟩
  refine for_it walk_tup (fun i σ H' => ∃ v3 v4 v5, σ = [some (.ref a), some (.int m), some (.int L), v3, v4, v5] ∧ Same H H') ⟨_, _, _, rfl, Same.refl H⟩ (fun _ _ H' _ ⟨_, _, _, _, s1⟩ => sq_fz (s1 _ _ ha)) ?_ ?_
  · rintro i x σ H1 H1' hi ⟨v3, v4, v5, rfl, s1⟩ ⟨rfl, hx⟩
    obtain ⟨qq, hq, b, c, rfl, hb, hc⟩ := pgetL pu hx
    obtain ⟨k1, k2, k3⟩ := o2 qq (List.mem_of_getElem? hq)
    have hb1 := s1 _ _ hb
    have hc1 := s1 _ _ hc
    refine ⟨_, rfl, _, _, _, _, _, rfl, .ty _, .base (.tup hb1), kit_ty kit_tt, true, rfl, iteF ?_⟩
    refine ⟨_, rfl, b, _, rfl, .inr (SqT.of hb1), rfl, _, rfl, iteNE rfl ?_⟩
    refine ⟨_, rfl, _, _, _, _, rfl, rfl, SqT.of hb1, rfl, _, rfl, _, rfl, _, qq.1, m, L, rfl, ⟨c, rfl, hc1⟩, k1, by omega, k2, fun H2 s2 => ⟨true, rfl, iteF ?_⟩⟩
    refine ⟨_, rfl, _, _, _, _, rfl, rfl, SqT.of (s2 _ _ hb1), rfl, _, rfl, _, m, rfl, by omega, by omega, true, rfl, iteF ?_⟩
    exact ⟨_, _, _, rfl, s1.trans s2⟩
  · rintro σ H1 ⟨v3, v4, v5, rfl, s1⟩
    have ha1 := s1 _ _ ha
    refine ⟨_, rfl, _, rfl, 1, rfl, a, us, rfl, sq_fz ha1, fun H2 b s2 hb => ?_⟩
    have e : cutV us (some ((1 : Nat) : Int)) none = us.drop 1 := by
      rcases Nat.eq_zero_or_pos us.length with z | z
      · rw [List.length_eq_zero_iff.mp z]
        rfl
      · exact cut_sn (by omega)
    have hb : SqT K H2 b (us.drop 1) := by rw [← e]; exact hb
    have hu2 := s2 _ _ ha1
    refine ⟨a, b, us, us.drop 1, rfl, .inr ⟨sq_fz hu2, hb, fun D hD => ?_⟩⟩
    refine lcAll (walk_zipT rfl) (by rw [List.length_drop]; omega) hD (fun H3 s3 => ⟨sq_fz (s3 _ _ hu2), sq_same s3 hb⟩) ?_ mono_pair ?_
    · rintro k x H3 H3' hk s3 ⟨T', x1, x2, rfl, hT, rfl, e1, e2⟩ Ny hNy
      have s4 := same_new (o := .tup [x1, x2]) hT
      have e2 : us[k + 1]? = some x2 := by
        have z : (us.drop 1)[k]? = some x2 := e2
        rw [List.getElem?_drop, Nat.add_comm] at z
        exact z
      obtain ⟨q1, hq1, b1, c1, rfl, hb1, hc1⟩ := pgetL pu e1
      obtain ⟨q2, hq2, b2, c2, rfl, hb2, hc2⟩ := pgetL pu e2
      have t := ((s1.trans s2).trans s3).trans s4
      refine ⟨T', _, rfl, SqT.of upd_same, rfl, _, _, rfl, _, _, rfl, rfl, rfl, ?_⟩
      refine ⟨_, rfl, _, _, _, _, rfl, rfl, SqT.of (t _ _ hb1), rfl, _, rfl, _, _, _, _, rfl, rfl, SqT.of (t _ _ hb2), rfl, c1, c2, q1.1, q2.1, rfl, rfl, SqT.of (t _ _ hc1), SqT.of (t _ _ hc2), ?_⟩
      rw [lex_eq, o3 k q1 q2 hq1 hq2]
      exact hNy _ s4
    · intro H3 s3 hw
      refine ⟨D, _, rfl, SqL.of hw, ?_⟩
      rw [all_rep]
      exact q H3 ((s1.trans s2).trans s3)
/-- what a step's tuple begins with, how long it is -/
theorem step_form (T : Txt w K mg CN CT dS) {H : Hp} {vs : List V} {s : Stp} (h : StV H vs s) : ∃ (z : Str), atI vs 0 = some (.str z) ∧ KDct K w dS z (.int (vs.length : Int)) ∧ 0 < vs.length := by
  cases s with
  | dbl k => rw [show vs = _ from h]; exact ⟨_, rfl, T.zD, Nat.succ_pos _⟩
  | strk k => rw [show vs = _ from h]; exact ⟨_, rfl, T.zS, Nat.succ_pos _⟩
  | fly a b c => rw [show vs = _ from h]; exact ⟨_, rfl, T.zF, Nat.succ_pos _⟩
  | chs k w p o =>
    obtain ⟨t, e, _⟩ := h
    rw [e]
    exact ⟨_, rfl, T.zC, Nat.succ_pos _⟩
def sp_is_step_form : Sp := fun vs H Q _ => ∃ (v : V) (s : Stp), vs = [v] ∧ StpR H v s ∧ Q (.bl true) H
theorem cal_is_step_form (T : Txt w K mg CN CT dS) : Cal P w K mg base "is_step_form" ["thing"] 1 sp_is_step_form := by
  refine cal_mk T.f_is_step_form (fun F => F.ok sc_is_step_form (fun vs H Q E h => ?_) (fun cdv A outer s H vs Q E hr h => ?_)) (fun F => F.binds fun _ _ _ _ _ _ us hl => match us, hl with | [_], _ => rfl)
  · obtain ⟨v, s, rfl, _⟩ := h
    rfl
  obtain ⟨v, st, rfl, ⟨a, us, rfl, ha, hs⟩, q⟩ := h
  obtain ⟨z, h0, hz, hl⟩ := step_form T hs
  refine ⟨_, (pss_cons (ps_if (PW.pt (pw_or (pt_not (pt_val (pe_callB (r := rIsi K) call_isi (by rfl) T.isinstance (by decide +kernel) (pa_cons (pv 0) (pa_cons (pe_ty "tuple" T.tuple_) pa_nil))))) (pw_or (pt_cmpR op_eq (pe_callB (r := rLenQ K) call_lenQ (by rfl) T.len (by decide +kernel) (pa_cons (pv 0) pa_nil)) pe_int (nomark _)) (pw_or1 (pt_not (pt_val (pe_callB (r := rIsi K) call_isi (by rfl) T.isinstance (by decide +kernel) (pa_cons (pe_ix (r := rIxT K) ix_tup (pv 0) pe_int (fun _ _ => rfl)) (pa_cons (pe_ty "str" T.str_) pa_nil))))))))) 
        (pss_one (ps_ret pe_bl)) pss_nil)
      (pss_one (ps_ret (pe_and (pe_cmpR op_inK (pe_ix (r := rIxT K) ix_tup (pv 0) pe_int (fun _ _ => rfl)) (pe_glob (v := .ref dS) rfl T.c_SIZES rfl) (by rfl)) (pe_one (pe_cmpR op_eq (pe_callB (r := rLenQ K) call_lenQ (by rfl) T.len (by decide +kernel) (pa_cons (pv 0) pa_nil)) (pe_ix ix_kdict (pe_glob (v := .ref dS) rfl T.c_SIZES rfl) (pe_ix (r := rIxT K) ix_tup (pv 0) pe_int (fun _ _ => rfl)) (fun _ _ => rfl)) (nomark _))))))), ?_⟩
  refine ⟨_, rfl, _, _, _, _, _, rfl, .ty _, .base (.tup ha), kit_ty kit_tt, true, rfl, iteF ?_⟩
  refine ⟨_, rfl, a, _, rfl, .inr (SqT.of ha), rfl, _, rfl, iteDF (fun e => by injection e with e; omega) ?_⟩
  refine ⟨_, rfl, _, _, _, _, rfl, rfl, SqT.of ha, h0, _, _, _, _, _, rfl, .ty _, .base (.str z), kit_ty kit_ss, true, rfl, iteF ?_⟩
  refine ⟨_, rfl, _, _, _, _, rfl, rfl, SqT.of ha, h0, z, dS, _, rfl, rfl, hz, T.loS, true, rfl, iteT ?_⟩
  refine ⟨_, rfl, a, _, rfl, .inr (SqT.of ha), _, rfl, _, _, _, _, rfl, rfl, SqT.of ha, h0, dS, z, _, rfl, rfl, hz, rfl, decT rfl q⟩
end
end Fv
namespace Fv
open PySem L2
theorem ne_df : ¬ V.str "double" = V.str "fly" := by decide +kernel
theorem ne_sf : ¬ V.str "strike" = V.str "fly" := by decide +kernel
theorem ne_cf : ¬ V.str "choose" = V.str "fly" := by decide +kernel
theorem ne_sd : ¬ V.str "strike" = V.str "double" := by decide +kernel
theorem ne_cd : ¬ V.str "choose" = V.str "double" := by decide +kernel
theorem ne_cs : ¬ V.str "choose" = V.str "strike" := by decide +kernel
theorem ne_dc : ¬ V.str "double" = V.str "choose" := by decide +kernel
theorem ne_sc : ¬ V.str "strike" = V.str "choose" := by decide +kernel
theorem ne_fc : ¬ V.str "fly" = V.str "choose" := by decide +kernel
theorem ne_fd : ¬ V.str "fly" = V.str "double" := by decide +kernel
theorem ne_fs : ¬ V.str "fly" = V.str "strike" := by decide +kernel
section
variable {P : Program} {w : World} {K : PySem.W.Frag} {mg : Str → Option Value} {base : Heap} {CN CT dS : Addr}
def sp_lanes_after : Sp := fun vs H Q _ => ∃ (v : V) (s : Stp) (n L : Nat), vs = [v, .int n, .int L] ∧ StpR H v s ∧ okStp L n s ∧ n ≤ 1000 ∧ ∀ H', Same H H' → Q (.int ((after s n : Nat))) H'
theorem cal_lanes_after (T : Txt w K mg CN CT dS) : Cal P w K mg base "lanes_after" ["step", "lanes", "letters"] 6 sp_lanes_after := by
  have g_are_others := cal_are_others (P := P) (base := base) T
  have g_is_between := cal_is_between (P := P) (base := base) T
  have g_is_exchange := cal_is_exchange (P := P) (base := base) T
  have g_is_index := cal_is_index (P := P) (base := base) T
  have g_is_step_form := cal_is_step_form (P := P) (base := base) T
  refine cal_mk T.f_lanes_after (fun F => F.ok sc_lanes_after (fun vs H Q E h => ?_) (fun cdv A outer s H vs Q E hr h => ?_)) (fun F => F.binds fun _ _ _ _ _ _ us hl => match us, hl with | [_, _, _], _ => rfl)
  · obtain ⟨v, st, n, L, rfl, _⟩ := h
    rfl
  obtain ⟨v, st, n, L, rfl, hst, ok, hn, q⟩ := h
  obtain ⟨t, us, rfl, ht, hs⟩ := id hst
  refine ⟨_, (pss_cons (ps_if (pt_not (pt_val (pe_fn g_is_step_form (hr.mono (by decide)) (by rfl) (pa_cons (pv 0) pa_nil)))) 
        (pss_one (ps_ret pe_non)) pss_nil)
      (pss_cons (ps_if (pt_cmpR op_eq (pe_ix (r := rIxT K) ix_tup (pv 0) pe_int (fun _ _ => rfl)) pe_str (nomark _)) 
        (pss_cons (ps_if (PW.pt (pw_or (pt_not (pt_val (pe_callB (r := rAll K) (cr_all rfl) (by rfl) T.all (by decide +kernel) (pa_cons (pe_lc (own := [("place", 3)]) (g := gName 3) rfl sc_lanes_after.nd (pi_tup (pe_slice (r := rSlQ) sl_tupQ (pv 0) (po_some pe_int) po_none)) (blkOk_by (N := n_lanes_after) (sc := defScope s_lanes_after) (by decide +kernel)) (fun _ _ _ _ _ => (pg_name (i := 3) sc_lanes_after.nd rfl (Or.inl rfl))) (fun _ _ _ _ _ => pts_nil) (fun _ _ _ _ _ => (pe_fn g_is_between (hr.mono (by decide)) (by rfl) (pa_cons (pv 3) (pa_cons pe_int (pa_cons (pv 1) pa_nil)))))) pa_nil)))) (pw_or1 (pt_not (pt_val (pe_fn g_is_exchange (hr.mono (by decide)) (by rfl) (pa_cons (pe_slice (r := rSlQ) sl_tupQ (pv 0) (po_some pe_int) po_none) (pa_cons (pv 1) pa_nil)))))))) 
          (pss_one (ps_ret pe_non)) pss_nil)
        (pss_one (ps_ret (pv 1)))) pss_nil)
      (pss_cons (ps_if (pt_not (pt_val (pe_fn g_is_index (hr.mono (by decide)) (by rfl) (pa_cons (pe_ix (r := rIxT K) ix_tup (pv 0) pe_int (fun _ _ => rfl)) (pa_cons (pv 1) pa_nil))))) 
        (pss_one (ps_ret pe_non)) pss_nil)
      (pss_cons (ps_if (pt_cmpR op_eq (pe_ix (r := rIxT K) ix_tup (pv 0) pe_int (fun _ _ => rfl)) pe_str (nomark _)) 
        (pss_one (ps_ret (pe_op op_add (pv 1) pe_int))) pss_nil)
      (pss_cons (ps_if (pt_cmpR op_eq (pe_ix (r := rIxT K) ix_tup (pv 0) pe_int (fun _ _ => rfl)) pe_str (nomark _)) 
        (pss_one (ps_ret (pe_op op_sub (pv 1) pe_int))) pss_nil)
      (pss_cons (ps_set (i := 4) sc_lanes_after.nd rfl (Or.inl rfl) (pe_ix (r := rIxT K) ix_tup (pv 0) pe_int (fun _ _ => rfl)))
      (pss_cons (ps_if (PW.pt (pw_or (pt_not (pt_val (pe_fn g_is_between (hr.mono (by decide)) (by rfl) (pa_cons (pv 4) (pa_cons pe_int (pa_cons pe_int pa_nil)))))) (pw_or (pt_cmpR op_gt (pe_op op_add (pe_ix (r := rIxT K) ix_tup (pv 0) pe_int (fun _ _ => rfl)) (pv 4)) (pv 1) (nomark _)) (pw_or1 (pt_not (pt_val (pe_fn g_is_index (hr.mono (by decide)) (by rfl) (pa_cons (pe_ix (r := rIxT K) ix_tup (pv 0) pe_int (fun _ _ => rfl)) (pa_cons (pv 4) pa_nil))))))))) 
        (pss_one (ps_ret pe_non)) pss_nil)
      (pss_cons (ps_if (pt_not (pt_val (pe_fn g_are_others (hr.mono (by decide)) (by rfl) (pa_cons (pe_ix (r := rIxT K) ix_tup (pv 0) pe_int (fun _ _ => rfl)) (pa_cons (pv 4) (pa_cons (pv 2) pa_nil)))))) 
        (pss_one (ps_ret pe_non)) pss_nil)
      (pss_one (ps_ret (pe_op op_add (pe_op op_sub (pv 1) (pv 4)) pe_int))))))))))), ?_⟩
  refine ⟨_, rfl, _, st, rfl, hst, true, rfl, iteF ?_⟩
  cases st with
  | dbl k =>
    cases (show us = _ from hs)
    refine ⟨_, rfl, _, _, _, _, rfl, rfl, SqT.of ht, rfl, rfl, _, rfl, iteDF ne_df ?_⟩
    refine ⟨_, rfl, _, _, _, _, rfl, rfl, SqT.of ht, rfl, _, rfl, k, n, rfl, by omega, by have := ok.1; omega, true, rfl, iteF ?_⟩
    refine ⟨_, rfl, _, _, _, _, rfl, rfl, SqT.of ht, rfl, rfl, _, rfl, iteD rfl ?_⟩
    exact ⟨_, rfl, _, _, rfl, rfl, q H (Same.refl H)⟩
  | strk k =>
    cases (show us = _ from hs)
    refine ⟨_, rfl, _, _, _, _, rfl, rfl, SqT.of ht, rfl, rfl, _, rfl, iteDF ne_sf ?_⟩
    refine ⟨_, rfl, _, _, _, _, rfl, rfl, SqT.of ht, rfl, _, rfl, k, n, rfl, by omega, by have := ok.1; omega, true, rfl, iteF ?_⟩
    refine ⟨_, rfl, _, _, _, _, rfl, rfl, SqT.of ht, rfl, rfl, _, rfl, iteDF ne_sd ?_⟩
    refine ⟨_, rfl, _, _, _, _, rfl, rfl, SqT.of ht, rfl, rfl, _, rfl, iteD rfl ?_⟩
    refine ⟨_, rfl, _, _, rfl, rfl, ?_⟩
    have e : ((n : Int) - 1) = ((n - 1 : Nat) : Int) := by have := ok.2; omega
    show Q (.int ((n : Int) - 1)) H
    rw [e]
    exact q H (Same.refl H)
  | fly a b c =>
    cases (show us = _ from hs)
    obtain ⟨o1, o2, o3⟩ := ok
    refine ⟨_, rfl, _, _, _, _, rfl, rfl, SqT.of ht, rfl, rfl, _, rfl, iteD rfl ?_⟩
    refine ⟨_, rfl, 1, rfl, _, _, rfl, ht, fun H1 p s1 hp => ?_⟩
    have hp : H1 p = some (.tup [.int a, .int b, .int c]) := hp
    refine ⟨p, rfl, ⟨_, SqT.of hp⟩, fun D hD => ?_⟩
    refine lcAll (walk_tup (xs := [.int a, .int b, .int c])) (by show 3 < 100000; decide) hD (fun _ s => SqT.of (s _ _ hp)) ?_ mono_name ?_
    · rintro i x H2 H2' hi s2 ⟨rfl, hx⟩ Ny hNy
      have hx : [V.int (a : Int), V.int b, V.int c][i]? = some x := hx
      have hb : ∃ z : Nat, x = .int z ∧ z ≤ n := by
        match i, hi, hx with
        | 0, _, hx => cases hx; exact ⟨a, rfl, by omega⟩
        | 1, _, hx => cases hx; exact ⟨b, rfl, by omega⟩
        | 2, _, hx => cases hx; exact ⟨c, rfl, by omega⟩
      obtain ⟨z, rfl, hz⟩ := hb
      exact ⟨rfl, _, rfl, _, rfl, z, 0, n, rfl, by omega, by omega, hNy _ (Same.refl _)⟩
    · intro H2 s2 hw
      refine ⟨D, _, rfl, SqL.of hw, ?_⟩
      rw [all_rep]
      refine ⟨true, rfl, iteF ?_⟩
      refine ⟨_, rfl, 1, rfl, _, _, rfl, s2 _ _ (s1 _ _ ht), fun H3 p3 s3 hp3 => ?_⟩
      have hp3 : H3 p3 = some (.tup [.int a, .int b, .int c]) := hp3
      refine ⟨_, rfl, p3, a, b, c, n, rfl, hp3, o1, o2, o3, true, rfl, iteF ?_⟩
      exact ⟨_, rfl, q H3 ((s1.trans s2).trans s3)⟩
  | chs k w' p o =>
    obtain ⟨z, e, ho⟩ := hs
    subst e
    obtain ⟨o1, o2, o3, o4⟩ := ok
    have hw : 2 ≤ w' ∧ w' ≤ 3 := by omega
    refine ⟨_, rfl, _, _, _, _, rfl, rfl, SqT.of ht, rfl, rfl, _, rfl, iteDF ne_cf ?_⟩
    refine ⟨_, rfl, _, _, _, _, rfl, rfl, SqT.of ht, rfl, _, rfl, k, n, rfl, by omega, by omega, true, rfl, iteF ?_⟩
    refine ⟨_, rfl, _, _, _, _, rfl, rfl, SqT.of ht, rfl, rfl, _, rfl, iteDF ne_cd ?_⟩
    refine ⟨_, rfl, _, _, _, _, rfl, rfl, SqT.of ht, rfl, rfl, _, rfl, iteDF ne_cs ?_⟩
    refine ⟨_, rfl, _, _, _, _, rfl, rfl, SqT.of ht, rfl, ?_⟩
    refine ⟨_, rfl, w', 2, 3, rfl, by omega, by omega, true, rfl, iteF ?_⟩
    refine ⟨_, rfl, _, _, _, _, rfl, rfl, SqT.of ht, rfl, _, rfl, _, _, rfl, rfl, _, rfl, _, _, rfl, rfl, _, rfl, iteDF (by omega) ?_⟩
    refine ⟨_, rfl, _, _, _, _, rfl, rfl, SqT.of ht, rfl, _, rfl, p, w', rfl, by omega, by omega, true, rfl, iteF ?_⟩
    refine ⟨_, rfl, _, _, _, _, rfl, rfl, SqT.of ht, rfl, _, rfl, _, rfl, z, o, w', L, rfl, ho, o4, hw.2, fun H1 s1 => ⟨true, rfl, iteF ?_⟩⟩
    refine ⟨_, rfl, _, rfl, _, _, rfl, rfl, _, _, rfl, rfl, ?_⟩
    have e : ((n : Int) - (w' : Int) + 1) = ((n - w' + 1 : Nat) : Int) := by omega
    show Q (.int ((n : Int) - (w' : Int) + 1)) H1
    rw [e]
    exact q H1 s1
def sp_can_be : Sp := fun vs H Q _ => ∃ (v : V) (s : Stp) (n L : Nat), vs = [v, .int n, .int L] ∧ StpR H v s ∧ okStp L n s ∧ 1 ≤ n ∧ n ≤ 1000 ∧ ∀ H', Same H H' → Q (.bl true) H'
theorem cal_can_be (T : Txt w K mg CN CT dS) : Cal P w K mg base "can_be" ["step", "lanes", "letters"] 7 sp_can_be := by
  have g_lanes_after := cal_lanes_after (P := P) (base := base) T
  refine cal_mk T.f_can_be (fun F => F.ok sc_can_be (fun vs H Q E h => ?_) (fun cdv A outer s H vs Q E hr h => ?_)) (fun F => F.binds fun _ _ _ _ _ _ us hl => match us, hl with | [_, _, _], _ => rfl)
  · obtain ⟨v, st, n, L, rfl, _⟩ := h
    rfl
  obtain ⟨v, st, n, L, rfl, hst, ok, h1, hn, q⟩ := h
  obtain ⟨a1, a2⟩ := okStp_after ok h1 hn
  refine ⟨_, (pss_cons (ps_set (i := 3) sc_can_be.nd rfl (Or.inl rfl) (pe_fn g_lanes_after (hr.mono (by decide)) (by rfl) (pa_cons (pv 0) (pa_cons (pv 1) (pa_cons (pv 2) pa_nil)))))
      (pss_one (ps_ret (pe_and (pe_cmpR op_notN (pv 3) pe_non (nomark _)) (pe_one (pe_chain op_le op_le pe_int (pv 3) (pe_gint T.c_MOST_LANES))))))), ?_⟩
  refine ⟨_, rfl, _, rfl, _, rfl, v, st, n, L, rfl, hst, ok, hn, fun H1 s1 => ?_⟩
  refine ⟨_, rfl, rfl, true, rfl, iteT ?_⟩
  exact ⟨_, rfl, _, _, rfl, rfl, _, rfl, iteD (by omega) ⟨_, _, rfl, rfl, decT (by omega) (q H1 s1)⟩⟩
end
/-! ### a net -/
def nf (L n : Nat) (ts : Addr) (m : Nat) (ol : Addr) : List (Str × V) := putF "kept_others" (.ref ol) (putF "kept_outs" (.int m) (putF "kept_steps" (.ref ts) (putF "kept_lanes" (.int n) (putF "kept_letters" (.int L) []))))
theorem nf1 {L n m : Nat} {ts ol : Addr} : (nf L n ts m ol).lookup ("kept_letters" : Str) = some (.int L) := by
  unfold nf
  rw [lookup_putF, if_neg (by decide +kernel), lookup_putF, if_neg (by decide +kernel), lookup_putF, if_neg (by decide +kernel), lookup_putF, if_neg (by decide +kernel), lookup_putF, if_pos rfl]
theorem nf2 {L n m : Nat} {ts ol : Addr} : (nf L n ts m ol).lookup ("kept_lanes" : Str) = some (.int n) := by
  unfold nf
  rw [lookup_putF, if_neg (by decide +kernel), lookup_putF, if_neg (by decide +kernel), lookup_putF, if_neg (by decide +kernel), lookup_putF, if_pos rfl]
theorem nf3 {L n m : Nat} {ts ol : Addr} : (nf L n ts m ol).lookup ("kept_steps" : Str) = some (.ref ts) := by
  unfold nf
  rw [lookup_putF, if_neg (by decide +kernel), lookup_putF, if_neg (by decide +kernel), lookup_putF, if_pos rfl]
theorem nf5 {L n m : Nat} {ts ol : Addr} : (nf L n ts m ol).lookup ("kept_others" : Str) = some (.ref ol) := by
  unfold nf
  rw [lookup_putF, if_pos rfl]
theorem putF_small (f : Str) (v : V) (fs : List (Str × V)) {k : Nat} (h : fs.length ≤ k) : (putF f v fs).length ≤ k + 1 := Nat.le_trans (length_putF f v fs) (by omega)
/-- the key of a row -/
def rk (r : List Int) : List L2.Key := r.map Sum.inl
theorem rk_kV (r : List Int) : (rk r).map L2.kV = r.map V.int := by unfold rk; rw [List.map_map]; rfl
theorem rk_inj {a b : List Int} (h : rk a = rk b) : a = b := by
  have q := congrArg (List.map L2.kV) h
  rw [rk_kV, rk_kV] at q
  induction a generalizing b with
  | nil => cases b with
    | nil => rfl
    | cons _ _ => simp at q
  | cons x xs ih => cases b with
    | nil => simp at q
    | cons y ys =>
      simp only [List.map_cons, List.cons.injEq] at q
      have e : x = y := by injection q.1
      have h2 : rk xs = rk ys := by
        unfold rk at h ⊢
        simp only [List.map_cons, List.cons.injEq] at h
        exact h.2
      rw [e, ih h2 q.2]
/-- what the others of a step are kept as: None, or a dict -/
def OthD : Rl Stp := fun H v s => match s with
  | .chs _ _ _ o => ∃ d kvs, v = .ref d ∧ H d = some (.dT kvs) ∧ ∀ (r : List Int) (p : Nat), (valV kvs (rk r)).getD (.int p) = .int (pick o p r)
  | _ => v = .non
structure NetO (CN : Addr) (H : Hp) (x : Addr) (L n : Nat) (steps : List Stp) (ol : Addr) : Prop where
  ex : ∃ dx ts m us os, H x = some (.ins CN dx (nf L n ts m ol)) ∧ H ts = some (.tup us) ∧ Paired (StpR H) us steps ∧ H ol = some (.lst os) ∧ Paired (OthD H) os steps
def NetA (CN : Addr) (H : Hp) (x : Addr) (L n : Nat) (steps : List Stp) : Prop := ∃ ol, NetO CN H x L n steps ol
theorem othd_same {H H' : Hp} (s : Same H H') {v : V} {st : Stp} (h : OthD H v st) : OthD H' v st := by
  cases st with
  | chs k w p o =>
    obtain ⟨d, kvs, e, h1, h2⟩ := h
    exact ⟨d, kvs, e, s _ _ h1, h2⟩
  | dbl _ => exact h
  | strk _ => exact h
  | fly _ _ _ => exact h
theorem othd_ls {H H' : Hp} (s : LS H H') {v : V} {st : Stp} (h : OthD H v st) : OthD H' v st := by
  cases st with
  | chs k w p o =>
    obtain ⟨d, kvs, e, h1, h2⟩ := h
    exact ⟨d, kvs, e, s.keep _ _ (fun _ z => nomatch z) h1, h2⟩
  | dbl _ => exact h
  | strk _ => exact h
  | fly _ _ _ => exact h
theorem othd_mono : MonoL OthD := ⟨fun t h => othd_ls t h⟩
theorem NetO.same {CN : Addr} {H H' : Hp} {x ol : Addr} {L n : Nat} {steps : List Stp} (h : NetO CN H x L n steps ol) (s : Same H H') : NetO CN H' x L n steps ol := by
  obtain ⟨dx, ts, m, us, os, h1, h2, h3, h4, h5⟩ := h.ex
  exact ⟨dx, ts, m, us, os, s _ _ h1, s _ _ h2, stp_mono.all (.of s) h3, s _ _ h4, Paired.mapP h5 fun _ _ q => othd_same s q⟩
theorem NetA.same {CN : Addr} {H H' : Hp} {x : Addr} {L n : Nat} {steps : List Stp} (h : NetA CN H x L n steps) (s : Same H H') : NetA CN H' x L n steps := let ⟨ol, q⟩ := h; ⟨ol, q.same s⟩
/-- the dict that dict(others) makes -/
theorem dict_pick : ∀ (o : List (List Int × Nat)) (acc : List (List L2.Key × V)) (r : List Int) (p : Nat) (p0 : Nat), (valV acc (rk r)).getD (.int p) = .int p0 →
    (valV ((o.map fun q => (rk q.1, V.int (q.2 : Nat))).foldl (fun acc p => putK acc p.1 p.2) acc) (rk r)).getD (.int p) = .int (o.foldl (fun acc q => if q.1 = r then q.2 else acc) p0 : Nat)
  | [], _, _, _, _, h => h
  | q :: o, acc, r, p, p0, h => by
    rw [List.map_cons, List.foldl_cons, List.foldl_cons]
    refine dict_pick o _ r p _ ?_
    rw [valV_put]
    by_cases e : q.1 = r
    · rw [if_pos (by rw [e]), if_pos e]
      rfl
    · rw [if_neg (fun z => e (rk_inj z).symm), if_neg e]
      exact h
theorem dict_pick0 (o : List (List Int × Nat)) (r : List Int) (p : Nat) : (valV (mergeT (o.map fun q => (rk q.1, V.int (q.2 : Nat)))) (rk r)).getD (.int p) = .int (pick o p r) := dict_pick o [] r p p rfl
/-- the pairs of dict(others), told -/
theorem others_ps {H : Hp} : ∀ {us : List V} {o : List (List Int × Nat)}, Paired (PairR H) us o → ∃ ps : List (Addr × Addr × List L2.Key × V), us = ps.map (fun p => V.ref p.1) ∧ (∀ p ∈ ps, PrT H p) ∧ ps.map (fun p => (p.2.2.1, p.2.2.2)) = o.map fun q => (rk q.1, V.int (q.2 : Nat))
  | _, _, .nil => ⟨[], rfl, (fun _ h => nomatch h), rfl⟩
  | _, _, .cons (b := q) h t => by
    obtain ⟨a, b, rfl, h1, h2⟩ := h
    obtain ⟨ps, e1, e2, e3⟩ := others_ps t
    refine ⟨(a, b, rk q.1, V.int (q.2 : Nat)) :: ps, by rw [e1, List.map_cons], fun p hp => ?_, by rw [List.map_cons, List.map_cons, e3]⟩
    rcases List.mem_cons.mp hp with e | hp
    · rw [e]
      exact ⟨h1, by show H b = some (.tup ((rk q.1).map L2.kV)); rw [rk_kV]; exact h2⟩
    · exact e2 p hp
end Fv
namespace Fv
open PySem L2
section
variable {P : Program} {w : World} {K : PySem.W.Frag} {mg : Str → Option Value} {base : Heap} {CN CT dS : Addr}
/-! ### a net is kept -/
def sp_Net_keep (CN : Addr) : Sp := fun vs H Q _ => ∃ (x dx ts : Addr) (L n m : Nat) (us : List V) (steps : List Stp), vs = [.ref x, .int L, .int n, .ref ts, .int m] ∧ H x = some (.ins CN dx []) ∧ H ts = some (.tup us) ∧ Paired (StpR H) us steps ∧
  steps.length ≤ 1000 ∧ (∀ k w p o, Stp.chs k w p o ∈ steps → o.length ≤ 64) ∧ ∀ H' ol, H ol = none → But x H H' → NetO CN H' x L n steps ol → Q .non H'
theorem cal_Net_keep (T : Txt w K mg CN CT dS) : CalM P w K mg base CN "keep" ["self", "letters", "lanes", "steps", "outs"] 1 (sp_Net_keep CN) := by
  refine calM_mk T.mN_keep (fun F => F.ok sc_Net_keep (fun vs H Q E h => ?_) (fun cdv A outer s H vs Q E hr h => ?_)) (fun F => F.binds fun _ _ _ _ _ _ us hl => match us, hl with | [_, _, _, _, _], _ => rfl)
  · obtain ⟨x, dx, ts, L, n, m, us, steps, rfl, _⟩ := h
    rfl
  obtain ⟨x, dx, ts, L, n, m, us, steps, rfl, hx, hts, hp, hl, ho, q⟩ := h
  refine ⟨_, (pss_cons (ps_fld (pv 0) (pv 1) rfl)
      (pss_cons (ps_fld (pv 0) (pv 2) rfl)
      (pss_cons (ps_fld (pv 0) (pv 3) rfl)
      (pss_cons (ps_fld (pv 0) (pv 4) rfl)
      (pss_one (ps_fld (pv 0) (pe_lc (own := [("step", 5)]) (g := gName 5) rfl sc_Net_keep.nd (pi_tup (pv 3)) (blkOk_by (N := n_Net_keep) (sc := defScope s_Net_keep) (by decide +kernel)) (fun _ _ _ _ _ => (pg_name (i := 5) sc_Net_keep.nd rfl (Or.inl rfl))) (fun _ _ _ _ _ => pts_nil) (fun _ _ _ _ _ => (pe_ifExp (pt_cmpR op_eq (pe_ix (r := rIxT K) ix_tup (pv 5) pe_int (fun _ _ => rfl)) pe_str (nomark _)) (pe_callTy (call_dictT rfl hr.units) (by rfl) T.dict (by decide +kernel) (pa_cons (pe_ix (r := rIxT K) ix_tup (pv 5) pe_int (fun _ _ => rfl)) pa_nil)) pe_non))) rfl)))))), ?_⟩
  refine ⟨_, rfl, _, rfl, x, CN, dx, [], rfl, hx, T.clN, T.aN1, by show 0 < 1000; decide, ?_⟩
  refine ⟨_, rfl, _, rfl, x, CN, dx, _, rfl, upd_same, T.clN, T.aN2, Nat.lt_of_le_of_lt (putF_small _ _ _ (Nat.le_refl 0)) (by decide), ?_⟩
  refine ⟨_, rfl, _, rfl, x, CN, dx, _, rfl, upd_same, T.clN, T.aN3, Nat.lt_of_le_of_lt (putF_small _ _ _ (putF_small _ _ _ (Nat.le_refl 0))) (by decide), ?_⟩
  refine ⟨_, rfl, _, rfl, x, CN, dx, _, rfl, upd_same, T.clN, T.aN4, Nat.lt_of_le_of_lt (putF_small _ _ _ (putF_small _ _ _ (putF_small _ _ _ (Nat.le_refl 0)))) (by decide), ?_⟩
  have b4 : But x H (upd (upd (upd (upd H x (.ins CN dx (putF "kept_letters" (.int L) []))) x (.ins CN dx (putF "kept_lanes" (.int n) (putF "kept_letters" (.int L) [])))) x (.ins CN dx (putF "kept_steps" (.ref ts) (putF "kept_lanes" (.int n) (putF "kept_letters" (.int L) []))))) x (.ins CN dx (putF "kept_outs" (.int m) (putF "kept_steps" (.ref ts) (putF "kept_lanes" (.int n) (putF "kept_letters" (.int L) [])))))) := ((But.upd.trans But.upd).trans But.upd).trans But.upd
  have hx4 : (upd (upd (upd (upd H x (.ins CN dx (putF "kept_letters" (.int L) []))) x (.ins CN dx (putF "kept_lanes" (.int n) (putF "kept_letters" (.int L) [])))) x (.ins CN dx (putF "kept_steps" (.ref ts) (putF "kept_lanes" (.int n) (putF "kept_letters" (.int L) []))))) x (.ins CN dx (putF "kept_outs" (.int m) (putF "kept_steps" (.ref ts) (putF "kept_lanes" (.int n) (putF "kept_letters" (.int L) [])))))) x = some (.ins CN dx (putF "kept_outs" (.int m) (putF "kept_steps" (.ref ts) (putF "kept_lanes" (.int n) (putF "kept_letters" (.int L) []))))) := upd_same
  have nx : NT (H x) := by rw [hx]; trivial
  have nts : ts ≠ x := fun e => by rw [e, hx] at hts; cases hts
  have hts4 := b4 ts _ nts hts
  have hp4 := stp_mono.all (b4.ts nx) hp
  revert b4 hx4 hts4 hp4
  generalize (upd (upd (upd (upd H x (.ins CN dx (putF "kept_letters" (.int L) []))) x (.ins CN dx (putF "kept_lanes" (.int n) (putF "kept_letters" (.int L) [])))) x (.ins CN dx (putF "kept_steps" (.ref ts) (putF "kept_lanes" (.int n) (putF "kept_letters" (.int L) []))))) x (.ins CN dx (putF "kept_outs" (.int m) (putF "kept_steps" (.ref ts) (putF "kept_lanes" (.int n) (putF "kept_letters" (.int L) [])))))) = H4
  intro b4 hx4 hts4 hp4
  refine ⟨_, rfl, ts, rfl, ⟨_, SqT.of hts4⟩, fun D hD => ?_⟩
  have nD : D ≠ x := ne_of_none hx4 hD |>.symm
  have ul : us.length = steps.length := Paired.length hp
  refine lcYL walk_tup othd_mono (fun i => steps.take i) hD rfl (fun i hi => by rw [List.length_take]; omega) (fun _ s => SqT.of (s _ _ hts4)) ?_ mono_name ?_
  · rintro i v H5 H5' hi s5 ⟨rfl, hv⟩ Ny hNy
    obtain ⟨st, hst, a, vs, rfl, ha, hs⟩ := pgetL hp4 hv
    have ha5 := s5 _ _ ha
    have e1 : steps.take (i + 1) = steps.take i ++ [st] := take_one_more hst
    refine ⟨rfl, ?_⟩
    cases st with
    | dbl k =>
      cases (show vs = _ from hs)
      exact ⟨_, rfl, _, _, _, _, rfl, rfl, SqT.of ha5, rfl, rfl, _, rfl, iteDF ne_dc (hNy _ _ (.dbl k) (Same.refl _) rfl e1)⟩
    | strk k =>
      cases (show vs = _ from hs)
      exact ⟨_, rfl, _, _, _, _, rfl, rfl, SqT.of ha5, rfl, rfl, _, rfl, iteDF ne_sc (hNy _ _ (.strk k) (Same.refl _) rfl e1)⟩
    | fly p1 p2 p3 =>
      cases (show vs = _ from hs)
      exact ⟨_, rfl, _, _, _, _, rfl, rfl, SqT.of ha5, rfl, rfl, _, rfl, iteDF ne_fc (hNy _ _ (.fly p1 p2 p3) (Same.refl _) rfl e1)⟩
    | chs k w' p o =>
      obtain ⟨t, e, a', ob, us', rfl, to, h1, h2⟩ := hs
      subst e
      refine ⟨_, rfl, _, _, _, _, rfl, rfl, SqT.of ha5, rfl, rfl, _, rfl, iteD rfl ?_⟩
      have t5 : TS H4 H5' := TS.of s5
      obtain ⟨ps, f1, f2, f3⟩ := others_ps (pair_mono.all t5 h2)
      refine ⟨_, rfl, _, _, _, _, rfl, rfl, SqT.of ha5, rfl, _, ob, ps, rfl, to, by rw [← f1]; exact s5 _ _ h1, f2, fun d hd => ?_⟩
      refine hNy _ _ (.chs k w' p o) (same_new hd) ⟨d, _, rfl, upd_same, fun r p => ?_⟩ e1
      rw [f3]
      exact dict_pick0 o r p
  · intro H6 os s6 hw pw
    have hx6 := s6 _ _ hx4
    have pw : Paired (OthD H6) os steps := by
      have pw : Paired (OthD H6) os (steps.take us.length) := pw
      rw [ul, List.take_length] at pw; exact pw
    have b6 : But x H H6 := b4.trans (But.of s6)
    refine ⟨_, rfl, x, CN, dx, _, rfl, hx6, T.clN, T.aN5, Nat.lt_of_le_of_lt (putF_small _ _ _ (putF_small _ _ _ (putF_small _ _ _ (putF_small _ _ _ (Nat.le_refl 0))))) (by decide), ?_⟩
    have ls : LS H6 (upd H6 x (.ins CN dx (nf L n ts m D))) → True := fun _ => trivial
    refine q _ D (b4.free nD hD) (b6.trans But.upd) ⟨dx, ts, m, us, os, upd_same, ?_, ?_, ?_, ?_⟩
    · rw [upd_ne nts]; exact s6 _ _ hts4
    · exact stp_mono.all ((TS.of s6).trans (TS.upd (by rw [hx6]; trivial))) hp4
    · rw [upd_ne nD]; exact hw
    · refine Paired.mapP pw fun v st h => ?_
      cases st with
      | chs k w p o =>
        obtain ⟨d, kvs, e, h1, h2⟩ := h
        exact ⟨d, kvs, e, by rw [upd_ne (fun z => by rw [z, hx6] at h1; cases h1)]; exact h1, h2⟩
      | dbl _ => exact h
      | strk _ => exact h
      | fly _ _ _ => exact h
end
end Fv
namespace Fv
open PySem L2
theorem kit_ll : kitB "list" "list" = some true := by decide +kernel
section
variable {P : Program} {w : World} {K : PySem.W.Frag} {mg : Str → Option Value} {base : Heap} {CN CT dS : Addr}
def sp_Net_init (CN : Addr) : Sp := fun vs H Q _ => ∃ (x dx l : Addr) (L n : Nat) (steps : List Stp), vs = [.ref x, .int L, .int n, .ref l] ∧ H x = some (.ins CN dx []) ∧ LA StpR H l steps ∧ okSteps L n steps ∧ 1 ≤ L ∧ L ≤ 4 ∧ 1 ≤ n ∧ n ≤ 1000 ∧
  steps.length ≤ 1000 ∧ ∀ H' ol, H ol = none → But x H H' → NetO CN H' x L n steps ol → Q .non H'
theorem cal_Net_init (T : Txt w K mg CN CT dS) : CalC P w K mg base "Net" CN ["self", "letters", "lanes", "steps"] 8 (sp_Net_init CN) := by
  have g_Net_keep := cal_Net_keep (P := P) (base := base) T
  have g_can_be := cal_can_be (P := P) (base := base) T
  have g_is_between := cal_is_between (P := P) (base := base) T
  have g_lanes_after := cal_lanes_after (P := P) (base := base) T
  refine calC_mk T.iN T.mgN (fun F => F.ok sc_Net_init (fun vs H Q E h => ?_) (fun cdv A outer s H vs Q E hr h => ?_)) (fun F => F.binds fun _ _ _ _ _ _ us hl => match us, hl with | [_, _, _, _], _ => rfl)
  · obtain ⟨x, dx, l, L, n, steps, rfl, _⟩ := h
    rfl
  obtain ⟨x, dx, l, L, n, steps, rfl, hx, ⟨us, hl, hp⟩, ok, h1, h2, h3, h4, h5, q⟩ := h
  refine ⟨_, (pss_cons (ps_if (pt_not (pt_val (pe_fn g_is_between (hr.mono (by decide)) (by rfl) (pa_cons (pv 1) (pa_cons pe_int (pa_cons (pe_gint T.c_MOST_LETTERS) pa_nil)))))) 
        (pss_one ps_never) pss_nil)
      (pss_cons (ps_if (pt_not (pt_val (pe_fn g_is_between (hr.mono (by decide)) (by rfl) (pa_cons (pv 2) (pa_cons pe_int (pa_cons (pe_gint T.c_MOST_LANES) pa_nil)))))) 
        (pss_one ps_never) pss_nil)
      (pss_cons (ps_if (pt_not (pt_val (pe_callB (r := rIsiT K) call_isiT (by rfl) T.isinstance (by decide +kernel) (pa_cons (pv 3) (pa_cons (pe_tup (pa_cons (pe_ty "list" T.list_) (pa_cons (pe_ty "tuple" T.tuple_) pa_nil))) pa_nil))))) 
        (pss_one ps_never) pss_nil)
      (pss_cons (ps_set (i := 4) sc_Net_init.nd rfl (Or.inl rfl) (pv 2))
      (pss_cons (ps_for PassesOwn.never rfl (pi_enum (by rfl) T.enumerate (pa_cons (pv 3) pa_nil)) (pg_tup rfl (pgs_cons (pg_name (i := 5) sc_Net_init.nd rfl (Or.inl rfl)) (pgs_cons (pg_name (i := 6) sc_Net_init.nd rfl (Or.inl rfl)) pgs_nil))) 
        (pss_cons (ps_if (pt_not (pt_val (pe_fn g_can_be (hr.mono (by decide)) (by rfl) (pa_cons (pv 6) (pa_cons (pv 4) (pa_cons (pv 1) pa_nil)))))) 
          (pss_one ps_never) pss_nil)
        (pss_one (ps_set (i := 4) sc_Net_init.nd rfl (Or.inl rfl) (pe_fn g_lanes_after (hr.mono (by decide)) (by rfl) (pa_cons (pv 6) (pa_cons (pv 4) (pa_cons (pv 1) pa_nil))))))))
      (pss_one (ps_expr (pe_mt g_Net_keep T.clN (hr.mono (by decide)) (pv 0) (pa_cons (pv 1) (pa_cons (pv 2) (pa_cons (pe_callTy (r := rTupQ K) call_tupQ (by rfl) T.tuple_ (by decide +kernel) (pa_cons (pv 3) pa_nil)) (pa_cons (pv 4) pa_nil)))))))))))), ?_⟩
  refine ⟨_, rfl, L, 1, 4, rfl, by omega, by omega, true, rfl, iteF ?_⟩
  refine ⟨_, rfl, n, 1, 1000, rfl, by omega, by omega, true, rfl, iteF ?_⟩
  refine ⟨_, rfl, by show 2 ≤ sizeLine; decide, fun tp htp => ?_⟩
  have s0 := same_new (o := .tup [.ty "list", .ty "tuple"]) htp
  refine ⟨_, tp, _, _, _, true, rfl, upd_same, .cons (.ty _) (.cons (.ty _) .nil), .base (.lst (s0 _ _ hl)), kitAny_cons (kit_ty kit_ll) (fun z => nomatch z) (fun _ => rfl), true, rfl, iteF ?_⟩
  have ul : us.length = steps.length := Paired.length hp
  refine ⟨_, rfl, _, rfl, l, us, rfl, SqL.of (s0 _ _ hl), ?_⟩
  refine for_it walk_enum (fun i σ H1 => ∃ (m : Nat) (v5 v6 : Option V), σ = [some (.ref x), some (.int L), some (.int n), some (.ref l), some (.int m), v5, v6] ∧ m = afters n (steps.take i) ∧ Same H H1) ⟨_, _, _, rfl, rfl, s0⟩ (fun i σ H1 _ ⟨_, _, _, _, _, s1⟩ => SqL.of (s1 _ _ hl)) ?_ ?_
  · rintro i z σ H1 H1' hi ⟨m, v5, v6, rfl, rfl, s1⟩ ⟨T', x1, x2, rfl, hT, rfl, e1, e2⟩
    have e2 : us[i]? = some x2 := e2
    have e1 : V.int (i : Nat) = x1 := Option.some.inj e1
    obtain ⟨st, hst, a, vs, rfl, ha, hs⟩ := pgetL hp e2
    have s2 := s1.trans (same_new (o := .tup [x1, .ref a]) hT)
    have ok1 := okSteps_at ok hst
    have tk : steps.take (i + 1) = steps.take i ++ [st] := take_one_more hst
    have ok0 : okSteps L n (steps.take i) := by
      have z := ok
      rw [← List.take_append_drop i steps, okSteps_append] at z
      exact z.1
    obtain ⟨a1, a2⟩ := okSteps_afters ok0 h3 h4
    refine ⟨T', _, rfl, SqT.of upd_same, rfl, _, _, rfl, _, _, rfl, rfl, ?_⟩
    refine ⟨_, rfl, _, rfl, _, rfl, .ref a, st, _, L, rfl, ⟨a, vs, rfl, s2 _ _ ha, stv_mono (.of s2) hs⟩, ok1, a1, a2, fun H2 s3 => ⟨true, rfl, iteF ?_⟩⟩
    have s4 := s2.trans s3
    refine ⟨_, rfl, _, rfl, _, rfl, .ref a, st, _, L, rfl, ⟨a, vs, rfl, s4 _ _ ha, stv_mono (.of s4) hs⟩, ok1, a2, fun H3 s5 => ?_⟩
    have e : afters n (steps.take (i + 1)) = after st (afters n (steps.take i)) := by rw [tk, afters_append]; rfl
    exact ⟨_, _, _, rfl, e.symm, s4.trans s5⟩
  · rintro σ H1 ⟨m, v5, v6, rfl, _, s1⟩
    refine ⟨_, rfl, x, dx, [], rfl, s1 _ _ hx, rfl, _, rfl, _, rfl, _, rfl, l, us, rfl, SqL.of (s1 _ _ hl), fun ts hts => ?_⟩
    have s2 := s1.trans (same_new (o := .tup us) hts)
    refine ⟨_, rfl, x, dx, ts, L, n, _, us, steps, rfl, s2 _ _ hx, upd_same, stp_mono.all (.of s2) hp, h5, ?_, fun H2 ol hol b no => ?_⟩
    · intro k w p o hm
      obtain ⟨i, hi⟩ := List.getElem?_of_mem hm
      have := okSteps_at ok hi
      exact this.2.2.2.1
    · exact q H2 ol (s2.free hol) ((But.of s2).trans b) no
end
end Fv
namespace Fv
open PySem L2
section
variable {P : Program} {w : World} {K : PySem.W.Frag} {mg : Str → Option Value} {base : Heap} {CN CT dS : Addr}
def sp_place_by : Sp := fun vs H Q _ => ∃ (v : V) (d a : Addr) (k w' p : Nat) (o : List (List Int × Nat)) (r : List Int), vs = [v, .ref d, .ref a] ∧ StpR H v (.chs k w' p o) ∧ OthD H (.ref d) (.chs k w' p o) ∧ H a = some (.tup (r.map V.int)) ∧ ∀ H', Same H H' → Q (.int (pick o p r : Nat)) H'
theorem cal_place_by (T : Txt w K mg CN CT dS) : Cal P w K mg base "place_by" ["step", "others", "letters"] 1 sp_place_by := by
  refine cal_mk T.f_place_by (fun F => F.ok sc_place_by (fun vs H Q E h => ?_) (fun cdv A outer s H vs Q E hr h => ?_)) (fun F => F.binds fun _ _ _ _ _ _ us hl => match us, hl with | [_, _, _], _ => rfl)
  · obtain ⟨v, d, a, k, w', p, o, r, rfl, _⟩ := h
    rfl
  obtain ⟨v, d, a, k, w', p, o, r, rfl, ⟨a1, us, rfl, h1, hs⟩, ⟨d', kvs, e, h2, h3⟩, h4, q⟩ := h
  refine ⟨_, (pss_one (ps_ret (pe_dget2 (hu_of hr) (pv 1) (pv 2) (pe_ix (r := rIxT K) ix_tup (pv 0) pe_int (fun _ _ => rfl)) ⟨rfl, rfl, rfl, rfl⟩))), ?_⟩
  cases e
  obtain ⟨t, e, ho⟩ := hs
  subst e
  refine ⟨_, rfl, d, rfl, .inr ⟨kvs, .inl h2⟩, _, rfl, _, rfl, _, _, _, _, rfl, rfl, SqT.of h1, rfl, _, DGet.t (k := rk r) h2 (by rw [rk_kV]; exact h4), ?_⟩
  rw [h3 r p]
  exact q H (Same.refl H)
def bear (row : List Int) (i : Nat) : Int := row.getD i 0
def sp_work : Sp := fun vs H Q _ => ∃ (v vd : V) (l b : Addr) (st : Stp) (is : List Nat) (row : List Int) (L : Nat), vs = [v, vd, .ref l, .ref b] ∧ StpR H v st ∧ OthD H vd st ∧ H l = some (.lst (is.map fun i => V.int (i : Nat))) ∧ H b = some (.tup (row.map V.int)) ∧
  (∀ i ∈ is, i < row.length) ∧ okStp L is.length st ∧ is.length ≤ 1000 ∧ ∀ H', But l H H' → H' l = some (.lst ((act st (bear row) is).map fun i => V.int (i : Nat))) → Q .non H'
theorem cal_work (T : Txt w K mg CN CT dS) : Cal P w K mg base "work" ["step", "others", "lanes", "bears"] 2 sp_work := by
  have g_exchanged_by := cal_exchanged_by (P := P) (base := base) T
  have g_place_by := cal_place_by (P := P) (base := base) T
  refine cal_mk T.f_work (fun F => F.ok sc_work (fun vs H Q E h => ?_) (fun cdv A outer s H vs Q E hr h => ?_)) (fun F => F.binds fun _ _ _ _ _ _ us hl => match us, hl with | [_, _, _, _], _ => rfl)
  · obtain ⟨v, vd, l, b, st, is, row, L, rfl, _⟩ := h
    rfl
  obtain ⟨v, vd, l, b, st, is, row, L, rfl, ⟨a1, us, rfl, h1, hs⟩, hd, hl, hb, hi, ok, hz, q⟩ := h
  refine ⟨_, (pss_cons (ps_set (i := 4) sc_work.nd rfl (Or.inl rfl) (pe_ix (r := rIxT K) ix_tup (pv 0) pe_int (fun _ _ => rfl)))
      (pss_one (ps_if (pt_cmpR op_eq (pe_ix (r := rIxT K) ix_tup (pv 0) pe_int (fun _ _ => rfl)) pe_str (nomark _)) 
        (pss_one (ps_expr (pe_bm PySem.F.plainAttrs_list PySem.F.slot_list_insert PySem.F.type_list_insert mt_insert (pv 2) (pa_cons (pv 4) (pa_cons (pe_ix (r := rIxL K) ix_list (pv 2) (pv 4) (fun _ _ => rfl)) pa_nil))))) 
        (pss_one (ps_if (pt_cmpR op_eq (pe_ix (r := rIxT K) ix_tup (pv 0) pe_int (fun _ _ => rfl)) pe_str (nomark _)) 
          (pss_one (ps_expr (pe_bm PySem.F.plainAttrs_list PySem.F.slot_list_pop PySem.F.type_list_pop mt_popAt (pv 2) (pa_cons (pv 4) pa_nil)))) 
          (pss_one (ps_if (pt_cmpR op_eq (pe_ix (r := rIxT K) ix_tup (pv 0) pe_int (fun _ _ => rfl)) pe_str (nomark _)) 
            (pss_one (ps_slset (pe_fn g_exchanged_by (hr.mono (by decide)) (by rfl) (pa_cons (pv 2) (pa_cons (pe_ix (r := rIxT K) ix_tup (pv 0) pe_int (fun _ _ => rfl)) (pa_cons (pe_ix (r := rIxT K) ix_tup (pv 0) pe_int (fun _ _ => rfl)) (pa_cons (pe_ix (r := rIxT K) ix_tup (pv 0) pe_int (fun _ _ => rfl)) pa_nil))))) (pv 2) po_none po_none)) 
            (pss_cons (ps_set (i := 5) sc_work.nd rfl (Or.inl rfl) (pe_slice (r := rSlLQ K) sl_listQ (pv 2) (po_some (pv 4)) (po_some (pe_op op_add (pv 4) (pe_ix (r := rIxT K) ix_tup (pv 0) pe_int (fun _ _ => rfl))))))
            (pss_cons (ps_set (i := 6) sc_work.nd rfl (Or.inl rfl) (pe_fn g_place_by (hr.mono (by decide)) (by rfl) (pa_cons (pv 0) (pa_cons (pv 1) (pa_cons (pe_callTy (r := rTupQ K) call_tupQ (by rfl) T.tuple_ (by decide +kernel) (pa_cons (pe_lc (own := [("lane", 7)]) (g := gName 7) rfl sc_work.nd (pi_list (pv 5)) (blkOk_by (N := n_work) (sc := defScope s_work) (by decide +kernel)) (fun _ _ _ _ _ => (pg_name (i := 7) sc_work.nd rfl (Or.inl rfl))) (fun _ _ _ _ _ => pts_nil) (fun _ _ _ _ _ => (pe_ix (r := rIxT K) ix_tup (pv 3) (pv 7) (fun _ _ => rfl)))) pa_nil)) pa_nil)))))
            (pss_one (ps_slset (pe_lst (pa_cons (pe_ix (r := rIxL K) ix_list (pv 5) (pv 6) (fun _ _ => rfl)) pa_nil)) (pv 2) (po_some (pv 4)) (po_some (pe_op op_add (pv 4) (pe_ix (r := rIxT K) ix_tup (pv 0) pe_int (fun _ _ => rfl))))))))))))))), ?_⟩
  have ll : (is.map fun i => V.int (i : Nat)).length = is.length := List.length_map _
  refine ⟨_, rfl, ?_⟩
  have nb : b ≠ l := fun e => by rw [e, hl] at hb; cases hb
  cases st with
  | dbl k =>
    cases (show us = _ from hs)
    have hk := ok.1
    obtain ⟨y, hy⟩ : ∃ y, is[k]? = some y := ⟨_, List.getElem?_eq_getElem hk⟩
    have hy' : (is.map fun i => V.int (i : Nat))[k]? = some (V.int y) := by rw [List.getElem?_map, hy]; rfl
    refine ⟨_, _, _, _, rfl, rfl, SqT.of h1, rfl, ?_⟩
    refine ⟨_, rfl, _, _, _, _, rfl, rfl, SqT.of h1, rfl, rfl, _, rfl, iteD rfl ?_⟩
    refine ⟨_, rfl, .inl ⟨rfl, _, SqL.of hl⟩, _, rfl, _, rfl, _, rfl, l, _, _, _, rfl, rfl, SqL.of hl, atI_nat hy', l, _, _, _, rfl, rfl, hl, by rw [ll]; exact sz1000' (by omega), by omega, by omega, q _ But.upd ?_⟩
    rw [upd_same, Int.toNat_natCast, ← List.map_take, ← List.map_drop]
    show _ = some (HO.lst ((is.take (k + 1) ++ is.drop k).map _))
    rw [take_one_more hy, List.map_append, List.map_append]
    rfl
  | strk k =>
    cases (show us = _ from hs)
    have hk := ok.1
    obtain ⟨y, hy⟩ : ∃ y, is[k]? = some y := ⟨_, List.getElem?_eq_getElem hk⟩
    have hy' : (is.map fun i => V.int (i : Nat))[k]? = some (V.int y) := by rw [List.getElem?_map, hy]; rfl
    refine ⟨_, _, _, _, rfl, rfl, SqT.of h1, rfl, ?_⟩
    refine ⟨_, rfl, _, _, _, _, rfl, rfl, SqT.of h1, rfl, rfl, _, rfl, iteDF ne_sd ?_⟩
    refine ⟨_, rfl, _, _, _, _, rfl, rfl, SqT.of h1, rfl, rfl, _, rfl, iteD rfl ?_⟩
    obtain ⟨j, g1, g2, g3, g4, g5⟩ := L2.atI_get (atI_nat hy')
    have ej : j = k := by
      have hk' : k < (is.map fun i => V.int (i : Nat)).length := by rw [ll]; exact hk
      have z : atI (is.map fun i => V.int (i : Nat)) (k : Int) = some (V.int y) := atI_nat hy'
      have e : ixN (is.map fun i => V.int (i : Nat)).length (k : Int) = some k := by
        unfold ixN
        rw [if_pos (by omega), if_pos (by omega), Int.toNat_natCast]
      have := (ixN_seq e).1
      rw [g1] at this
      exact Option.some.inj this
    subst ej
    refine ⟨_, rfl, .inl ⟨rfl, _, SqL.of hl⟩, _, rfl, l, _, _, _, _, rfl, rfl, hl, by omega, by omega, g1, g2, q _ But.upd ?_⟩
    rw [upd_same, List.eraseIdx_eq_take_drop_succ, ← List.map_take, ← List.map_drop, ← List.map_append]
    rfl
  | fly a b' c =>
    cases (show us = _ from hs)
    obtain ⟨o1, o2, o3⟩ := ok
    refine ⟨_, _, _, _, rfl, rfl, SqT.of h1, rfl, ?_⟩
    refine ⟨_, rfl, _, _, _, _, rfl, rfl, SqT.of h1, rfl, rfl, _, rfl, iteDF ne_fd ?_⟩
    refine ⟨_, rfl, _, _, _, _, rfl, rfl, SqT.of h1, rfl, rfl, _, rfl, iteDF ne_fs ?_⟩
    refine ⟨_, rfl, _, _, _, _, rfl, rfl, SqT.of h1, rfl, rfl, _, rfl, iteD rfl ?_⟩
    refine ⟨_, rfl, _, rfl, _, _, _, _, rfl, rfl, SqT.of h1, rfl, _, rfl, _, _, _, _, rfl, rfl, SqT.of h1, rfl, _, rfl, _, _, _, _, rfl, rfl, SqT.of h1, rfl, l, _, a, b', c, rfl, hl, o1, o2, by rw [ll]; exact o3, by rw [ll]; exact hz, fun H1 p s1 n1 e1 => ?_⟩
    have nlp : l ≠ p := ne_of_none hl n1
    refine ⟨_, rfl, l, p, _, _, 0, _, rfl, rfl, nlp, s1 _ _ hl, e1, .inl ⟨rfl, rfl, rfl, rfl⟩, ?_, q _ ((But.of s1).trans But.upd) ?_⟩
    · refine sz1000 ?_
      simp only [List.length_append, List.length_take, List.length_drop, List.length_map]
      omega
    · rw [upd_same]
      simp only [List.take_zero, List.nil_append, List.drop_length, List.append_nil, act, List.map_append, List.map_take, List.map_drop]
  | chs k w' p o =>
    obtain ⟨t, e, ho⟩ := id hs
    subst e
    obtain ⟨d, kvs, e, hd1, hd2⟩ := id hd
    cases e
    obtain ⟨o1, o2, o3, o4⟩ := ok
    refine ⟨_, _, _, _, rfl, rfl, SqT.of h1, rfl, ?_⟩
    refine ⟨_, rfl, _, _, _, _, rfl, rfl, SqT.of h1, rfl, rfl, _, rfl, iteDF ne_cd ?_⟩
    refine ⟨_, rfl, _, _, _, _, rfl, rfl, SqT.of h1, rfl, rfl, _, rfl, iteDF ne_cs ?_⟩
    refine ⟨_, rfl, _, _, _, _, rfl, rfl, SqT.of h1, rfl, rfl, _, rfl, iteDF ne_cf ?_⟩
    have ekw : ((k : Int) + (w' : Int)) = ((k + w' : Nat) : Int) := by omega
    refine ⟨_, rfl, _, rfl, _, rfl, _, rfl, _, rfl, _, _, _, _, rfl, rfl, SqT.of h1, rfl, _, _, rfl, rfl, _, rfl, _, _, rfl, SqL.of hl, fun H1 p1 s1 n1 e1 => ?_⟩
    rw [ekw, cut_ss (by omega) (by omega), Nat.add_sub_cancel_left, ← List.map_drop, ← List.map_take] at e1
    refine ⟨_, rfl, _, rfl, _, rfl, p1, rfl, ⟨_, SqL.of e1⟩, fun D hD => ?_⟩
    have sl : ((is.drop k).take w').length = w' := by rw [List.length_take, List.length_drop]; omega
    refine lcY walk_list int_mono (fun i => (((is.drop k).take w').map (bear row)).take i) hD rfl (fun i hi => by rw [List.length_take, List.length_map, sl]; omega) (fun _ s => SqL.of (s _ _ e1)) ?_ mono_name ?_
    · rintro i x H2 H2' hi2 s2 ⟨rfl, hx⟩ Ny hNy
      rw [List.getElem?_map] at hx
      obtain ⟨z, hz2, rfl⟩ := Option.map_eq_some_iff.mp hx
      have hz3 : z < row.length := hi z (List.mem_of_mem_drop (List.mem_of_mem_take (List.mem_of_getElem? hz2)))
      have hz4 : (row.map V.int)[z]? = some (V.int (bear row z)) := by
        rw [List.getElem?_map, List.getElem?_eq_getElem hz3]
        unfold bear
        rw [List.getD_eq_getElem?_getD, List.getElem?_eq_getElem hz3]
        rfl
      refine ⟨rfl, _, rfl, _, rfl, _, _, _, _, rfl, rfl, SqT.of (s2 _ _ (s1 _ _ hb)), atI_nat hz4, hNy _ _ (bear row z) (Same.refl _) rfl ?_⟩
      exact take_one_more (by rw [List.getElem?_map, hz2]; rfl)
    · intro H2 ws s2 hw pw
      have pw : ws = ((((is.drop k).take w').map (bear row))).map V.int := by
        have pw := ints_iff.mp pw
        rw [pw, List.take_of_length_le (by rw [List.length_map, List.length_map]; exact Nat.le_refl _)]
      subst pw
      refine ⟨D, _, rfl, SqL.of hw, fun a2 ha2 => ?_⟩
      have s3 := s2.trans (same_new (o := .tup ((((is.drop k).take w').map (bear row)).map V.int)) ha2)
      have s4 := s1.trans s3
      refine ⟨_, d, a2, k, w', p, o, _, rfl, ⟨a1, _, rfl, s4 _ _ h1, stv_mono (.of s4) hs⟩, othd_same s4 hd, upd_same, fun H3 s5 => ?_⟩
      have s6 := s4.trans s5
      have hpk : pick o p (((is.drop k).take w').map (bear row)) < w' := pick_lt o3 fun q hq => (o4.2.1 q hq).2.2
      have e3 := (s3.trans s5) _ _ e1
      have hg : ((is.drop k).take w')[pick o p (((is.drop k).take w').map (bear row))]? = some _ := List.getElem?_eq_getElem (by rw [sl]; exact hpk)
      generalize (((is.drop k).take w')[pick o p (((is.drop k).take w').map (bear row))]'(by rw [sl]; exact hpk)) = y at hg
      have hg' : (((is.drop k).take w').map fun i => V.int (i : Nat))[pick o p (((is.drop k).take w').map (bear row))]? = some (V.int y) := by rw [List.getElem?_map, hg]; rfl
      refine ⟨_, rfl, _, rfl, p1, _, _, _, rfl, rfl, SqL.of e3, atI_nat hg', by show 1 ≤ sizeLine; decide, fun bb hbb => ?_⟩
      have s7 := s6.trans (same_new (o := .lst [.int y]) hbb)
      refine ⟨_, rfl, _, rfl, _, rfl, _, rfl, _, rfl, _, _, _, _, rfl, rfl, SqT.of (s7 _ _ h1), rfl, _, _, rfl, rfl, _, rfl, l, bb, _, _, k, k + w', rfl, rfl, ne_of_none (s6 _ _ hl) hbb, s7 _ _ hl, upd_same, .inr ⟨rfl, by rw [ekw], by omega, by rw [ll]; omega⟩, ?_, q _ ((But.of s7).trans But.upd) ?_⟩
      · refine sz1000 ?_
        rw [ll]
        show is.length + 1 ≤ 100000
        omega
      · rw [upd_same]
        simp only [act, List.map_append, List.map_take, List.map_drop]
        have e5 : (is.drop (k + pick o p (((is.drop k).take w').map (bear row)))).take 1 = [y] := by
          have z : is[k + pick o p (((is.drop k).take w').map (bear row))]? = some y := by
            rw [List.getElem?_take_of_lt hpk, List.getElem?_drop] at hg
            exact hg
          have hlt := (List.getElem?_eq_some_iff.mp z).1
          rw [List.drop_eq_getElem_cons hlt, (List.getElem?_eq_some_iff.mp z).2]
          rfl
        have e6 := congrArg (List.map fun i => V.int (i : Nat)) e5
        rw [List.map_take, List.map_drop, List.map_take, List.map_drop] at e6
        rw [e6]
        rfl
end
end Fv
namespace Fv
open PySem L2
theorem rgV_nat (n : Nat) : rgV 0 (n : Int) = (List.range n).map fun i => V.int (i : Nat) := by
  unfold rgV
  rw [Int.sub_zero, Int.toNat_natCast]
  exact List.map_congr_left fun i _ => by rw [Int.zero_add]
section
variable {P : Program} {w : World} {K : PySem.W.Frag} {mg : Str → Option Value} {base : Heap} {CN CT dS : Addr}
def sp_sources (CN : Addr) : Sp := fun vs H Q _ => ∃ (x b : Addr) (L n : Nat) (steps : List Stp) (row : List Int), vs = [.ref x, .ref b] ∧ NetA CN H x L n steps ∧ H b = some (.tup (row.map V.int)) ∧ row.length = n ∧ okSteps L n steps ∧ 1 ≤ n ∧ n ≤ 1000 ∧ steps.length ≤ 1000 ∧
  ∀ H' l, Same H H' → H l = none → H' l = some (.lst ((srcs steps (bear row) (List.range n)).map fun i => V.int (i : Nat))) → Q (.ref l) H'
theorem cal_sources (T : Txt w K mg CN CT dS) : Cal P w K mg base "sources" ["net", "row"] 3 (sp_sources CN) := by
  have g_work := cal_work (P := P) (base := base) T
  refine cal_mk T.f_sources (fun F => F.ok sc_sources (fun vs H Q E h => ?_) (fun cdv A outer s H vs Q E hr h => ?_)) (fun F => F.binds fun _ _ _ _ _ _ us hl => match us, hl with | [_, _], _ => rfl)
  · obtain ⟨x, b, L, n, steps, row, rfl, _⟩ := h
    rfl
  obtain ⟨x, b, L, n, steps, row, rfl, ⟨ol, no⟩, hb, hn, ok, n1, n2, hz, q⟩ := h
  obtain ⟨dx, ts, m, us, os, h1, h2, h3, h4, h5⟩ := no.ex
  refine ⟨_, (pss_cons (ps_set (i := 2) sc_sources.nd rfl (Or.inl rfl) (pe_listRg rfl (by rfl) T.list_ (prg_1 (by rfl) T.range (pe_callB (r := rLenQ K) call_lenQ (by rfl) T.len (by decide +kernel) (pa_cons (pv 1) pa_nil)))))
      (pss_cons (ps_for PassesOwn.never rfl (pi_zipTL (by rfl) T.zip (pa_cons (pe_fld (pv 0) rfl) (pa_cons (pe_fld (pv 0) rfl) pa_nil))) (pg_tup rfl (pgs_cons (pg_name (i := 3) sc_sources.nd rfl (Or.inl rfl)) (pgs_cons (pg_name (i := 4) sc_sources.nd rfl (Or.inl rfl)) pgs_nil))) 
        (pss_one (ps_expr (pe_fn g_work (hr.mono (by decide)) (by rfl) (pa_cons (pv 3) (pa_cons (pv 4) (pa_cons (pv 2) (pa_cons (pv 1) pa_nil))))))))
      (pss_one (ps_ret (pv 2))))), ?_⟩
  refine ⟨_, rfl, b, _, rfl, .inr (SqT.of hb), _, rfl, ?_⟩
  rw [List.length_map, hn]
  refine ⟨RgOk.of_le (by omega) (by omega) (by omega) (by omega), fun l hl => ?_⟩
  rw [rgV_nat]
  have ul : us.length = steps.length := Paired.length h3
  have ol' : os.length = steps.length := Paired.length h5
  have s0 := same_new (o := .lst ((List.range n).map fun i => V.int (i : Nat))) hl
  refine ⟨_, rfl, x, CN, dx, _, _, rfl, s0 _ _ h1, T.clN, T.aN3, nf3, _, rfl, x, CN, dx, _, _, rfl, s0 _ _ h1, T.clN, T.aN5, nf5, ts, ol, us, os, rfl, SqT.of (s0 _ _ h2), SqL.of (s0 _ _ h4), ?_⟩
  refine for_it (walk_zipM (by omega)) (fun i σ H1 => ∃ (v3 v4 : Option V), σ = [some (.ref x), some (.ref b), some (.ref l), v3, v4] ∧ Same H H1 ∧ H1 l = some (.lst ((srcs (steps.take i) (bear row) (List.range n)).map fun i => V.int (i : Nat)))) ⟨_, _, rfl, s0, upd_same⟩ (fun i σ H1 _ ⟨_, _, _, s1, _⟩ => ⟨SqT.of (s1 _ _ h2), SqL.of (s1 _ _ h4)⟩) ?_ ?_
  · rintro i z σ H1 H1' hi ⟨v3, v4, rfl, s1, e1⟩ ⟨T', x1, x2, rfl, hT, rfl, e2, e3⟩
    have e2 : us[i]? = some x1 := e2
    have e3 : os[i]? = some x2 := e3
    obtain ⟨st, hst, g1⟩ := pgetL h3 e2
    obtain ⟨st', hst', g2⟩ := pgetL h5 e3
    obtain rfl : st = st' := by rw [hst] at hst'; exact Option.some.inj hst'
    have sT := same_new (o := .tup [x1, x2]) hT
    have s2 := s1.trans sT
    have ok1 := okSteps_at ok hst
    have tk : steps.take (i + 1) = steps.take i ++ [st] := take_one_more hst
    have ok0 : okSteps L n (steps.take i) := by
      have z := ok
      rw [← List.take_append_drop i steps, okSteps_append] at z
      exact z.1
    have sl : (srcs (steps.take i) (bear row) (List.range n)).length = afters n (steps.take i) := by
      have := srcs_len (letters := L) (bear := bear row) (steps := steps.take i) (L := List.range n) (by rw [List.length_range]; exact ok0)
      rw [List.length_range] at this
      exact this
    have a2 := (okSteps_afters ok0 n1 n2).2
    refine ⟨T', _, rfl, SqT.of upd_same, rfl, _, _, rfl, _, _, rfl, rfl, ?_⟩
    refine ⟨_, rfl, _, rfl, _, rfl, _, rfl, x1, x2, l, b, st, _, row, L, rfl, stp_mono.mono (.of s2) g1, othd_same s2 g2, sT _ _ e1, s2 _ _ hb, (fun j hj => by rw [hn]; exact List.mem_range.mp (srcs_mem hj)), by rw [sl]; exact ok1, by rw [sl]; exact a2, fun H2 b2 e4 => ?_⟩
    refine ⟨_, _, rfl, ((But.of s2).trans b2).same hl, ?_⟩
    rw [e4, tk, srcs_snoc]
  · rintro σ H1 ⟨v3, v4, rfl, s1, e1⟩
    rw [ul, List.take_length] at e1
    exact ⟨_, rfl, q H1 l s1 hl e1⟩
theorem bear_range (row : List Int) : (List.range row.length).map (bear row) = row := by
  refine List.ext_getElem (by simp) fun i h1 h2 => ?_
  rw [List.getElem_map, List.getElem_range]
  unfold bear
  rw [List.getD_eq_getElem?_getD, List.getElem?_eq_getElem h2]
  rfl
def sp_run_of (CN : Addr) : Sp := fun vs H Q _ => ∃ (x b : Addr) (L n : Nat) (steps : List Stp) (row : List Int), vs = [.ref x, .ref b] ∧ NetA CN H x L n steps ∧ H b = some (.tup (row.map V.int)) ∧ row.length = n ∧ okSteps L n steps ∧ 1 ≤ n ∧ n ≤ 1000 ∧ steps.length ≤ 1000 ∧
  ∀ H' p, Same H H' → H' p = some (.tup ((run steps row).map V.int)) → Q (.ref p) H'
theorem cal_run_of (T : Txt w K mg CN CT dS) : Cal P w K mg base "run_of" ["net", "row"] 4 (sp_run_of CN) := by
  have g_sources := cal_sources (P := P) (base := base) T
  refine cal_mk T.f_run_of (fun F => F.ok sc_run_of (fun vs H Q E h => ?_) (fun cdv A outer s H vs Q E hr h => ?_)) (fun F => F.binds fun _ _ _ _ _ _ us hl => match us, hl with | [_, _], _ => rfl)
  · obtain ⟨x, b, L, n, steps, row, rfl, _⟩ := h
    rfl
  obtain ⟨x, b, L, n, steps, row, rfl, no, hb, hn, ok, n1, n2, hz, q⟩ := h
  refine ⟨_, (pss_one (ps_ret (pe_callTy (r := rTupQ K) call_tupQ (by rfl) T.tuple_ (by decide +kernel) (pa_cons (pe_lc (own := [("lane", 2)]) (g := gName 2) rfl sc_run_of.nd (pi_list (pe_fn g_sources (hr.mono (by decide)) (by rfl) (pa_cons (pv 0) (pa_cons (pv 1) pa_nil)))) (blkOk_by (N := n_run_of) (sc := defScope s_run_of) (by decide +kernel)) (fun _ _ _ _ _ => (pg_name (i := 2) sc_run_of.nd rfl (Or.inl rfl))) (fun _ _ _ _ _ => pts_nil) (fun _ _ _ _ _ => (pe_ix (r := rIxT K) ix_tup (pv 1) (pv 2) (fun _ _ => rfl)))) pa_nil)))), ?_⟩
  refine ⟨_, rfl, _, rfl, x, b, L, n, steps, row, rfl, no, hb, hn, ok, n1, n2, hz, fun H1 l s1 f1 e1 => ?_⟩
  have sl : (srcs steps (bear row) (List.range n)).length = afters n steps := by
    have := srcs_len (letters := L) (bear := bear row) (steps := steps) (L := List.range n) (by rw [List.length_range]; exact ok)
    rw [List.length_range] at this
    exact this
  have a2 := (okSteps_afters ok n1 n2).2
  have er : (srcs steps (bear row) (List.range n)).map (bear row) = run steps row := by rw [srcs_map, ← hn, bear_range]
  refine ⟨l, rfl, ⟨_, SqL.of e1⟩, fun D hD => ?_⟩
  refine lcY walk_list int_mono (fun i => ((srcs steps (bear row) (List.range n)).map (bear row)).take i) hD rfl (fun i hi => by rw [List.length_take, List.length_map, sl]; omega) (fun _ s => SqL.of (s _ _ e1)) ?_ mono_name ?_
  · rintro i v H2 H2' hi2 s2 ⟨rfl, hx⟩ Ny hNy
    rw [List.getElem?_map] at hx
    obtain ⟨z, hz2, rfl⟩ := Option.map_eq_some_iff.mp hx
    have hz3 : z < row.length := by rw [hn]; exact List.mem_range.mp (srcs_mem (List.mem_of_getElem? hz2))
    have hz4 : (row.map V.int)[z]? = some (V.int (bear row z)) := by
      rw [List.getElem?_map, List.getElem?_eq_getElem hz3]
      unfold bear
      rw [List.getD_eq_getElem?_getD, List.getElem?_eq_getElem hz3]
      rfl
    refine ⟨rfl, _, rfl, _, rfl, _, _, _, _, rfl, rfl, SqT.of (s2 _ _ (s1 _ _ hb)), atI_nat hz4, hNy _ _ (bear row z) (Same.refl _) rfl ?_⟩
    exact take_one_more (by rw [List.getElem?_map, hz2]; rfl)
  · intro H2 ws s2 hw pw
    have pw : ws = (run steps row).map V.int := by
      have pw := ints_iff.mp pw
      rw [pw, List.take_of_length_le (by rw [List.length_map, List.length_map]; exact Nat.le_refl _), er]
    subst pw
    refine ⟨D, _, rfl, SqL.of hw, fun a2 ha2 => ?_⟩
    exact q _ a2 ((s1.trans s2).trans (same_new ha2)) upd_same
/-- what the program asks of a net whose rows are listed -/
def sp_check_all (CN : Addr) : Sp := fun vs H Q _ => ∃ (x : Addr) (L n : Nat) (steps : List Stp), vs = [.ref x] ∧ NetA CN H x L n steps ∧ L ≤ 4 ∧ n ≤ 5 ∧ ∀ H', Same H H' → Q .non H'
theorem cal_check_all (T : Txt w K mg CN CT dS) : Cal P w K mg base "check_all" ["net"] 3 (sp_check_all CN) := by
  have g_check_listed := cal_check_listed (P := P) (base := base) T
  refine cal_mk T.f_check_all (fun F => F.ok sc_check_all (fun vs H Q E h => ?_) (fun cdv A outer s H vs Q E hr h => ?_)) (fun F => F.binds fun _ _ _ _ _ _ us hl => match us, hl with | [_], _ => rfl)
  · obtain ⟨x, L, n, steps, rfl, _⟩ := h
    rfl
  obtain ⟨x, L, n, steps, rfl, ⟨ol, no⟩, hL, hn, q⟩ := h
  obtain ⟨dx, ts, m, us, os, h1, h2, h3, h4, h5⟩ := no.ex
  refine ⟨_, (pss_one (ps_expr (pe_fn g_check_listed (hr.mono (by decide)) (by rfl) (pa_cons (pe_fld (pv 0) rfl) (pa_cons (pe_fld (pv 0) rfl) pa_nil))))), ?_⟩
  exact ⟨_, rfl, x, CN, dx, _, _, rfl, h1, T.clN, T.aN1, nf1, _, rfl, x, CN, dx, _, _, rfl, h1, T.clN, T.aN2, nf2, L, n, rfl, hL, hn, q _ (Same.refl _)⟩
def sp_all_ins (CN : Addr) : Sp := fun vs H Q _ => ∃ (x : Addr) (L n : Nat) (steps : List Stp), vs = [.ref x] ∧ NetA CN H x L n steps ∧ L ≤ 4 ∧ n ≤ 5 ∧ ∀ H' l, Same H H' → LA RowR H' l (rowsM (lets L) n) → Q (.ref l) H'
theorem cal_all_ins (T : Txt w K mg CN CT dS) : Cal P w K mg base "all_ins" ["net"] 4 (sp_all_ins CN) := by
  have g_check_all := cal_check_all (P := P) (base := base) T
  have g_rows_of := cal_rows_of (P := P) (base := base) T
  refine cal_mk T.f_all_ins (fun F => F.ok sc_all_ins (fun vs H Q E h => ?_) (fun cdv A outer s H vs Q E hr h => ?_)) (fun F => F.binds fun _ _ _ _ _ _ us hl => match us, hl with | [_], _ => rfl)
  · obtain ⟨x, L, n, steps, rfl, _⟩ := h
    rfl
  obtain ⟨x, L, n, steps, rfl, no, hL, hn, q⟩ := h
  refine ⟨_, (pss_cons (ps_expr (pe_fn g_check_all (hr.mono (by decide)) (by rfl) (pa_cons (pv 0) pa_nil)))
      (pss_one (ps_ret (pe_fn g_rows_of (hr.mono (by decide)) (by rfl) (pa_cons (pe_fld (pv 0) rfl) (pa_cons (pe_fld (pv 0) rfl) pa_nil)))))), ?_⟩
  refine ⟨_, rfl, x, L, n, steps, rfl, no, hL, hn, fun H1 s1 => ?_⟩
  obtain ⟨ol, no⟩ := no.same s1
  obtain ⟨dx, ts, m, us, os, h1, h2, h3, h4, h5⟩ := no.ex
  exact ⟨_, rfl, x, CN, dx, _, _, rfl, h1, T.clN, T.aN1, nf1, _, rfl, x, CN, dx, _, _, rfl, h1, T.clN, T.aN2, nf2, L, n, rfl, hL, hn, fun H2 l s2 la => q H2 l (s1.trans s2) la⟩
end
end Fv
namespace Fv
open PySem L2
theorem make_same {H1 H' : Hp} {x dx : Addr} {o1 o2 : HO} (nx : H1 x = none) (ndx : H1 dx = none) (b : But x (upd (upd H1 dx o1) x o2) H') : Same H1 H' :=
  fun c o e => b c o (ne_of_none e nx) (by rw [upd_ne (ne_of_none e nx), upd_ne (ne_of_none e ndx)]; exact e)
theorem make_free {H1 : Hp} {x dx c : Addr} {o1 o2 : HO} (h : upd (upd H1 dx o1) x o2 c = none) : H1 c = none := by
  have n1 : c ≠ x := fun e => by rw [e, upd_same] at h; cases h
  rw [upd_ne n1] at h
  have n2 : c ≠ dx := fun e => by rw [e, upd_same] at h; cases h
  rw [upd_ne n2] at h
  exact h
theorem pset {α β : Type} {F : α → β → Prop} : ∀ {l : List α} {m : List β}, Paired F l m → ∀ {i : Nat} {a : α} {b : β}, F a b → Paired F (l.set i a) (m.set i b)
  | _, _, .nil, _, _, _, _ => .nil
  | _, _, .cons h t, 0, _, _, q => .cons q t
  | _, _, .cons h t, i + 1, _, _, q => .cons h (pset t q)
section
variable {P : Program} {w : World} {K : PySem.W.Frag} {mg : Str → Option Value} {base : Heap} {CN CT dS : Addr}
def sp_bends_of (CN : Addr) : Sp := fun vs H Q _ => ∃ (x : Addr) (L n : Nat) (steps : List Stp), vs = [.ref x] ∧ NetA CN H x L n steps ∧ okSteps L n steps ∧ steps.length ≤ 1000 ∧ ∀ H' l, Same H H' → H l = none → LA IPR H' l (bends steps) → Q (.ref l) H'
theorem cal_bends_of (T : Txt w K mg CN CT dS) : Cal P w K mg base "bends_of" ["net"] 1 (sp_bends_of CN) := by
  refine cal_mk T.f_bends_of (fun F => F.ok sc_bends_of (fun vs H Q E h => ?_) (fun cdv A outer s H vs Q E hr h => ?_)) (fun F => F.binds fun _ _ _ _ _ _ us hl => match us, hl with | [_], _ => rfl)
  · obtain ⟨x, L, n, steps, rfl, _⟩ := h
    rfl
  obtain ⟨x, L, n, steps, rfl, ⟨ol, no⟩, ok, hz, q⟩ := h
  obtain ⟨dx, ts, m, us, os, h1, h2, h3, h4, h5⟩ := no.ex
  refine ⟨_, (pss_cons (ps_set (i := 1) sc_bends_of.nd rfl (Or.inl rfl) (pe_lst pa_nil))
      (pss_cons (ps_for PassesOwn.never rfl (pi_enumT (by rfl) T.enumerate (pa_cons (pe_fld (pv 0) rfl) pa_nil)) (pg_tup rfl (pgs_cons (pg_name (i := 2) sc_bends_of.nd rfl (Or.inr rfl)) (pgs_cons (pg_name (i := 3) sc_bends_of.nd rfl (Or.inl rfl)) pgs_nil))) 
        (pss_one (ps_if (pt_cmpR op_eq (pe_ix (r := rIxT K) ix_tup (pv 3) pe_int (fun _ _ => rfl)) pe_str (nomark _)) 
          (pss_one (ps_expr (pe_bm PySem.F.plainAttrs_list PySem.F.slot_list_extend PySem.F.type_list_extend mt_extend (pv 1) (pa_cons (pe_lc (own := [("place", 4)]) (g := gName 4) rfl sc_bends_of.nd (pi_range1 (by rfl) T.range (pa_cons (pe_ix (r := rIxT K) ix_tup (pv 3) pe_int (fun _ _ => rfl)) pa_nil)) (blkOk_by (N := n_bends_of) (sc := defScope s_bends_of) (by decide +kernel)) (fun _ _ _ _ _ => (pg_name (i := 4) sc_bends_of.nd rfl (Or.inl rfl))) (fun _ _ _ _ _ => pts_nil) (fun _ _ _ _ _ => (pe_tup (pa_cons (pv 2) (pa_cons (pv 4) pa_nil))))) pa_nil)))) pss_nil)))
      (pss_one (ps_ret (pv 1))))), ?_⟩
  have ul : us.length = steps.length := Paired.length h3
  have hw3 : ∀ s ∈ steps, ∀ k w p o, s = Stp.chs k w p o → w ≤ 3 := by
    rintro s hs k w p o rfl
    obtain ⟨i, hi⟩ := List.getElem?_of_mem hs
    have := (okSteps_at ok hi).1
    omega
  refine ⟨Nat.zero_le _, fun l hl => ?_⟩
  have s0 := same_new (o := .lst []) hl
  refine ⟨_, rfl, x, CN, dx, _, _, rfl, s0 _ _ h1, T.clN, T.aN3, nf3, ts, us, rfl, SqT.of (s0 _ _ h2), ?_⟩
  refine for_it walk_enumT (fun i σ H1 => ∃ (v2 v3 v4 : Option V), σ = [some (.ref x), some (.ref l), v2, v3, v4] ∧ Same H H1 ∧ LA IPR H1 l (bends (steps.take i))) ⟨_, _, _, rfl, s0, [], upd_same, .nil⟩ (fun i σ H1 _ ⟨_, _, _, _, s1, _⟩ => SqT.of (s1 _ _ h2)) ?_ ?_
  · rintro i z σ H1 H1' hi ⟨v2, v3, v4, rfl, s1, vs, e1, pv⟩ ⟨T', x1, x2, rfl, hT, rfl, e2, e3⟩
    have e2 : some (V.int (i : Nat)) = some x1 := e2
    have e3 : us[i]? = some x2 := e3
    obtain ⟨st, hst, a, fs, rfl, ha, hs⟩ := pgetL h3 e3
    cases e2
    have sT := same_new (o := .tup [.int (i : Nat), .ref a]) hT
    have s2 := s1.trans sT
    have tk : steps.take (i + 1) = steps.take i ++ [st] := take_one_more hst
    have il : (steps.take i).length = i := by rw [List.length_take]; omega
    have eb : bends (steps.take (i + 1)) = bends (steps.take i) ++ bendsAt i st := by rw [tk, bends_snoc, il]
    refine ⟨T', _, rfl, SqT.of upd_same, rfl, _, _, rfl, _, _, rfl, rfl, ?_⟩
    cases st with
    | dbl k =>
      cases (show fs = _ from hs)
      refine ⟨_, rfl, _, _, _, _, rfl, rfl, SqT.of (s2 _ _ ha), rfl, rfl, _, rfl, iteDF ne_dc ⟨_, _, _, rfl, s2, ?_⟩⟩
      rw [eb]
      show LA IPR _ l (_ ++ [])
      rw [List.append_nil]
      exact LA.same ip_mono sT ⟨vs, e1, pv⟩
    | strk k =>
      cases (show fs = _ from hs)
      refine ⟨_, rfl, _, _, _, _, rfl, rfl, SqT.of (s2 _ _ ha), rfl, rfl, _, rfl, iteDF ne_sc ⟨_, _, _, rfl, s2, ?_⟩⟩
      rw [eb]
      show LA IPR _ l (_ ++ [])
      rw [List.append_nil]
      exact LA.same ip_mono sT ⟨vs, e1, pv⟩
    | fly a b c =>
      cases (show fs = _ from hs)
      refine ⟨_, rfl, _, _, _, _, rfl, rfl, SqT.of (s2 _ _ ha), rfl, rfl, _, rfl, iteDF ne_fc ⟨_, _, _, rfl, s2, ?_⟩⟩
      rw [eb]
      show LA IPR _ l (_ ++ [])
      rw [List.append_nil]
      exact LA.same ip_mono sT ⟨vs, e1, pv⟩
    | chs k w' p o =>
      obtain ⟨t, e, ho⟩ := hs
      subst e
      refine ⟨_, rfl, _, _, _, _, rfl, rfl, SqT.of (s2 _ _ ha), rfl, rfl, _, rfl, iteD rfl ?_⟩
      have w3 := hw3 _ (List.mem_of_getElem? hst) k w' p o rfl
      have e1' := sT _ _ e1
      refine ⟨_, rfl, .inl ⟨rfl, _, SqL.of e1'⟩, _, rfl, _, _, _, _, rfl, rfl, SqT.of (s2 _ _ ha), rfl, w', rfl, by omega, by omega, fun D hD => ?_⟩
      have nDl : l ≠ D := ne_of_none e1' hD
      refine lcY walk_range ip_mono (fun k => (List.range k).map fun p => (i, p)) hD rfl (fun k hk => by simp; omega) (fun _ _ => trivial) ?_ mono_name ?_
      · rintro k x H3 H3' hk s4 ⟨rfl, rfl⟩ Ny hNy
        refine ⟨rfl, _, rfl, _, rfl, by show 2 ≤ sizeLine; decide, fun p hp => hNy _ _ (i, k) (same_new hp) ⟨p, rfl, ?_⟩ ?_⟩
        · rw [upd_same]
          show some (HO.tup [_, V.int (0 + (k : Int))]) = _
          rw [Int.zero_add]
        · show (List.range (k + 1)).map _ = _
          rw [List.range_succ, List.map_append]
          rfl
      · intro H3 ws s4 hw pw
        have pw : Paired (IPR H3) ws (bendsAt i (.chs k w' p o)) := by
          have pw := pw
          rw [Int.toNat_natCast] at pw
          exact pw
        have lw : ws.length ≤ 3 := by rw [Paired.length pw]; simp [bendsAt]; exact w3
        have lu : vs.length ≤ 3000 := by
          rw [Paired.length pv]
          have := bends_bound (steps.take i) 0 fun s hs => hw3 s (List.mem_of_mem_take hs)
          rw [il] at this
          show (bendsFrom 0 _).length ≤ _
          omega
        refine ⟨l, D, vs, ws, rfl, rfl, s4 _ _ e1', hw, sz1000 (by omega), _, _, _, rfl, same_mut (s2.trans s4) hl, _, upd_same, ?_⟩
        rw [eb]
        have t0 : TS H3 (upd H3 l (.lst (vs ++ ws))) := TS.upd (by rw [s4 _ _ e1']; trivial)
        exact papp (ip_mono.all (((TS.of sT).trans (TS.of s4)).trans t0) pv) (ip_mono.all t0 pw)
  · rintro σ H1 ⟨v2, v3, v4, rfl, s1, la⟩
    rw [ul, List.take_length] at la
    exact ⟨_, rfl, q H1 l s1 hl la⟩
def sp_bent_of (CN : Addr) : Sp := fun vs H Q _ => ∃ (x : Addr) (L n i p : Nat) (steps : List Stp), vs = [.ref x, .int i, .int p] ∧ NetA CN H x L n steps ∧ (i, p) ∈ bends steps ∧ okSteps L n steps ∧ 1 ≤ L ∧ L ≤ 4 ∧ 1 ≤ n ∧ n ≤ 1000 ∧ steps.length ≤ 1000 ∧
  ∀ H' y ol, Same H H' → H y = none → H ol = none → NetO CN H' y L n (bent steps i p) ol → Q (.ref y) H'
theorem cal_bent_of (T : Txt w K mg CN CT dS) : Cal P w K mg base "bent_of" ["net", "index", "place"] 10 (sp_bent_of CN) := by
  have g_Net_init := cal_Net_init (P := P) (base := base) T
  refine cal_mk T.f_bent_of (fun F => F.ok sc_bent_of (fun vs H Q E h => ?_) (fun cdv A outer s H vs Q E hr h => ?_)) (fun F => F.binds fun _ _ _ _ _ _ us hl => match us, hl with | [_, _, _], _ => rfl)
  · obtain ⟨x, L, n, i, p, steps, rfl, _⟩ := h
    rfl
  obtain ⟨x, L, n, i, p, steps, rfl, ⟨ol, no⟩, hb, ok, L1, L2, n1, n2, hz, q⟩ := h
  obtain ⟨dx, ts, m, us, os, h1, h2, h3, h4, h5⟩ := no.ex
  refine ⟨_, (pss_cons (ps_set (i := 3) sc_bent_of.nd rfl (Or.inl rfl) (pe_ix (r := rIxT K) ix_tup (pe_fld (pv 0) rfl) (pv 1) (fun _ _ => rfl)))
      (pss_cons (ps_set (i := 4) sc_bent_of.nd rfl (Or.inl rfl) (pe_callTy (r := rListQ K) call_listQ (by rfl) T.list_ (by decide +kernel) (pa_cons (pe_fld (pv 0) rfl) pa_nil)))
      (pss_cons (ps_asg (pe_op (r := rCatQ) op_catQ (pe_slice (r := rSlQ) sl_tupQ (pv 3) po_none (po_some pe_int)) (pe_tup (pa_cons (pv 2) (pa_cons (pe_tupF pa_nil) pa_nil)))) (pg_sub (pv 4) (pv 1) set_list))
      (pss_one (ps_ret (pe_mk g_Net_init (hr.mono (by decide)) (by rfl) (pa_cons (pe_fld (pv 0) rfl) (pa_cons (pe_fld (pv 0) rfl) (pa_cons (pv 4) pa_nil))))))))), ?_⟩
  have ul : us.length = steps.length := Paired.length h3
  obtain ⟨k, w', p0, o, hst, hp⟩ := mem_bends hb
  have hst : steps[i]? = some (.chs k w' p0 o) := hst
  have hp : p < w' := hp
  obtain ⟨v, hv, a, fs, rfl, ha, t, e, ho⟩ := pget h3 hst
  subst e
  have il : i < us.length := (List.getElem?_eq_some_iff.mp hv).1
  refine ⟨_, rfl, x, CN, dx, _, _, rfl, h1, T.clN, T.aN3, nf3, _, rfl, ts, us, _, _, rfl, rfl, SqT.of h2, atI_nat hv, ?_⟩
  refine ⟨_, rfl, x, CN, dx, _, _, rfl, h1, T.clN, T.aN3, nf3, ts, us, rfl, .inr (SqT.of h2), fun l hl => ?_⟩
  have s1 := same_new (o := .lst us) hl
  refine ⟨_, rfl, 3, rfl, a, _, rfl, s1 _ _ ha, fun H2 a2 s2 e2 => ?_⟩
  have e2 : H2 a2 = some (.tup [.str "choose", .int k, .int w']) := e2
  refine ⟨_, rfl, Nat.zero_le _, fun a3 ob tob ha3 => ⟨by show 2 ≤ sizeLine; decide, fun a4 ha4 => ?_⟩⟩
  have s3 := same_new (o := .frz ob (.tup [])) ha3
  have s4 := same_new (o := .tup [.int (p : Nat), .ref a3]) ha4
  refine ⟨a2, a4, _, _, rfl, rfl, s4 _ _ (s3 _ _ e2), upd_same, by show 3 + 2 ≤ sizeLine; decide, fun H5 a5 s5 e5 => ?_⟩
  have e5 : H5 a5 = some (.tup [.str "choose", .int k, .int w', .int p, .ref a3]) := e5
  have s25 := (s3.trans s4).trans s5
  have s6 := s1.trans (s2.trans s25)
  have hl5 : H5 l = some (.lst us) := (s2.trans s25) _ _ upd_same
  refine ⟨_, rfl, _, rfl, l, us, _, i, rfl, rfl, hl5, ?_, ?_⟩
  · unfold ixN
    rw [if_pos (by omega), if_pos (by omega), Int.toNat_natCast]
  have s7 := same_mut (o := .lst (us.set i (.ref a5))) s6 hl
  have t7 : TS H5 (upd H5 l (.lst (us.set i (.ref a5)))) := TS.upd (by rw [hl5]; trivial)
  refine ⟨_, rfl, x, CN, dx, _, _, rfl, s7 _ _ h1, T.clN, T.aN1, nf1, _, rfl, x, CN, dx, _, _, rfl, s7 _ _ h1, T.clN, T.aN2, nf2, _, rfl, fun y dy ny ndy ne => ?_⟩
  have sm : Same (upd H5 l (.lst (us.set i (.ref a5)))) (upd (upd (upd H5 l (.lst (us.set i (.ref a5)))) dy (.own y)) y (.ins CN dy [])) := (same_new ndy).trans (same_new (by rw [upd_ne (Ne.symm ne)]; exact ny))
  have okb := ok_bent ok hb
  have eb : bent steps i p = steps.set i (.chs k w' p []) := bent_set hst
  have t2 : TS H (upd (upd (upd H5 l (.lst (us.set i (.ref a5)))) dy (.own y)) y (.ins CN dy [])) := (TS.of s7).trans (TS.of sm)
  have tt : TS H5 (upd (upd (upd H5 l (.lst (us.set i (.ref a5)))) dy (.own y)) y (.ins CN dy [])) := t7.trans (TS.of sm)
  refine ⟨y, dy, l, L, n, bent steps i p, rfl, upd_same, ⟨_, sm _ _ upd_same, ?_⟩, okb.1, L1, L2, n1, n2, by rw [eb, List.length_set]; exact hz, fun H9 ol' hol b no' => ⟨rfl, q H9 y ol' (s7.trans (make_same ny ndy b)) (s7.free ny) (s7.free (make_free hol)) no'⟩⟩
  rw [eb]
  refine pset (stp_mono.all t2 h3) ⟨a5, _, rfl, tt.tup _ _ e5, .ref a3, rfl, a3, ob, [], rfl, tob, tt.frz _ _ _ ((s4.trans s5) _ _ upd_same), .nil⟩
end
end Fv
namespace Fv
open PySem L2
/-! ### rows and tables as data -/
def rowD (r : List Int) : PyData := .tuple (r.map PyData.int)
def tblD (t : List (List Int)) : PyData := .tuple (t.map rowD)
theorem layInts : ∀ ns : List Int, PyData.canLayAll0 (ns.map PyData.int) = true
  | [] => by simp [PyData.canLayAll0]
  | n :: r => by simp [PyData.canLayAll0, PyData.canLay0, layInts r]
theorem depInts : ∀ ns : List Int, PyData.depthAll (ns.map PyData.int) ≤ 1
  | [] => by simp [PyData.depthAll]
  | n :: r => by
    have := depInts r
    simp only [List.map_cons, PyData.depthAll, PyData.depth]
    omega
theorem rowD_lay (r : List Int) : (rowD r).canLay0 = true := by simp only [rowD, PyData.canLay0]; exact layInts r
theorem rowD_dep (r : List Int) : (rowD r).depth ≤ 2 := by
  have := depInts r
  simp only [rowD, PyData.depth]; omega
theorem layRows : ∀ t : List (List Int), PyData.canLayAll0 (t.map rowD) = true
  | [] => by simp [PyData.canLayAll0]
  | n :: r => by simp [PyData.canLayAll0, rowD_lay, layRows r]
theorem depRows : ∀ t : List (List Int), PyData.depthAll (t.map rowD) ≤ 2
  | [] => by simp [PyData.depthAll]
  | n :: r => by
    have := depRows r
    have := rowD_dep n
    simp only [List.map_cons, PyData.depthAll]
    omega
theorem tblD_lay (r : List (List Int)) : (tblD r).canLay0 = true := by simp only [tblD, PyData.canLay0]; exact layRows r
theorem tblD_dep (r : List (List Int)) : (tblD r).depth ≤ 3 := by
  have := depRows r
  simp only [tblD, PyData.depth]; omega
theorem layTbls : ∀ t : List (List (List Int)), PyData.canLayAll0 (t.map tblD) = true
  | [] => by simp [PyData.canLayAll0]
  | n :: r => by simp [PyData.canLayAll0, tblD_lay, layTbls r]
theorem depTbls : ∀ t : List (List (List Int)), PyData.depthAll (t.map tblD) ≤ 3
  | [] => by simp [PyData.depthAll]
  | n :: r => by
    have := depTbls r
    have := tblD_dep n
    simp only [List.map_cons, PyData.depthAll]
    omega
theorem shaped_of {d : PyData} {n : Nat} (h : d.canLay0 = true) (q : d.depth ≤ n) (hn : n ≤ 64) : SeqAt.shaped d = true := by
  show (d.canLay0 && decide (d.depth ≤ 64)) = true
  rw [Bool.and_eq_true]
  exact ⟨h, decide_eq_true (Nat.le_trans q hn)⟩
theorem rowD_sh (r : List Int) : SeqAt.shaped (rowD r) = true := shaped_of (rowD_lay r) (rowD_dep r) (by decide)
theorem tblD_sh (r : List (List Int)) : SeqAt.shaped (tblD r) = true := shaped_of (tblD_lay r) (tblD_dep r) (by decide)
theorem tblsD_sh (ts : List (List (List Int))) : SeqAt.shaped (.list (ts.map tblD)) = true := by
  have := depTbls ts
  exact shaped_of (n := 4) (by simp only [PyData.canLay0]; exact layTbls ts) (by simp only [PyData.depth]; omega) (by decide)
theorem eqvInts : ∀ a b : List Int, PyData.eqvAll (a.map PyData.int) (b.map PyData.int) = decide (a = b)
  | [], [] => by simp [PyData.eqvAll]
  | [], _ :: _ => by simp [PyData.eqvAll]
  | _ :: _, [] => by simp [PyData.eqvAll]
  | x :: a, y :: b => by
    simp only [List.map_cons, PyData.eqvAll, PyData.eqv, eqvInts a b]
    by_cases h : x = y <;> simp [h]
theorem rowD_eqv (a b : List Int) : PyData.eqv (rowD a) (rowD b) = decide (a = b) := by simp only [rowD, PyData.eqv]; exact eqvInts a b
theorem eqvRows : ∀ a b : List (List Int), PyData.eqvAll (a.map rowD) (b.map rowD) = decide (a = b)
  | [], [] => by simp [PyData.eqvAll]
  | [], _ :: _ => by simp [PyData.eqvAll]
  | _ :: _, [] => by simp [PyData.eqvAll]
  | x :: a, y :: b => by
    simp only [List.map_cons, PyData.eqvAll, rowD_eqv, eqvRows a b]
    by_cases h : x = y <;> simp [h]
theorem tblD_eqv (a b : List (List Int)) : PyData.eqv (tblD a) (tblD b) = decide (a = b) := by simp only [tblD, PyData.eqv]; exact eqvRows a b
theorem dpInts {K : PySem.W.Frag} {H : Hp} : ∀ r : List Int, DpAll K H (r.map V.int) (r.map PyData.int)
  | [] => .nil
  | x :: r => .cons (.int x) (dpInts r)
theorem dpRow {K : PySem.W.Frag} {H : Hp} {v : V} {r : List Int} (h : RowR H v r) : Dp K H v (rowD r) := by
  obtain ⟨a, rfl, h⟩ := h
  exact .tup (SqT.of h) (dpInts r)
theorem dpRows {K : PySem.W.Frag} {H : Hp} : ∀ {vs : List V} {t : List (List Int)}, Paired (RowR H) vs t → DpAll K H vs (t.map rowD)
  | _, _, .nil => .nil
  | _, _, .cons h t => .cons (dpRow h) (dpRows t)
theorem dpOut {K : PySem.W.Frag} {H : Hp} {v : V} {t : List (List Int)} (h : OutR H v t) : Dp K H v (tblD t) := by
  obtain ⟨a, vs, rfl, h, p⟩ := h
  exact .tup (SqT.of h) (dpRows p)
theorem dpOuts {K : PySem.W.Frag} {H : Hp} : ∀ {vs : List V} {t : List (List (List Int))}, Paired (OutR H) vs t → DpAll K H vs (t.map tblD)
  | _, _, .nil => .nil
  | _, _, .cons h t => .cons (dpOut h) (dpOuts t)
theorem any_tbl (ts : List (List (List Int))) (t : List (List Int)) : ((ts.map tblD).any fun z => PyData.eqv z (tblD t)) = decide (t ∈ ts) := by
  induction ts with
  | nil => simp
  | cons x ts ih =>
    rw [List.map_cons, List.any_cons, ih, tblD_eqv]
    by_cases h : x = t
    · subst h; simp
    · have h' : ¬ t = x := fun e => h e.symm
      simp [h, h']
theorem filter_one_more {α : Type} (p : α → Bool) {l : List α} {j : Nat} {x : α} (h : l[j]? = some x) : (l.take (j + 1)).filter p = (l.take j).filter p ++ (if p x = true then [x] else []) := by
  rw [take_one_more h, List.filter_append]
  congr 1
  cases h : p x <;> simp [h]
section
variable {P : Program} {w : World} {K : PySem.W.Frag} {mg : Str → Option Value} {base : Heap} {CN CT dS : Addr}
/-- a net whose rows are listed, and one of its bends -/
structure NetB (CN : Addr) (H : Hp) (x : Addr) (L n : Nat) (steps : List Stp) : Prop where
  net : NetA CN H x L n steps
  ok : okSteps L n steps
  L1 : 1 ≤ L
  L2 : L ≤ 4
  n1 : 1 ≤ n
  n2 : n ≤ 5
  sz : steps.length ≤ 1000
theorem NetB.same {CN : Addr} {H H' : Hp} {x : Addr} {L n : Nat} {steps : List Stp} (h : NetB CN H x L n steps) (s : Same H H') : NetB CN H' x L n steps := { h with net := h.net.same s }
theorem NetB.bent {CN : Addr} {H H' : Hp} {x y ol : Addr} {L n i p : Nat} {steps : List Stp} (h : NetB CN H x L n steps) (hb : (i, p) ∈ bends steps) (no : NetO CN H' y L n (bent steps i p) ol) : NetB CN H' y L n (bent steps i p) := by
  have okb := ok_bent h.ok hb
  refine ⟨⟨ol, no⟩, okb.1, h.L1, h.L2, h.n1, h.n2, ?_⟩
  obtain ⟨k, w', p0, o, hst, hp⟩ := mem_bends hb
  have hst : steps[i]? = some (.chs k w' p0 o) := hst
  rw [bent_set hst, List.length_set]
  exact h.sz
theorem lets_len4 {L : Nat} (h : L ≤ 4) : (lets L).length ≤ 4 := by rw [lets_len]; exact h
def shows (rows : List (List Int)) (steps : List Stp) (b : Nat × Nat) : List (List Int) := rows.filter fun r => !decide (run steps r = run (bent steps b.1 b.2) r)
def sp_shown_of (CN : Addr) : Sp := fun vs H Q _ => ∃ (x : Addr) (L n i p : Nat) (steps : List Stp), vs = [.ref x, .int i, .int p] ∧ NetB CN H x L n steps ∧ (i, p) ∈ bends steps ∧
  ∀ H' l, Same H H' → LA RowR H' l (shows (rowsM (lets L) n) steps (i, p)) → Q (.ref l) H'
theorem cal_shown_of (T : Txt w K mg CN CT dS) : Cal P w K mg base "shown_of" ["net", "index", "place"] 11 (sp_shown_of CN) := by
  have g_all_ins := cal_all_ins (P := P) (base := base) T
  have g_bent_of := cal_bent_of (P := P) (base := base) T
  have g_run_of := cal_run_of (P := P) (base := base) T
  refine cal_mk T.f_shown_of (fun F => F.ok sc_shown_of (fun vs H Q E h => ?_) (fun cdv A outer s H vs Q E hr h => ?_)) (fun F => F.binds fun _ _ _ _ _ _ us hl => match us, hl with | [_, _, _], _ => rfl)
  · obtain ⟨x, L, n, i, p, steps, rfl, _⟩ := h
    rfl
  obtain ⟨x, L, n, i, p, steps, rfl, nb, hb, q⟩ := h
  refine ⟨_, (pss_cons (ps_set (i := 3) sc_shown_of.nd rfl (Or.inr rfl) (pe_fn g_bent_of (hr.mono (by decide)) (by rfl) (pa_cons (pv 0) (pa_cons (pv 1) (pa_cons (pv 2) pa_nil)))))
      (pss_one (ps_ret (pe_lc (own := [("row", 4)]) (g := gName 4) rfl sc_shown_of.nd (pi_list (pe_fn g_all_ins (hr.mono (by decide)) (by rfl) (pa_cons (pv 0) pa_nil))) (blkOk_by (N := n_shown_of) (sc := defScope s_shown_of) (by decide +kernel)) (fun _ _ _ _ _ => (pg_name (i := 4) sc_shown_of.nd rfl (Or.inl rfl))) (fun _ _ _ _ _ => pts_one (pt_cmpR (r := rNeD K) (op_neD hr.units) (pe_fn g_run_of (hr.mono (by decide)) (by rfl) (pa_cons (pv 0) (pa_cons (pv 4) pa_nil))) (pe_fn g_run_of (hr.mono (by decide)) (by rfl) (pa_cons (pv 3) (pa_cons (pv 4) pa_nil))) (nomark _))) (fun _ _ _ _ _ => (pv 4)))))), ?_⟩
  refine ⟨_, rfl, _, rfl, _, rfl, x, L, n, i, p, steps, rfl, nb.net, hb, nb.ok, nb.L1, nb.L2, nb.n1, Nat.le_trans nb.n2 (by decide), nb.sz, fun H1 y ol s1 _ _ no => ?_⟩
  have nb2 := nb.bent hb no
  refine ⟨_, rfl, x, L, n, steps, rfl, (nb.same s1).net, nb.L2, nb.n2, fun H2 l s2 ⟨vs, e2, p2⟩ => ?_⟩
  have nb2 := nb2.same s2
  have nb1 := nb.same (s1.trans s2)
  have rl := rowsM_len_le (n := n) (lets_len4 nb.L2) nb.n2
  refine ⟨l, rfl, ⟨_, SqL.of e2⟩, fun D hD => ?_⟩
  refine lcW walk_list row_mono (fun j => shows ((rowsM (lets L) n).take j) steps (i, p)) hD rfl (fun j hj => Nat.lt_of_le_of_lt (List.length_filter_le _ _) (by rw [List.length_take]; omega)) (fun _ s => SqL.of (s _ _ e2)) ?_ ?_
  · rintro j z H3 H3' hj s3 ⟨rfl, hx⟩ Ny Nn hNy hNn
    obtain ⟨r, hr, a, rfl, ha⟩ := pgetL p2 hx
    have rlen := (rowsM_row (List.mem_of_getElem? hr)).1
    have b1 := nb1.same s3
    have b2 := nb2.same s3
    have fe := filter_one_more (fun r => !decide (run steps r = run (bent steps i p) r)) hr
    refine ⟨rfl, _, rfl, _, rfl, x, a, L, n, steps, r, rfl, b1.net, s3 _ _ ha, rlen, b1.ok, b1.n1, Nat.le_trans nb.n2 (by decide), b1.sz, fun H4 t1 s4 e4 => ?_⟩
    have b2 := b2.same s4
    refine ⟨_, rfl, _, rfl, y, a, L, n, _, r, rfl, b2.net, s4 _ _ (s3 _ _ ha), rlen, b2.ok, b2.n1, Nat.le_trans nb.n2 (by decide), b2.sz, fun H5 t2 s5 e5 => ?_⟩
    refine ⟨rowD (run steps r), rowD (run (bent steps i p) r), dpRow ⟨t1, rfl, s5 _ _ e4⟩, dpRow ⟨t2, rfl, e5⟩, rowD_sh _, rowD_sh _, ?_⟩
    rw [rowD_eqv]
    by_cases h : run steps r = run (bent steps i p) r
    · rw [decide_eq_true h]
      refine ⟨false, rfl, iteF (hNn _ (s4.trans s5) ?_)⟩
      show (List.filter _ _) = List.filter _ _
      rw [fe, if_neg (by simp [h]), List.append_nil]
    · rw [decide_eq_false h]
      refine ⟨true, rfl, iteT ⟨_, rfl, hNy _ _ r (s4.trans s5) ⟨a, rfl, s5 _ _ (s4 _ _ (s3 _ _ ha))⟩ ?_⟩⟩
      show (List.filter _ _) = List.filter _ _ ++ _
      rw [fe, if_pos (by simp [h])]
  · intro H3 ws s3 hw pw
    rw [Paired.length p2, List.take_length] at pw
    exact q H3 D ((s1.trans s2).trans s3) ⟨_, hw, pw⟩
def noHarm (rows : List (List Int)) (steps : List Stp) (b : Nat × Nat) : Bool := decide ((shows rows steps b).length = 0)
def sp_harmless (CN : Addr) : Sp := fun vs H Q _ => ∃ (x : Addr) (L n : Nat) (steps : List Stp), vs = [.ref x] ∧ NetB CN H x L n steps ∧
  ∀ H' l, Same H H' → LA IPR H' l ((bends steps).filter (noHarm (rowsM (lets L) n) steps)) → Q (.ref l) H'
theorem cal_harmless (T : Txt w K mg CN CT dS) : Cal P w K mg base "harmless" ["net"] 12 (sp_harmless CN) := by
  have g_all_ins := cal_all_ins (P := P) (base := base) T
  have g_bends_of := cal_bends_of (P := P) (base := base) T
  have g_shown_of := cal_shown_of (P := P) (base := base) T
  refine cal_mk T.f_harmless (fun F => F.ok sc_harmless (fun vs H Q E h => ?_) (fun cdv A outer s H vs Q E hr h => ?_)) (fun F => F.binds fun _ _ _ _ _ _ us hl => match us, hl with | [_], _ => rfl)
  · obtain ⟨x, L, n, steps, rfl, _⟩ := h
    rfl
  obtain ⟨x, L, n, steps, rfl, nb, q⟩ := h
  refine ⟨_, (pss_cons (ps_expr (pe_fn g_all_ins (hr.mono (by decide)) (by rfl) (pa_cons (pv 0) pa_nil)))
      (pss_one (ps_ret (pe_lc (own := [("index", 1), ("place", 2)]) (g := gTup K 2 ((gCons (gName 1) (gCons (gName 2) gNil)))) rfl sc_harmless.nd (pi_list (pe_fn g_bends_of (hr.mono (by decide)) (by rfl) (pa_cons (pv 0) pa_nil))) (blkOk_by (N := n_harmless) (sc := defScope s_harmless) (by decide +kernel)) (fun _ _ _ _ _ => pg_tup rfl (pgs_cons (pg_name (i := 1) sc_harmless.nd rfl (Or.inl rfl)) (pgs_cons (pg_name (i := 2) sc_harmless.nd rfl (Or.inl rfl)) pgs_nil))) (fun _ _ _ _ _ => pts_one (pt_cmpR op_eq (pe_callB (r := rLenQ K) call_lenQ (by rfl) T.len (by decide +kernel) (pa_cons (pe_fn g_shown_of (hr.mono (by decide)) (by rfl) (pa_cons (pv 0) (pa_cons (pv 1) (pa_cons (pv 2) pa_nil)))) pa_nil)) pe_int (nomark _))) (fun _ _ _ _ _ => (pe_tup (pa_cons (pv 1) (pa_cons (pv 2) pa_nil)))))))), ?_⟩
  refine ⟨_, rfl, x, L, n, steps, rfl, nb.net, nb.L2, nb.n2, fun H1 l1 s1 _ => ?_⟩
  have nb1 := nb.same s1
  refine ⟨_, rfl, x, L, n, steps, rfl, nb1.net, nb1.ok, nb1.sz, fun H2 l s2 _ ⟨vs, e2, p2⟩ => ?_⟩
  have nb2 := nb1.same s2
  have bl : (bends steps).length ≤ 3000 := by
    have hw3 : ∀ s ∈ steps, ∀ k w p o, s = Stp.chs k w p o → w ≤ 3 := by
      rintro s hs k w p o rfl
      obtain ⟨i, hi⟩ := List.getElem?_of_mem hs
      have := (okSteps_at nb.ok hi).1
      omega
    have := bends_bound steps 0 hw3
    have := nb.sz
    show (bendsFrom 0 _).length ≤ _
    omega
  refine ⟨l, rfl, ⟨_, SqL.of e2⟩, fun D hD => ?_⟩
  refine lcW walk_list ip_mono (fun j => ((bends steps).take j).filter (noHarm (rowsM (lets L) n) steps)) hD rfl (fun j hj => Nat.lt_of_le_of_lt (List.length_filter_le _ _) (by rw [List.length_take]; omega)) (fun _ s => SqL.of (s _ _ e2)) ?_ ?_
  · rintro j z H3 H3' hj s3 ⟨rfl, hx⟩ Ny Nn hNy hNn
    obtain ⟨⟨i, p⟩, hr, a, rfl, ha⟩ := pgetL p2 hx
    have fe := filter_one_more (noHarm (rowsM (lets L) n) steps) hr
    refine ⟨a, _, rfl, SqT.of (s3 _ _ ha), rfl, _, _, rfl, _, _, rfl, rfl, rfl, ?_⟩
    refine ⟨_, rfl, _, rfl, _, rfl, x, L, n, i, p, steps, rfl, nb2.same s3, List.mem_of_getElem? hr, fun H4 l4 s4 ⟨us, e4, p4⟩ => ?_⟩
    refine ⟨l4, us, rfl, .inl (SqL.of e4), rfl, _, rfl, ?_⟩
    have ue : us.length = (shows (rowsM (lets L) n) steps (i, p)).length := Paired.length p4
    by_cases h : (shows (rowsM (lets L) n) steps (i, p)).length = 0
    · refine iteD (by rw [ue, h]; rfl) ⟨_, rfl, _, rfl, by show 2 ≤ sizeLine; decide, fun t ht => hNy _ _ (i, p) (s4.trans (same_new ht)) ⟨t, rfl, upd_same⟩ ?_⟩
      rw [fe, if_pos (show noHarm _ _ _ = true from decide_eq_true h)]
    · refine iteDF (by intro z; injection z with z; exact h (by rw [← ue]; omega)) (hNn _ s4 ?_)
      rw [fe, if_neg (show ¬ noHarm _ _ _ = true from fun z => h (of_decide_eq_true z)), List.append_nil]
  · intro H3 ws s3 hw pw
    rw [Paired.length p2, List.take_length] at pw
    exact q H3 D ((s1.trans s2).trans s3) ⟨_, hw, pw⟩
end
end Fv
namespace Fv
open PySem L2
/-! ### tables as keys -/
def rowN (r : List Int) : NestedKey := .tup (r.map NestedKey.num)
def tblN (t : List (List Int)) : NestedKey := .tup (t.map rowN)
theorem depNums : ∀ r : List Int, NestedKey.depthAll (r.map NestedKey.num) ≤ 1
  | [] => by simp [NestedKey.depthAll]
  | n :: r => by
    have := depNums r
    simp only [List.map_cons, NestedKey.depthAll, NestedKey.depth]
    omega
theorem rowN_dep (r : List Int) : (rowN r).depth ≤ 2 := by
  have := depNums r
  simp only [rowN, NestedKey.depth]; omega
theorem depRowN : ∀ t : List (List Int), NestedKey.depthAll (t.map rowN) ≤ 2
  | [] => by simp [NestedKey.depthAll]
  | n :: r => by
    have := depRowN r
    have := rowN_dep n
    simp only [List.map_cons, NestedKey.depthAll]
    omega
theorem tblN_dep (t : List (List Int)) : (tblN t).depth ≤ 8 := by
  have := depRowN t
  simp only [tblN, NestedKey.depth]; omega
theorem map_inj {α β : Type} {f : α → β} (hf : ∀ a b, f a = f b → a = b) : ∀ {a b : List α}, a.map f = b.map f → a = b
  | [], [], _ => rfl
  | [], _ :: _, h => by simp at h
  | _ :: _, [], h => by simp at h
  | x :: a, y :: b, h => by
    simp only [List.map_cons, List.cons.injEq] at h
    rw [hf x y h.1, map_inj hf h.2]
theorem rowN_inj (a b : List Int) (h : rowN a = rowN b) : a = b := by
  unfold rowN at h
  injection h with h
  exact map_inj (fun x y e => by injection e) h
theorem tblN_inj (a b : List (List Int)) (h : tblN a = tblN b) : a = b := by
  unfold tblN at h
  injection h with h
  exact map_inj rowN_inj h
theorem nvNums {H : Hp} : ∀ r : List Int, NVs H (r.map NestedKey.num) (r.map V.int)
  | [] => by simp [NVs]
  | x :: r => by
    rw [List.map_cons, List.map_cons]
    unfold NVs
    exact ⟨_, _, rfl, by simp [NV], nvNums r⟩
theorem nvRow {H : Hp} {v : V} {r : List Int} (h : RowR H v r) : NV H (rowN r) v := by
  obtain ⟨a, rfl, h⟩ := h
  unfold rowN NV
  exact ⟨a, _, rfl, h, nvNums r⟩
theorem nvRows {H : Hp} : ∀ {vs : List V} {t : List (List Int)}, Paired (RowR H) vs t → NVs H (t.map rowN) vs
  | _, _, .nil => by simp [NVs]
  | _, _, .cons h t => by
    rw [List.map_cons]
    unfold NVs
    exact ⟨_, _, rfl, nvRow h, nvRows t⟩
theorem nvOut {H : Hp} {v : V} {t : List (List Int)} (h : OutR H v t) : NV H (tblN t) v := by
  obtain ⟨a, vs, rfl, h, p⟩ := h
  unfold tblN NV
  exact ⟨a, _, rfl, h, nvRows p⟩
/-- the dict of the unlike tables -/
structure TD (P : Program) (w : World) (H : Hp) (d : Addr) (es : List NE) (ts : List Tbl) : Prop where
  at_ : H d = some (DNO P w d es)
  ky : es.map (·.1) = ts.map tblN
  ad : Paired (OutR H) (es.map fun e => V.ref e.2.1) ts
theorem td_keys {H : Hp} : ∀ {es : List NE} {ts : List Tbl}, es.map (·.1) = ts.map tblN → Paired (OutR H) (es.map fun e => V.ref e.2.1) ts → ∀ e ∈ es, NV H e.1 (.ref e.2.1) ∧ e.1.depth ≤ 8
  | [], _, _, _, _, h => nomatch h
  | e :: es, [], k, _, _, _ => by simp at k
  | e :: es, t :: ts, k, .cons h p, e', he => by
    simp only [List.map_cons, List.cons.injEq] at k
    rcases List.mem_cons.mp he with rfl | he
    · rw [k.1]
      exact ⟨nvOut h, tblN_dep t⟩
    · exact td_keys k.2 p e' he
theorem TD.dn {P : Program} {w : World} {H : Hp} {d : Addr} {es : List NE} {ts : List Tbl} (h : TD P w H d es ts) : DN P w H d es := ⟨h.at_, td_keys h.ky h.ad⟩
theorem td_len {es : List NE} {ts : List Tbl} (k : es.map (·.1) = ts.map tblN) : es.length = ts.length := by
  have := congrArg List.length k
  rwa [List.length_map, List.length_map] at this
theorem valN_mem : ∀ {es : List NE} {ts : List Tbl} {t : Tbl}, es.map (·.1) = ts.map tblN → ((valN es (tblN t)).isSome = true ↔ t ∈ ts)
  | [], [], t, _ => by simp [valN]
  | [], _ :: _, t, k => by simp at k
  | e :: es, [], t, k => by simp at k
  | e :: es, u :: ts, t, k => by
    simp only [List.map_cons, List.cons.injEq] at k
    have ih := valN_mem (t := t) k.2
    unfold valN at ih ⊢
    rw [List.find?_cons, k.1]
    by_cases q : u = t
    · subst q
      simp
    · have : ¬ tblN u = tblN t := fun z => q (tblN_inj _ _ z)
      simp only [decide_eq_false this]
      rw [ih, List.mem_cons]
      exact ⟨.inr, fun z => z.elim (fun z => absurd z.symm q) id⟩
theorem put_mapS {es : List NE} {k : NestedKey} {v : Bool} : (es.map fun x => if x.1 = k then (x.1, x.2.1, v) else x).map (·.1) = es.map (·.1) ∧ ((es.map fun x => if x.1 = k then (x.1, x.2.1, v) else x).map fun e => V.ref e.2.1) = es.map fun e => V.ref e.2.1 := by
  constructor
  · rw [List.map_map]
    refine List.map_congr_left fun x _ => ?_
    show (if x.1 = k then (x.1, x.2.1, v) else x).1 = x.1
    split <;> rfl
  · rw [List.map_map]
    refine List.map_congr_left fun x _ => ?_
    show V.ref (if x.1 = k then (x.1, x.2.1, v) else x).2.1 = V.ref x.2.1
    split <;> rfl
theorem TD.put {P : Program} {w : World} {H : Hp} {d b : Addr} {es : List NE} {ts : List Tbl} {t : Tbl} {v : Bool} (h : TD P w H d es ts) (ob : OutR H (.ref b) t) :
    TD P w (upd H d (DNO P w d (putN es (tblN t) b v))) d (putN es (tblN t) b v) (adj ts t) := by
  have ts0 : TS H (upd H d (DNO P w d (putN es (tblN t) b v))) := TS.upd (by rw [h.at_]; trivial)
  have m := valN_mem (t := t) h.ky
  refine ⟨upd_same, ?_, ?_⟩
  · unfold putN adj
    by_cases q : t ∈ ts
    · rw [if_pos (m.mpr q), if_pos q, put_mapS.1]
      exact h.ky
    · rw [if_neg (fun z => q (m.mp z)), if_neg q, List.map_append, List.map_append, h.ky]
      rfl
  · refine out_mono.all ts0 ?_
    unfold putN adj
    by_cases q : t ∈ ts
    · rw [if_pos (m.mpr q), if_pos q, put_mapS.2]
      exact h.ad
    · rw [if_neg (fun z => q (m.mp z)), if_neg q, List.map_append]
      exact Paired.snoc h.ad ob
theorem TD.same {P : Program} {w : World} {H H' : Hp} {d : Addr} {es : List NE} {ts : List Tbl} (h : TD P w H d es ts) (s : Same H H') : TD P w H' d es ts := ⟨s _ _ h.at_, h.ky, out_mono.all (.of s) h.ad⟩
/-! ### the teller -/
def tf (oa : Addr) (R : Nat) (ka : Addr) : List (Str × V) := putF "known" (.ref ka) (putF "rows" (.int R) (putF "outs" (.ref oa) []))
theorem tf1 {oa ka : Addr} {R : Nat} : (tf oa R ka).lookup ("outs" : Str) = some (.ref oa) := by
  unfold tf
  rw [lookup_putF, if_neg (by decide +kernel), lookup_putF, if_neg (by decide +kernel), lookup_putF, if_pos rfl]
theorem tf2 {oa ka : Addr} {R : Nat} : (tf oa R ka).lookup ("rows" : Str) = some (.int R) := by
  unfold tf
  rw [lookup_putF, if_neg (by decide +kernel), lookup_putF, if_pos rfl]
theorem tf3 {oa ka : Addr} {R : Nat} : (tf oa R ka).lookup ("known" : Str) = some (.ref ka) := by
  unfold tf
  rw [lookup_putF, if_pos rfl]
theorem tf_parts {oa ka : Addr} {R : Nat} : (tf oa R ka).lookup ("parts" : Str) = none := by
  unfold tf
  rw [lookup_putF, if_neg (by decide +kernel), lookup_putF, if_neg (by decide +kernel), lookup_putF, if_neg (by decide +kernel)]
  rfl
theorem tf_fewest {oa ka : Addr} {R : Nat} : (tf oa R ka).lookup ("fewest" : Str) = none := by
  unfold tf
  rw [lookup_putF, if_neg (by decide +kernel), lookup_putF, if_neg (by decide +kernel), lookup_putF, if_neg (by decide +kernel)]
  rfl
def NetR (CN : Addr) (L n : Nat) : Rl (List Stp) := fun H v st => ∃ y, v = .ref y ∧ NetB CN H y L n st
section
variable {P : Program} {w : World} {K : PySem.W.Frag} {mg : Str → Option Value} {base : Heap} {CN CT dS : Addr}
def sp_Teller_init (CN CT : Addr) : Sp := fun vs H Q _ => ∃ (x dx ln lr : Addr) (nv : List V) (nts : List (List Stp)) (rows : List (List Int)) (L n : Nat), vs = [.ref x, .ref ln, .ref lr] ∧ H x = some (.ins CT dx []) ∧ H ln = some (.lst nv) ∧ Paired (NetR CN L n H) nv nts ∧ LA RowR H lr rows ∧
  (∀ r ∈ rows, r.length = n) ∧ rows.length ≤ 1024 ∧ nts.length ≤ 100 ∧
  ∀ H' oa ka, H oa = none → H ka = none → oa ≠ ka → But x H H' → H' x = some (.ins CT dx (tf oa rows.length ka)) → LA OutR H' oa (dedup (nts.map (tbl rows))) → H' ka = some (.dT []) → Q .non H'
theorem cal_Teller_init (T : Txt w K mg CN CT dS) : CalC P w K mg base "Teller" CT ["self", "nets", "rows"] 8 (sp_Teller_init CN CT) := by
  have g_run_of := cal_run_of (P := P) (base := base) T
  refine calC_mk T.iT T.mgT (fun F => F.ok sc_Teller_init (fun vs H Q E h => ?_) (fun cdv A outer s H vs Q E hr h => ?_)) (fun F => F.binds fun _ _ _ _ _ _ us hl => match us, hl with | [_, _, _], _ => rfl)
  · obtain ⟨x, dx, ln, lr, nv, nts, rows, L, n, rfl, _⟩ := h
    rfl
  obtain ⟨x, dx, ln, lr, nv, nts, rows, L, n, rfl, hx, hn, pn, ⟨rv, hr', pr⟩, hrl, hrz, hnz, q⟩ := h
  refine ⟨_, (pss_cons (ps_set (i := 3) sc_Teller_init.nd rfl (Or.inl rfl) pe_dnewN)
      (pss_cons (ps_for PassesOwn.never rfl (pi_list (pv 1)) (pg_name (i := 4) sc_Teller_init.nd rfl (Or.inr rfl)) 
        (pss_one (ps_nput hr.units (pv 3) (pe_callTy (r := rTupQ K) call_tupQ (by rfl) T.tuple_ (by decide +kernel) (pa_cons (pe_lc (own := [("row", 5)]) (g := gName 5) rfl sc_Teller_init.nd (pi_list (pv 2)) (blkOk_by (N := n_Teller_init) (sc := defScope s_Teller_init) (by decide +kernel)) (fun _ _ _ _ _ => (pg_name (i := 5) sc_Teller_init.nd rfl (Or.inl rfl))) (fun _ _ _ _ _ => pts_nil) (fun _ _ _ _ _ => (pe_fn g_run_of (hr.mono (by decide)) (by rfl) (pa_cons (pv 4) (pa_cons (pv 5) pa_nil))))) pa_nil)) pe_bl rfl)))
      (pss_cons (ps_fld (pv 0) (pe_callTy (call_listN rfl) (by rfl) T.list_ (by decide +kernel) (pa_cons (pv 3) pa_nil)) rfl)
      (pss_cons (ps_fld (pv 0) (pe_callB (r := rLenQ K) call_lenQ (by rfl) T.len (by decide +kernel) (pa_cons (pv 2) pa_nil)) rfl)
      (pss_one (ps_fld (pv 0) pe_dnewT rfl)))))), ?_⟩
  intro d hd
  have s0 := same_new (o := DNO P w d []) hd
  have nl : nv.length = nts.length := Paired.length pn
  have rl : rv.length = rows.length := Paired.length pr
  refine ⟨_, rfl, ln, rfl, ⟨_, SqL.of (s0 _ _ hn)⟩, ?_⟩
  refine for_it walk_list (fun i σ H1 => ∃ (v4 v5 : Option V) (es : List NE), σ = [some (.ref x), some (.ref ln), some (.ref lr), some (.ref d), v4, v5] ∧ Same H H1 ∧ TD P w H1 d es (dedup ((nts.take i).map (tbl rows)))) ⟨_, _, [], rfl, s0, ⟨upd_same, rfl, .nil⟩⟩ (fun i σ H1 _ ⟨_, _, _, _, s1, _⟩ => SqL.of (s1 _ _ hn)) ?_ ?_
  · rintro i z σ H1 H1' hi ⟨v4, v5, es, rfl, s1, td⟩ ⟨rfl, hz⟩
    obtain ⟨st, hst, y, rfl, nb⟩ := pgetL pn hz
    have tk : nts.take (i + 1) = nts.take i ++ [st] := take_one_more hst
    refine ⟨_, rfl, _, rfl, lr, rfl, ⟨_, SqL.of (s1 _ _ hr')⟩, fun D hD => ?_⟩
    refine lcY walk_list row_mono (fun j => (rows.take j).map (run st)) hD rfl (fun j hj => by rw [List.length_map, List.length_take]; omega) (fun _ s => SqL.of (s _ _ (s1 _ _ hr'))) ?_ mono_name ?_
    · rintro j z H2 H2' hj s2 ⟨rfl, hz⟩ Ny hNy
      obtain ⟨r, hr0, a, rfl, ha⟩ := pgetL pr hz
      have nb2 := nb.same (s1.trans s2)
      refine ⟨rfl, _, rfl, _, rfl, y, a, L, n, st, r, rfl, nb2.net, s2 _ _ (s1 _ _ ha), hrl r (List.mem_of_getElem? hr0), nb2.ok, nb2.n1, Nat.le_trans nb2.n2 (by decide), nb2.sz, fun H3 p s3 e3 => hNy _ _ (run st r) s3 ⟨p, rfl, e3⟩ ?_⟩
      show (rows.take (j + 1)).map _ = (rows.take j).map _ ++ _
      rw [take_one_more hr0, List.map_append]
      rfl
    · intro H2 ws s2 hw pw
      have pw : Paired (RowR H2) ws (tbl rows st) := by
        rw [rl, List.take_length] at pw; exact pw
      refine ⟨D, ws, rfl, SqL.of hw, fun b hb => ?_⟩
      have s3 := s2.trans (same_new (o := .tup ws) hb)
      have td3 := td.same s3
      have ob : OutR (upd H2 b (.tup ws)) (.ref b) (tbl rows st) := ⟨b, ws, rfl, upd_same, row_mono.all (.of (same_new hb)) pw⟩
      have el : es.length ≤ 100 := by
        rw [td_len td.ky]
        refine Nat.le_trans (dedup_le _) ?_
        rw [List.length_map, List.length_take]
        omega
      refine ⟨tblN (tbl rows st), b, d, es, true, rfl, rfl, rfl, nvOut ob, tblN_dep _, td3.dn, sz1000' (by omega), _, _, putN es (tblN (tbl rows st)) b true, rfl, same_mut (s1.trans s3) hd, ?_⟩
      rw [tk, List.map_append, List.map_cons, List.map_nil, dedup_snoc]
      exact td3.put ob
  · rintro σ H1 ⟨v4, v5, es, rfl, s1, td⟩
    rw [nl, List.take_length] at td
    refine ⟨_, rfl, d, es, rfl, td.dn, fun oa hoa => ?_⟩
    have nxo : oa ≠ x := (ne_of_none (s1 _ _ hx) hoa).symm
    refine ⟨_, rfl, x, CT, dx, [], rfl, by rw [upd_ne nxo.symm]; exact s1 _ _ hx, T.clT, T.aT1, by show 0 < 1000; decide, ?_⟩
    have nlx : lr ≠ x := fun e => by rw [e, hx] at hr'; cases hr'
    have nlo : lr ≠ oa := ne_of_none (s1 _ _ hr') hoa
    refine ⟨_, rfl, lr, rv, rfl, .inl (SqL.of (by rw [upd_ne nlx, upd_ne nlo]; exact s1 _ _ hr')), _, rfl, x, CT, dx, _, rfl, upd_same, T.clT, T.aT2, Nat.lt_of_le_of_lt (putF_small _ _ _ (Nat.le_refl 0)) (by decide), ?_⟩
    intro ka hka
    have nkx : ka ≠ x := fun e => by rw [e, upd_same] at hka; cases hka
    rw [upd_ne nkx, upd_ne nkx] at hka
    have nko : ka ≠ oa := fun e => by rw [e, upd_same] at hka; cases hka
    rw [upd_ne nko] at hka
    refine ⟨_, rfl, x, CT, dx, _, rfl, by rw [upd_ne nkx.symm, upd_same], T.clT, T.aT3, Nat.lt_of_le_of_lt (putF_small _ _ _ (putF_small _ _ _ (Nat.le_refl 0))) (by decide), ?_⟩
    rw [rl]
    have b1 : But x H (upd H1 oa (.lst (es.map fun e => V.ref e.2.1))) := But.of (s1.trans (same_new hoa))
    have bb := fun (o1 o2 o3 : HO) => ((b1.trans (But.upd (o := o1))).trans (But.upd (o := o2))).mut (H' := H) (o := .dT []) (s1.free hka) |>.trans (But.upd (o := o3))
    refine q _ oa ka (s1.free hoa) (s1.free hka) nko.symm (bb _ _ _) upd_same ⟨es.map fun e => V.ref e.2.1, ?_, ?_⟩ ?_
    · rw [upd_ne nxo, upd_ne nko.symm, upd_ne nxo, upd_ne nxo, upd_same]
    · refine out_mono.all ?_ td.ad
      refine (TS.of (same_new hoa)).trans ((TS.upd ?_).trans ((TS.upd ?_).trans ((TS.upd ?_).trans (TS.upd ?_))))
      · rw [upd_ne nxo.symm, s1 _ _ hx]; trivial
      · rw [upd_same]; trivial
      · rw [upd_ne nkx, upd_ne nkx, upd_ne nko, hka]; trivial
      · rw [upd_ne nkx.symm, upd_same]; trivial
    · rw [upd_ne nkx, upd_same]
end
end Fv
namespace Fv
open PySem L2
theorem nodup_inj {α β : Type} {f : α → β} : ∀ {l : List α} {a b : α}, (l.map f).Nodup → a ∈ l → b ∈ l → f a = f b → a = b
  | x :: l, a, b, nd, ha, hb, e => by
    rw [List.map_cons, List.nodup_cons] at nd
    rcases List.mem_cons.mp ha with ea | ha2
    · rcases List.mem_cons.mp hb with eb | hb2
      · rw [ea, eb]
      · exact absurd (by rw [← ea, e]; exact List.mem_map.mpr ⟨b, hb2, rfl⟩) nd.1
    · rcases List.mem_cons.mp hb with eb | hb2
      · exact absurd (by rw [← eb, ← e]; exact List.mem_map.mpr ⟨a, ha2, rfl⟩) nd.1
      · exact nodup_inj nd.2 ha2 hb2 e
theorem cls_snoc {O : List Tbl} {r : Nat} {pre : List Int} {n : Int} {k : List Int} : cls O r (pre ++ [n]) k = cls O r pre k ++ (if out O n r = k then [n] else []) := by
  unfold cls
  rw [List.filter_append]
  congr 1
  by_cases h : out O n r = k <;> simp [h]
def fkv (es : List (List Int × Addr)) : List (List L2.Key × V) := es.map fun e => (rk e.1, V.ref e.2)
theorem fkv_some : ∀ {es : List (List Int × Addr)} {k : List Int} {v : V}, valV (fkv es) (rk k) = some v → ∃ e ∈ es, e.1 = k ∧ v = .ref e.2
  | [], k, v, h => by simp [fkv, valV] at h
  | e :: es, k, v, h => by
    unfold fkv valV at h
    rw [List.map_cons, List.find?_cons] at h
    by_cases q : e.1 = k
    · rw [decide_eq_true (by rw [q])] at h
      exact ⟨e, List.mem_cons_self, q, (Option.some.inj h).symm⟩
    · rw [decide_eq_false (fun z => q (rk_inj z))] at h
      obtain ⟨e', he, r⟩ := fkv_some (es := es) h
      exact ⟨e', List.mem_cons_of_mem _ he, r⟩
theorem fkv_none : ∀ {es : List (List Int × Addr)} {k : List Int}, valV (fkv es) (rk k) = none → k ∉ es.map (·.1)
  | [], k, _ => by simp
  | e :: es, k, h => by
    unfold fkv valV at h
    rw [List.map_cons, List.find?_cons] at h
    by_cases q : e.1 = k
    · rw [decide_eq_true (by rw [q])] at h
      cases h
    · rw [decide_eq_false (fun z => q (rk_inj z))] at h
      rw [List.map_cons, List.mem_cons]
      rintro (z | z)
      · exact q z.symm
      · exact fkv_none (es := es) h z
structure FndI (O : List Tbl) (r : Nat) (lot : List Int) (H0 H : Hp) (d : Addr) (es : List (List Int × Addr)) : Prop where
  hd : H d = some (.dT (fkv es))
  nk : (es.map (·.1)).Nodup
  na : (es.map (·.2)).Nodup
  mem : ∀ k, k ∈ es.map (·.1) ↔ ∃ n ∈ lot, out O n r = k
  ls : ∀ e ∈ es, H0 e.2 = none ∧ e.2 ≠ d ∧ H e.2 = some (.lst ((cls O r lot e.1).map V.int))
theorem FndI.same {O : List Tbl} {r : Nat} {lot : List Int} {H0 H H' : Hp} {d : Addr} {es : List (List Int × Addr)} (h : FndI O r lot H0 H d es) (s : Same H H') : FndI O r lot H0 H' d es :=
  ⟨s _ _ h.hd, h.nk, h.na, h.mem, fun e he => ⟨(h.ls e he).1, (h.ls e he).2.1, s _ _ (h.ls e he).2.2⟩⟩
theorem mem_snoc {O : List Tbl} {r : Nat} {lot : List Int} {n : Int} {k : List Int} : (∃ m ∈ lot ++ [n], out O m r = k) ↔ (∃ m ∈ lot, out O m r = k) ∨ out O n r = k := by
  constructor
  · rintro ⟨m, hm, e⟩
    rcases List.mem_append.mp hm with h | h
    · exact .inl ⟨m, h, e⟩
    · rw [List.mem_singleton] at h; subst h; exact .inr e
  · rintro (⟨m, hm, e⟩ | e)
    · exact ⟨m, List.mem_append_left _ hm, e⟩
    · exact ⟨n, List.mem_append_right _ List.mem_cons_self, e⟩
theorem FndI.old {O : List Tbl} {r : Nat} {lot : List Int} {H0 H : Hp} {d : Addr} {es : List (List Int × Addr)} {n : Int} {e : List Int × Addr} (h : FndI O r lot H0 H d es) (he : e ∈ es) (ek : e.1 = out O n r) :
    FndI O r (lot ++ [n]) H0 (upd H e.2 (.lst ((cls O r lot e.1).map V.int ++ [.int n]))) d es := by
  obtain ⟨l1, l2, l3⟩ := h.ls e he
  refine ⟨by rw [upd_ne l2.symm]; exact h.hd, h.nk, h.na, fun k => ?_, fun e' he' => ?_⟩
  · rw [mem_snoc, h.mem]
    exact ⟨.inl, fun z => z.elim id fun z => (h.mem k).mp (by rw [← z, ← ek]; exact List.mem_map.mpr ⟨e, he, rfl⟩)⟩
  · obtain ⟨m1, m2, m3⟩ := h.ls e' he'
    refine ⟨m1, m2, ?_⟩
    by_cases q : e'.2 = e.2
    · have : e' = e := nodup_inj h.na he' he q
      subst this
      rw [upd_same, cls_snoc, if_pos ek.symm, List.map_append]
      rfl
    · rw [upd_ne q, m3, cls_snoc, if_neg (fun z => q (by rw [nodup_inj h.nk he' he (by rw [ek, z])])), List.append_nil]
theorem FndI.new {O : List Tbl} {r : Nat} {lot : List Int} {H0 H : Hp} {d z : Addr} {es : List (List Int × Addr)} {n : Int} {k : List Int} (h : FndI O r lot H0 H d es) (hk : valV (fkv es) (rk k) = none) (ek : k = out O n r) (h0 : H0 z = none) (hz : H z = none) :
    FndI O r (lot ++ [n]) H0 (upd (upd (upd H z (.lst [])) d (.dT (putK (fkv es) (rk k) (.ref z)))) z (.lst ([] ++ [.int n]))) d (es ++ [(k, z)]) := by
  have nk := fkv_none hk
  have zd : d ≠ z := ne_of_none h.hd hz
  have zn : ∀ e ∈ es, e.2 ≠ z := fun e he => ne_of_none (h.ls e he).2.2 hz
  have nocls : cls O r lot k = [] := by
    unfold cls
    rw [List.filter_eq_nil_iff]
    intro m hm
    rw [decide_eq_true_eq]
    intro e
    exact nk ((h.mem k).mpr ⟨m, hm, e⟩)
  refine ⟨?_, ?_, ?_, fun j => ?_, fun e he => ?_⟩
  · rw [upd_ne zd, upd_same, putK_new _ hk]
    unfold fkv
    rw [List.map_append]
    rfl
  · rw [List.map_append, List.nodup_append]
    refine ⟨h.nk, by simp, fun a ha b hb e => ?_⟩
    rw [List.map_cons, List.map_nil, List.mem_singleton] at hb
    rw [e, hb] at ha
    exact nk ha
  · rw [List.map_append, List.nodup_append]
    refine ⟨h.na, by simp, fun a ha b hb e => ?_⟩
    rw [List.map_cons, List.map_nil, List.mem_singleton] at hb
    obtain ⟨e', he', rfl⟩ := List.mem_map.mp ha
    exact zn e' he' (by rw [e, hb])
  · rw [mem_snoc, ← h.mem, List.map_append, List.mem_append, List.map_cons, List.map_nil, List.mem_singleton, ← ek]
    exact ⟨fun q => q.elim .inl fun q => .inr q.symm, fun q => q.elim .inl fun q => .inr q.symm⟩
  · rcases List.mem_append.mp he with he | he
    · obtain ⟨m1, m2, m3⟩ := h.ls e he
      refine ⟨m1, m2, ?_⟩
      rw [upd_ne (zn e he), upd_ne m2, upd_ne (zn e he), m3, cls_snoc, if_neg (fun q => nk (by rw [ek, q]; exact List.mem_map.mpr ⟨e, he, rfl⟩)), List.append_nil]
    · rw [List.mem_singleton] at he
      subst he
      refine ⟨h0, zd.symm, ?_⟩
      rw [upd_same, cls_snoc, if_pos ek.symm, nocls]
      rfl
theorem FndI.len {O : List Tbl} {r : Nat} {lot : List Int} {H0 H : Hp} {d : Addr} {es : List (List Int × Addr)} (h : FndI O r lot H0 H d es) : es.length ≤ lot.length := by
  have hs : es.map (·.1) ⊆ lot.map fun n => out O n r := fun k hk => by
    obtain ⟨n, hn, e⟩ := (h.mem k).mp hk
    exact List.mem_map.mpr ⟨n, hn, e⟩
  have := sub_len h.nk hs
  rwa [List.length_map, List.length_map] at this
theorem out_at {O : List Tbl} {n : Int} {r : Nat} {t : Tbl} {k : List Int} (h0 : 0 ≤ n) (ht : O[n.toNat]? = some t) (hk : t[r]? = some k) : out O n r = k := by
  unfold out
  rw [List.getD_eq_getElem?_getD, List.getD_eq_getElem?_getD, ht]
  show (t[r]?).getD [] = k
  rw [hk]
  rfl
section
variable {P : Program} {w : World} {K : PySem.W.Frag} {mg : Str → Option Value} {base : Heap} {CN CT dS : Addr}
def sp_Teller_parts (CT : Addr) : Sp := fun vs H Q _ => ∃ (x dx a oa ka : Addr) (O : List Tbl) (R r : Nat) (lot : List Int), vs = [.ref x, .ref a, .int r] ∧ H x = some (.ins CT dx (tf oa R ka)) ∧ LA OutR H oa O ∧ H a = some (.tup (lot.map V.int)) ∧ Lot O lot ∧ r < R ∧ (∀ t ∈ O, t.length = R) ∧ lot.length ≤ 100 ∧
  ∀ H' l ps, Same H H' → LA RowR H' l ps → Parts O r lot ps → Q (.ref l) H'
theorem cal_Teller_parts (T : Txt w K mg CN CT dS) : CalM P w K mg base CT "parts" ["self", "left", "row"] 1 (sp_Teller_parts CT) := by
  refine calM_mk T.mT_parts (fun F => F.ok sc_Teller_parts (fun vs H Q E h => ?_) (fun cdv A outer s H vs Q E hr h => ?_)) (fun F => F.binds fun _ _ _ _ _ _ us hl => match us, hl with | [_, _, _], _ => rfl)
  · obtain ⟨x, dx, a, oa, ka, O, R, r, lot, rfl, _⟩ := h
    rfl
  obtain ⟨x, dx, a, oa, ka, O, R, r, lot, rfl, hx, ⟨ov, ho, po⟩, ha, hlot, hrR, hO, hz, q⟩ := h
  refine ⟨_, (pss_cons (ps_set (i := 3) sc_Teller_parts.nd rfl (Or.inl rfl) pe_dnewT)
      (pss_cons (ps_for PassesOwn.never rfl (pi_tup (pv 1)) (pg_name (i := 4) sc_Teller_parts.nd rfl (Or.inl rfl)) 
        (pss_one (ps_expr (pe_bm PySem.F.plainAttrs_list PySem.F.slot_list_append PySem.F.type_list_append mt_append (pe_dsetdT (hu_of hr) (pv 3) (pe_ix (r := rIxT K) ix_tup (pe_ix (r := rIxL K) ix_list (pe_fld (pv 0) rfl) (pv 4) (fun _ _ => rfl)) (pv 2) (fun _ _ => rfl)) (pe_lst pa_nil) ⟨rfl, rfl, rfl, rfl⟩) (pa_cons (pv 4) pa_nil)))))
      (pss_one (ps_ret (pe_lock (pe_lc (own := [("lot", 5)]) (g := gName 5) rfl sc_Teller_parts.nd (pi_valuesT (pv 3)) (blkOk_by (N := n_Teller_parts) (sc := defScope s_Teller_parts) (by decide +kernel)) (fun _ _ _ _ _ => (pg_name (i := 5) sc_Teller_parts.nd rfl (Or.inl rfl))) (fun _ _ _ _ _ => pts_nil) (fun _ _ _ _ _ => (pe_callTy (r := rTupQ K) call_tupQ (by rfl) T.tuple_ (by decide +kernel) (pa_cons (pv 5) pa_nil))))))))), ?_⟩
  intro d hd
  have s0 := same_new (o := .dT []) hd
  have ll : (lot.map V.int).length = lot.length := List.length_map _
  refine ⟨_, rfl, a, rfl, ⟨_, SqT.of (s0 _ _ ha)⟩, ?_⟩
  refine for_it walk_tup (fun i σ H1 => ∃ (v4 v5 : Option V) (es : List (List Int × Addr)), σ = [some (.ref x), some (.ref a), some (.int (r : Nat)), some (.ref d), v4, v5] ∧ Same H H1 ∧ FndI O r (lot.take i) H H1 d es) ⟨_, _, [], rfl, s0, ⟨upd_same, List.nodup_nil, List.nodup_nil, fun k => ?_, fun _ h => nomatch h⟩⟩ (fun i σ H1 _ ⟨_, _, _, _, s1, _⟩ => SqT.of (s1 _ _ ha)) ?_ ?_
  · simp
  · rintro i z σ H1 H1' hi ⟨v4, v5, es, rfl, s1, fi⟩ ⟨rfl, hz'⟩
    rw [List.getElem?_map] at hz'
    obtain ⟨n, hn, rfl⟩ := Option.map_eq_some_iff.mp hz'
    obtain ⟨n0, n1⟩ := hlot.ix n (List.mem_of_getElem? hn)
    have tk : lot.take (i + 1) = lot.take i ++ [n] := take_one_more hn
    have hlt : n.toNat < O.length := by omega
    have hot : O[n.toNat]? = some O[n.toNat] := List.getElem?_eq_getElem hlt
    obtain ⟨v, hv, b, rv, rfl, hb, pb⟩ := pget po hot
    have rlen : O[n.toNat].length = R := hO _ (List.getElem_mem hlt)
    have hrt : O[n.toNat][r]? = some (O[n.toNat][r]'(by omega)) := List.getElem?_eq_getElem _
    generalize (O[n.toNat][r]'(by omega)) = row0 at hrt
    obtain ⟨v2, hv2, c, rfl, hc⟩ := pget pb hrt
    have eo : out O n r = row0 := out_at n0 hot hrt
    refine ⟨_, rfl, d, rfl, .inr ⟨_, .inl fi.hd⟩, _, rfl, x, CT, dx, _, _, rfl, s1 _ _ hx, T.clT, T.aT1, tf1, _, rfl, oa, ov, n, _, rfl, rfl, SqL.of (s1 _ _ ho), atI_get n0 hv, _, rfl, b, rv, _, _, rfl, rfl, SqT.of (s1 _ _ hb), atI_nat hv2, ?_⟩
    refine ⟨Nat.zero_le _, fun z hz0 => ?_⟩
    have s2 := same_new (o := .lst []) hz0
    have fi2 := fi.same s2
    refine ⟨_, rk row0, c, fi2.hd, rfl, by rw [rk_kV]; exact s2 _ _ (s1 _ _ hc), ?_, fun v hv => ?_, fun hv => ?_⟩
    · show (List.map _ es).length < _
      have := fi.len
      rw [List.length_map]
      rw [List.length_take] at this
      exact sz1000' (by omega)
    · obtain ⟨e, he, ek, rfl⟩ := fkv_some hv
      obtain ⟨l1, l2, l3⟩ := fi2.ls e he
      refine ⟨.inl ⟨rfl, _, SqL.of l3⟩, _, rfl, e.2, _, _, rfl, rfl, l3, ?_, _, _, es, rfl, same_mut (s1.trans s2) l1, ?_⟩
      · rw [List.length_map]
        refine sz1000' (Nat.lt_of_le_of_lt (List.length_filter_le _ _) ?_)
        rw [List.length_take]; omega
      · rw [tk]
        exact fi2.old he (by rw [eo, ek])
    · have zd : d ≠ z := ne_of_none fi.hd hz0
      have hz3 : upd (upd H1' z (.lst [])) d (.dT (putK (fkv es) (rk row0) (.ref z))) z = some (.lst []) := by rw [upd_ne zd.symm, upd_same]
      refine ⟨.inl ⟨rfl, _, SqL.of hz3⟩, _, rfl, z, _, _, rfl, rfl, hz3, by show 0 < sizeLine; decide, _, _, es ++ [(row0, z)], rfl, ?_, ?_⟩
      · exact same_mut (same_mut (s1.trans s2) hd) (s1.free hz0)
      · rw [tk]
        exact fi.new hv eo.symm (s1.free hz0) hz0
  · rintro σ H1 ⟨v4, v5, es, rfl, s1, fi⟩
    rw [ll, List.take_length] at fi
    refine ⟨d, _, fi.hd, trivial, fun od => ?_⟩
    refine ⟨_, rfl, d, od, _, rfl, upd_same, fun D hD => ?_⟩
    have nDd : D ≠ d := fun e => by rw [e, upd_same] at hD; cases hD
    have fl : (fkv es).length = es.length := List.length_map _
    refine lcY walk_valuesT row_mono (fun j => (es.take j).map fun e => cls O r lot e.1) hD rfl (fun j hj => by rw [List.length_map, List.length_take]; have := fi.len; omega) (fun _ s => s _ _ upd_same) ?_ mono_name ?_
    · rintro j z H2 H2' hj s2 ⟨rfl, k, hk⟩ Ny hNy
      unfold fkv at hk
      rw [List.getElem?_map] at hk
      obtain ⟨e, he, e2⟩ := Option.map_eq_some_iff.mp hk
      cases e2
      obtain ⟨l1, l2, l3⟩ := fi.ls e (List.mem_of_getElem? he)
      have l4 : H2' e.2 = some (.lst ((cls O r lot e.1).map V.int)) := s2 _ _ (by rw [upd_ne l2]; exact l3)
      refine ⟨rfl, _, rfl, e.2, _, rfl, SqL.of l4, fun t ht => hNy _ _ (cls O r lot e.1) (same_new ht) ⟨t, rfl, upd_same⟩ ?_⟩
      show (es.take (j + 1)).map _ = (es.take j).map _ ++ _
      rw [take_one_more he, List.map_append]
      rfl
    · intro H2 ws s2 hw pw
      rw [fl, List.take_length] at pw
      have hd2 := s2 _ _ (upd_same (H := H1) (a := d) (o := .frz od (.dT (fkv es))))
      refine ⟨hd2, ?_⟩
      have sf : Same H (upd H2 d (.dT (fkv es))) := by
        intro b o e
        have nb : b ≠ d := ne_of_none e hd
        rw [upd_ne nb]
        exact s2 _ _ (by rw [upd_ne nb]; exact s1 _ _ e)
      refine q _ D _ sf ⟨ws, by rw [upd_ne nDd]; exact hw, Paired.mapP pw fun v r ⟨a, e, h⟩ => ⟨a, e, by rw [upd_ne (fun z => by rw [z, hd2] at h; cases h)]; exact h⟩⟩ ⟨es.map (·.1), fi.nk, fi.mem, ?_⟩
      rw [List.map_map]
      rfl
end
end Fv
namespace Fv
open PySem L2
/-! ### all lots of some -/
def subs : List Int → List (List Int)
  | [] => [[]]
  | x :: l => subs l ++ (subs l).map (x :: ·)
theorem subs_len : ∀ l, (subs l).length = 2 ^ l.length
  | [] => rfl
  | x :: l => by
    rw [subs, List.length_append, List.length_map, subs_len l, List.length_cons, Nat.pow_succ]
    omega
theorem mem_subs {a l : List Int} (h : a.Sublist l) : a ∈ subs l := by
  induction h with
  | slnil => exact List.mem_cons_self
  | cons x _ ih => exact List.mem_append_left _ ih
  | cons_cons x _ ih => exact List.mem_append_right _ (List.mem_map.mpr ⟨_, ih, rfl⟩)
theorem cls_sub {O : List Tbl} {r : Nat} {lot full : List Int} {k : List Int} (h : lot.Sublist full) : (cls O r lot k).Sublist full := List.filter_sublist.trans h
noncomputable def ml (O : List Tbl) (R : Nat) (lot : List Int) : Nat := (Classical.epsilon fun v : Nat => Least O R lot v)
theorem ml_spec {O : List Tbl} {R : Nat} {lot : List Int} {v : Nat} (h : Least O R lot v) : Least O R lot (ml O R lot) := Classical.epsilon_spec (p := fun v : Nat => Least O R lot v) ⟨v, h⟩
theorem ml_eq {O : List Tbl} {R : Nat} {lot : List Int} {v : Nat} (h : Least O R lot v) : v = ml O R lot := least_uniq h (ml_spec h)
/-- the least of those that can -/
theorem least_ex {O : List Tbl} {R : Nat} {lot : List Int} : ∀ {n : Nat}, Can O R n lot → ∃ v, Least O R lot v
  | 0, h => ⟨0, h, fun _ q => absurd q (Nat.not_lt_zero _)⟩
  | n + 1, h => by
    by_cases q : Can O R n lot
    · exact least_ex q
    · exact ⟨n + 1, h, fun j hj c => q (can_mono c (by omega))⟩
/-! ### what the teller knows -/
structure Known (O : List Tbl) (R : Nat) (full : List Int) (H : Hp) (ka : Addr) : Prop where
  ex : ∃ kvs : List (List L2.Key × V), H ka = some (.dT kvs) ∧ (kvs.map (·.1)).Nodup ∧ ∀ kv ∈ kvs, ∃ lot ∈ subs full, ∃ u : Nat, kv = (rk lot, V.int u) ∧ Least O R lot u
theorem known_len {O : List Tbl} {R : Nat} {full : List Int} {kvs : List (List L2.Key × V)} (hf : full.length ≤ 9) (nd : (kvs.map (·.1)).Nodup) (h : ∀ kv ∈ kvs, ∃ lot ∈ subs full, ∃ u : Nat, kv = (rk lot, V.int u) ∧ Least O R lot u) : kvs.length ≤ 512 := by
  have hs : kvs.map (·.1) ⊆ (subs full).map rk := fun k hk => by
    obtain ⟨kv, hkv, rfl⟩ := List.mem_map.mp hk
    obtain ⟨lot, hl, u, e, _⟩ := h kv hkv
    exact List.mem_map.mpr ⟨lot, hl, by rw [e]⟩
  have := sub_len nd hs
  rw [List.length_map, List.length_map, subs_len] at this
  have p : 2 ^ full.length ≤ 2 ^ 9 := Nat.pow_le_pow_right (by decide) hf
  omega
theorem valV_in {kvs : List (List L2.Key × V)} {k : List L2.Key} {v : V} (h : valV kvs k = some v) : (k, v) ∈ kvs := by
  unfold valV at h
  obtain ⟨kv, h1, h2⟩ := Option.map_eq_some_iff.mp h
  have m := List.mem_of_find?_eq_some h1
  have e := List.find?_some h1
  have e : kv.1 = k := of_decide_eq_true e
  rw [← e, ← h2]
  exact m
theorem putK_keys {kvs : List (List L2.Key × V)} {k : List L2.Key} {v : V} (nd : (kvs.map (·.1)).Nodup) : ((putK kvs k v).map (·.1)).Nodup := by
  unfold putK
  by_cases a : (kvs.any fun kv => decide (kv.1 = k)) = true
  · rw [if_pos a]
    have : (kvs.map fun kv => if kv.1 = k then (kv.1, v) else kv).map (·.1) = kvs.map (·.1) := by
      rw [List.map_map]
      refine List.map_congr_left fun x _ => ?_
      show (if x.1 = k then (x.1, v) else x).1 = x.1
      split <;> rfl
    rw [this]
    exact nd
  · rw [if_neg a, List.map_append, List.nodup_append]
    refine ⟨nd, by simp, fun x hx y hy e => ?_⟩
    rw [List.map_cons, List.map_nil, List.mem_singleton] at hy
    obtain ⟨kv, hkv, rfl⟩ := List.mem_map.mp hx
    exact a (List.any_eq_true.mpr ⟨kv, hkv, decide_eq_true (by rw [e, hy])⟩)
theorem putK_mem {kvs : List (List L2.Key × V)} {k : List L2.Key} {v : V} {x : List L2.Key × V} (h : x ∈ putK kvs k v) : x = (k, v) ∨ x ∈ kvs := by
  unfold putK at h
  by_cases a : (kvs.any fun kv => decide (kv.1 = k)) = true
  · rw [if_pos a] at h
    obtain ⟨y, hy, rfl⟩ := List.mem_map.mp h
    by_cases e : y.1 = k
    · left; rw [if_pos e, e]
    · right; rw [if_neg e]; exact hy
  · rw [if_neg a] at h
    rcases List.mem_append.mp h with h | h
    · exact .inr h
    · exact .inl (List.mem_singleton.mp h)
theorem known_put {O : List Tbl} {R : Nat} {full : List Int} {kvs : List (List L2.Key × V)} {lot : List Int} {u : Nat} (hl : lot.Sublist full) (nd : (kvs.map (·.1)).Nodup) (h : ∀ kv ∈ kvs, ∃ lot ∈ subs full, ∃ u : Nat, kv = (rk lot, V.int u) ∧ Least O R lot u) (q : Least O R lot u) {H : Hp} {ka : Addr} :
    Known O R full (upd H ka (.dT (putK kvs (rk lot) (.int u)))) ka :=
  ⟨_, upd_same, putK_keys nd, fun kv hkv => (putK_mem hkv).elim (fun e => ⟨lot, mem_subs hl, u, e, q⟩) (h kv)⟩
structure Tl (CT : Addr) (O : List Tbl) (R : Nat) (full : List Int) (H : Hp) (x oa ka dx : Addr) : Prop where
  hx : H x = some (.ins CT dx (tf oa R ka))
  ho : LA OutR H oa O
  kn : Known O R full H ka
theorem Tl.nt {CT : Addr} {O : List Tbl} {R : Nat} {full : List Int} {H : Hp} {x oa ka dx : Addr} (t : Tl CT O R full H x oa ka dx) : NT (H ka) ∧ x ≠ ka ∧ oa ≠ ka := by
  obtain ⟨kvs, h, _⟩ := t.kn.ex
  refine ⟨by rw [h]; trivial, fun e => ?_, fun e => ?_⟩
  · have := t.hx; rw [e, h] at this; cases this
  · obtain ⟨vs, h2, _⟩ := t.ho; rw [e, h] at h2; cases h2
theorem Tl.but {CT : Addr} {O : List Tbl} {R : Nat} {full : List Int} {H H' : Hp} {x oa ka dx : Addr} (t : Tl CT O R full H x oa ka dx) (b : But ka H H') (k : Known O R full H' ka) : Tl CT O R full H' x oa ka dx :=
  ⟨b _ _ t.nt.2.1 t.hx, t.ho.but out_mono b t.nt.1 t.nt.2.2, k⟩
theorem Known.same {O : List Tbl} {R : Nat} {full : List Int} {H H' : Hp} {ka : Addr} (k : Known O R full H ka) (s : Same H H') : Known O R full H' ka := let ⟨kvs, h, r⟩ := k.ex; ⟨kvs, s _ _ h, r⟩
/-- a comprehension whose turns may change one thing -/
theorem lcI {J : It} {n : Nat} {G : Hp → Prop} {Y : Nat → Hp → V → Hp → Prop} {β : Type} (w : Walk J n G Y) {g : TG} {te : TE} {vs : List Nat} {σ : L2.St} {H1 : Hp} {D : Addr} {Qd : Hp → Prop} (I : Hp → Prop) (toV : β → V) (acc : Nat → List β)
    (h0 : acc 0 = []) (hI0 : I (upd H1 D (.lst []))) (hI : ∀ H ws ws', I H → H D = some (.lst ws) → I (upd H D (.lst ws'))) (hG : ∀ H, I H → G H) (hz : ∀ i, i < n → (acc i).length < 100000)
    (hs : ∀ i x H H' ws, i < n → I H → H D = some (.lst ws) → Y i H x H' → ∀ (Ny : V → Hp → Prop), (∀ H4 z, I H4 → H4 D = some (.lst ws) → acc (i + 1) = acc i ++ [z] → Ny (toV z) H4) →
      g x (wipe σ vs) H' fun σ2 H2 => wipe σ2 vs = wipe σ vs ∧ te σ2 H2 Ny)
    (mono : ∀ x σ H Q Q', (∀ σ2 H2, Q σ2 H2 → Q' σ2 H2) → g x σ H Q → g x σ H Q')
    (hd : ∀ H, I H → H D = some (.lst ((acc n).map toV)) → Qd H) :
    ∃ W : Nat → Nat → Hp → Prop, (∃ m, W 0 m (upd H1 D (.lst []))) ∧ ∀ i m H, W i m H →
      (J.stop i H ∧ Qd H) ∨ (J.go i H ∧ ∃ Nx : Hp → Prop, (∀ H', Nx H' → ∃ m', m' < m ∧ W (i + 1) m' H') ∧ ∀ x H', J.yld i H x H' → g x (wipe σ vs) H' fun σ2 H2 => wipe σ2 vs = wipe σ vs ∧ tYes σ2 H2 fun b H3 =>
        if b = true then te σ2 H3 fun y H4 => ∃ acc, H4 D = some (.lst acc) ∧ acc.length < sizeLine ∧ Nx (upd H4 D (.lst (acc ++ [y]))) else Nx H3) := by
  refine lc_it w (fun i H => I H ∧ H D = some (.lst ((acc i).map toV))) ⟨hI0, by rw [upd_same, h0]; rfl⟩ (fun i H _ p => hG H p.1) ?_ (fun H p => hd H p.1 p.2)
  rintro i x H H' hi ⟨s, hl⟩ y
  refine mono _ _ _ _ _ (fun σ2 H2 q => ⟨q.1, ?_⟩) (hs i x H H' _ hi s hl y (fun y H4 => ∃ acc2, H4 D = some (.lst acc2) ∧ acc2.length < sizeLine ∧ I (upd H4 D (.lst (acc2 ++ [y]))) ∧ upd H4 D (.lst (acc2 ++ [y])) D = some (.lst ((acc (i + 1)).map toV))) fun H4 z s4 h4 e => ⟨_, h4, by rw [List.length_map]; exact sz1000' (hz i hi), hI _ _ _ s4 h4, by rw [upd_same, e, List.map_append]; rfl⟩)
  exact (show (if true = true then te σ2 H2 (fun y H4 => ∃ acc2, H4 D = some (.lst acc2) ∧ acc2.length < sizeLine ∧ I (upd H4 D (.lst (acc2 ++ [y]))) ∧ upd H4 D (.lst (acc2 ++ [y])) D = some (.lst ((acc (i + 1)).map toV))) else I H2 ∧ H2 D = some (.lst ((acc (i + 1)).map toV))) from iteT q.2)
def bv : Option Nat → V
  | none => .non
  | some v => .int v
section
variable {P : Program} {w : World} {K : PySem.W.Frag} {mg : Str → Option Value} {base : Heap} {CN CT dS : Addr}
def sp_Teller_fewest (CT : Addr) (m : Nat) : Sp := fun vs H Q _ => ∃ (x dx a oa ka : Addr) (O : List Tbl) (R : Nat) (full lot : List Int), vs = [.ref x, .ref a] ∧ Tl CT O R full H x oa ka dx ∧ H a = some (.tup (lot.map V.int)) ∧ Lot O lot ∧ lot.Sublist full ∧ full.length ≤ 9 ∧ lot.length ≤ m ∧
  O.Nodup ∧ (∀ t ∈ O, t.length = R) ∧ R ≤ 1024 ∧ ∀ H' (v : Nat), But ka H H' → Known O R full H' ka → Least O R lot v → Q (.int v) H'
theorem cal_Teller_fewest (T : Txt w K mg CN CT dS) : ∀ m, CalM P w K mg base CT "fewest" ["self", "left"] (m + 2) (sp_Teller_fewest CT m) := by
  intro m
  have g_Teller_parts := cal_Teller_parts (P := P) (base := base) T
  induction m with
  | zero =>
    refine calM_mk T.mT_fewest (fun F => F.ok sc_Teller_fewest (fun vs H Q E h => ?_) (fun cdv A outer s H vs Q E hr h => ?_)) (fun F => F.binds fun _ _ _ _ _ _ us hl => match us, hl with | [_, _], _ => rfl)
    · obtain ⟨x, dx, a, oa, ka, O, R, full, lot, rfl, _⟩ := h
      rfl
    · obtain ⟨x, dx, a, oa, ka, O, R, full, lot, rfl, t, ha, hl, _, _, hz, _⟩ := h
      exact absurd (List.length_eq_zero_iff.mp (Nat.le_zero.mp hz)) hl.ne
  | succ m g_Teller_fewest =>
    refine calM_mk T.mT_fewest (fun F => F.ok sc_Teller_fewest (fun vs H Q E h => ?_) (fun cdv A outer s H vs Q E hr h => ?_)) (fun F => F.binds fun _ _ _ _ _ _ us hl => match us, hl with | [_, _], _ => rfl)
    · obtain ⟨x, dx, a, oa, ka, O, R, full, lot, rfl, _⟩ := h
      rfl
    obtain ⟨x, dx, a, oa, ka, O, R, full, lot, rfl, tl, ha, hlot, hsub, hf, hz, hO, hR, hR2, q⟩ := h
    refine ⟨_, (pss_cons (ps_if (pt_cmpR op_eq (pe_callB (r := rLenQ K) call_lenQ (by rfl) T.len (by decide +kernel) (pa_cons (pv 1) pa_nil)) pe_int (nomark _)) 
        (pss_one (ps_ret pe_int)) pss_nil)
      (pss_cons (ps_if (pt_cmp (pc_dnotin (hu_of hr) (pv 1) (pe_fld (pv 0) rfl))) 
        (pss_cons (ps_set (i := 2) sc_Teller_fewest.nd rfl (Or.inl rfl) pe_non)
        (pss_cons (ps_for PassesOwn.never rfl (pi_range1 (by rfl) T.range (pa_cons (pe_fld (pv 0) rfl) pa_nil)) (pg_name (i := 3) sc_Teller_fewest.nd rfl (Or.inl rfl)) 
          (pss_cons (ps_set (i := 4) sc_Teller_fewest.nd rfl (Or.inl rfl) (pe_mt g_Teller_parts T.clT (hr.mono (by omega)) (pv 0) (pa_cons (pv 1) (pa_cons (pv 3) pa_nil))))
          (pss_one (ps_if (pt_cmpR op_gt (pe_callB (r := rLenQ K) call_lenQ (by rfl) T.len (by decide +kernel) (pa_cons (pv 4) pa_nil)) pe_int (nomark _)) 
            (pss_cons (ps_set (i := 5) sc_Teller_fewest.nd rfl (Or.inl rfl) (pe_op op_add pe_int (pe_callB (r := rMax K) (cr_max rfl) (by rfl) T.max (by decide +kernel) (pa_cons (pe_lc (own := [("lot", 6)]) (g := gName 6) rfl sc_Teller_fewest.nd (pi_list (pv 4)) (blkOk_by (N := n_Teller_fewest) (sc := defScope s_Teller_fewest) (by decide +kernel)) (fun _ _ _ _ _ => (pg_name (i := 6) sc_Teller_fewest.nd rfl (Or.inl rfl))) (fun _ _ _ _ _ => pts_nil) (fun _ _ _ _ _ => (pe_mt g_Teller_fewest T.clT (hr.mono (by omega)) (pv 0) (pa_cons (pv 6) pa_nil)))) pa_nil))))
            (pss_one (ps_if (PW.pt (pw_or (pt_cmpR op_isN (pv 2) pe_non (nomark _)) (pw_or1 (pt_cmpR op_lt (pv 5) (pv 2) (nomark _))))) 
              (pss_one (ps_set (i := 2) sc_Teller_fewest.nd rfl (Or.inl rfl) (pv 5))) pss_nil))) pss_nil))))
        (pss_one (ps_dput (hu_of hr) (pe_fld (pv 0) rfl) (pv 1) (pv 2) rfl)))) pss_nil)
      (pss_one (ps_ret (pe_dget (hu_of hr) (pe_fld (pv 0) rfl) (pv 1) (fun _ _ => rfl)))))), ?_⟩
    have l9 : lot.length ≤ 9 := Nat.le_trans hsub.length_le hf
    have ll : (lot.map V.int).length = lot.length := List.length_map _
    have hak : a ≠ ka := fun e => by
      obtain ⟨kvs, h, _⟩ := tl.kn.ex
      rw [e, h] at ha; cases ha
    have key : ∀ {H' : Hp}, But ka H H' → H' a = some (.tup ((rk lot).map L2.kV)) := fun b => by rw [rk_kV]; exact b _ _ hak ha
    refine ⟨_, rfl, a, _, rfl, .inr (SqT.of ha), rfl, _, rfl, ?_⟩
    by_cases h1 : lot.length = 1
    · refine iteD (by rw [ll, h1]; rfl) ?_
      exact q H 0 (But.refl ka H) tl.kn (least_one h1)
    refine iteDF (by intro z; injection z with z; exact h1 (by rw [← ll]; omega)) ?_
    obtain ⟨kvs, hk, nd, hkv⟩ := tl.kn.ex
    refine ⟨_, rfl, _, rfl, x, CT, dx, _, _, rfl, tl.hx, T.clT, T.aT3, tf3, ka, _, rfl, DGet.t (k := rk lot) hk (key (But.refl ka H)), _, rfl, ?_⟩
    cases hv : valV kvs (rk lot) with
    | some v =>
      refine iteF ?_
      refine ⟨_, rfl, x, CT, dx, _, _, rfl, tl.hx, T.clT, T.aT3, tf3, _, rfl, ka, v, rfl, by rw [← hv]; exact DGet.t (k := rk lot) hk (key (But.refl ka H)), ?_⟩
      obtain ⟨lot', _, u, e, lu⟩ := hkv _ (valV_in hv)
      injection e with e1 e2
      have := rk_inj e1
      subst this
      subst e2
      exact q H u (But.refl ka H) tl.kn lu
    | none =>
      refine iteT ?_
      refine ⟨_, rfl, x, CT, dx, _, _, rfl, tl.hx, T.clT, T.aT2, tf2, R, rfl, by omega, by omega, ?_⟩
      refine for_it walk_range (fun i σ H1 => ∃ (b : Option Nat) (v3 v4 v5 v6 : Option V), σ = [some (.ref x), some (.ref a), some (bv b), v3, v4, v5, v6] ∧ But ka H H1 ∧ Known O R full H1 ka ∧ Best O R lot i b) ⟨none, _, _, _, _, rfl, But.refl ka H, tl.kn, best_zero⟩ (fun _ _ _ _ _ => trivial) ?_ ?_
      · rintro i z σ H1 H1' hi ⟨b, v3, v4, v5, v6, rfl, b1, kn1, be⟩ ⟨rfl, hz0⟩
        have hz0 : z = .int (0 + (i : Nat)) := hz0
        rw [Int.zero_add] at hz0
        subst hz0
        have hi : i < R := by omega
        have tl1 := tl.but b1 kn1
        refine ⟨_, rfl, x, dx, _, rfl, tl1.hx, tf_parts, _, rfl, _, rfl, x, dx, a, oa, ka, O, R, i, lot, rfl, tl1.hx, tl1.ho, b1 _ _ hak ha, hlot, hi, hR, by omega, fun H2 l ps s2 ⟨pv, hl2, pp⟩ pts => ?_⟩
        have kn2 := kn1.same s2
        have b2 : But ka H H2 := b1.trans (But.of s2)
        have pl : pv.length = ps.length := Paired.length pp
        refine ⟨_, rfl, l, pv, rfl, .inl (SqL.of hl2), _, _, rfl, rfl, _, rfl, ?_⟩
        by_cases sp : Splits O i lot
        · have many := (parts_many pts).mpr sp
          refine iteD (by omega) ?_
          have tl2 := tl.but b2 kn2
          obtain ⟨kvs2, hk2, _⟩ := kn2.ex
          have nlk : l ≠ ka := fun e => by rw [e, hk2] at hl2; cases hl2
          refine ⟨_, rfl, l, rfl, ⟨_, SqL.of hl2⟩, fun D hD => ?_⟩
          have nDk : D ≠ ka := (ne_of_none hk2 hD).symm
          have nlD : l ≠ D := ne_of_none hl2 hD
          refine lcI walk_list (fun H3 => But ka H2 H3 ∧ Known O R full H3 ka) (fun n : Nat => V.int n) (fun j => (ps.take j).map (ml O R)) rfl ⟨But.of (same_new hD), kn2.same (same_new hD)⟩ ?_ (fun H3 h => SqL.of (h.1 _ _ nlk hl2)) (fun j hj => ?_) ?_ mono_name ?_
          · rintro H3 ws ws' ⟨c1, c2⟩ _
            obtain ⟨kvs3, hk3, r3⟩ := c2.ex
            exact ⟨c1.mut (H' := H2) hD, ⟨kvs3, by rw [upd_ne nDk.symm]; exact hk3, r3⟩⟩
          · rw [List.length_map, List.length_take]
            have := parts_len pts
            omega
          · rintro j z H3 H3' ws hj ⟨c1, c2⟩ hDw ⟨rfl, hzj⟩ Ny hNy
            obtain ⟨lt, hlt, t, rfl, ht⟩ := pgetL pp hzj
            have hm := List.mem_of_getElem? hlt
            obtain ⟨lo1, lo2⟩ := parts_lot pts hlot sp hm
            have hsub2 : lt.Sublist full := by
              obtain ⟨n, hn, e⟩ := (parts_mem pts).mp hm
              rw [e]; exact cls_sub hsub
            have ntk : t ≠ ka := fun e => by rw [e, hk2] at ht; cases ht
            have tl3 := tl2.but c1 c2
            refine ⟨rfl, _, rfl, x, dx, _, rfl, tl3.hx, tf_fewest, _, rfl, x, dx, t, oa, ka, O, R, full, lt, rfl, tl3, c1 _ _ ntk ht, lo1, hsub2, hf, by omega, hO, hR, hR2, fun H4 v b4 kn4 lv => ?_⟩
            refine hNy H4 v ⟨c1.trans b4, kn4⟩ (b4 _ _ nDk hDw) ?_
            show (ps.take (j + 1)).map _ = (ps.take j).map _ ++ _
            rw [take_one_more hlt, List.map_append, ml_eq lv]
            rfl
          · rintro H3 ⟨c1, c2⟩ hDw
            rw [pl, List.take_length] at hDw
            have ls : ∀ p ∈ ps, Least O R p (ml O R p) := fun p hp => by
              obtain ⟨v, hv⟩ := least_ex (can_all hO hR p.length (Nat.le_succ _) (parts_lot pts hlot sp hp).1)
              exact ml_spec hv
            refine ⟨D, (ps.map (ml O R)).map fun n : Nat => (n : Int), rfl, SqL.of (by rw [List.map_map]; exact hDw), by rw [List.length_map, List.length_map]; omega, fun mx hmx hle => ?_⟩
            obtain ⟨mn, hmn, rfl⟩ := List.mem_map.mp hmx
            have hle2 : ∀ y ∈ ps.map (ml O R), y ≤ mn := fun y hy => by
              have := hle y (List.mem_map.mpr ⟨y, hy, rfl⟩)
              omega
            obtain ⟨via, nvia⟩ := via_max pts sp ls hmn hle2
            refine ⟨_, _, rfl, rfl, ?_⟩
            have e1 : (1 : Int) + (mn : Int) = ((mn + 1 : Nat) : Int) := by omega
            have b3 : But ka H H3 := b2.trans c1
            show gName 5 (V.int ((1 : Int) + (mn : Int))) _ _ _
            rw [e1]
            cases b with
            | none =>
              refine ⟨_, rfl, rfl, _, rfl, iteT (iteT ⟨_, rfl, some (mn + 1), _, _, _, _, rfl, b3, c2, best_new be via nvia⟩)⟩
            | some bb =>
              refine ⟨_, rfl, rfl, _, rfl, iteF ?_⟩
              refine ⟨_, rfl, _, rfl, _, _, rfl, rfl, _, rfl, ?_⟩
              by_cases hb : mn + 1 < bb
              · exact iteD (by omega) ⟨_, rfl, some (mn + 1), _, _, _, _, rfl, b3, c2, best_less be via nvia hb⟩
              · exact iteDF (by omega) ⟨some bb, _, _, _, _, rfl, b3, c2, best_keep be nvia hb⟩
        · have few : ¬ 1 < ps.length := fun z => sp ((parts_many pts).mp z)
          exact iteDF (by omega) ⟨b, _, _, _, _, rfl, b2, kn2, best_skip be sp⟩
      · rintro σ H1 ⟨b, v3, v4, v5, v6, rfl, b1, kn1, be⟩
        rw [Int.toNat_natCast] at be
        obtain ⟨v, rfl, lv⟩ := best_end hO hR hlot h1 be
        have tl1 := tl.but b1 kn1
        obtain ⟨kvs1, hk1, nd1, hkv1⟩ := kn1.ex
        have len1 := known_len hf nd1 hkv1
        refine ⟨_, rfl, _, rfl, x, CT, dx, _, _, rfl, tl1.hx, T.clT, T.aT3, tf3, _, rfl, ka, _, rfl, DPut.t (k := rk lot) hk1 (key b1) (sz1000' (by omega)), ?_⟩
        have kn3 := known_put (H := H1) (ka := ka) hsub nd1 hkv1 lv
        have b3 : But ka H (upd H1 ka (.dT (putK kvs1 (rk lot) (.int v)))) := b1.trans But.upd
        have tl3 := tl.but b3 kn3
        refine ⟨_, rfl, x, CT, dx, _, _, rfl, tl3.hx, T.clT, T.aT3, tf3, _, rfl, ka, .int v, rfl, ?_, q _ v b3 kn3 lv⟩
        have e : valV (putK kvs1 (rk lot) (V.int v)) (rk lot) = some (V.int v) := by rw [valV_put, if_pos rfl]
        rw [← e]
        exact DGet.t (k := rk lot) upd_same (key b3)
end
end Fv
namespace Fv
open PySem L2
/-- the numbers below one -/
def upTo (n : Nat) : List Int := (List.range n).map fun i : Nat => (i : Int)
theorem upTo_len (n : Nat) : (upTo n).length = n := by simp [upTo]
theorem lot_upTo {O : List Tbl} (h : 0 < O.length) : Lot O (upTo O.length) := by
  refine ⟨fun e => ?_, ?_, fun n hn => ?_⟩
  · have := congrArg List.length e
    rw [upTo_len] at this
    rw [List.length_nil] at this
    omega
  · unfold upTo
    exact List.Pairwise.map _ (fun a b (h : a ≠ b) => show (a : Int) ≠ (b : Int) by omega) List.nodup_range
  · obtain ⟨i, hi, rfl⟩ := List.mem_map.mp hn
    have := List.mem_range.mp hi
    omega
theorem rgV_upTo (n : Nat) : rgV 0 (n : Int) = (upTo n).map V.int := by
  rw [rgV_nat]
  unfold upTo
  rw [List.map_map]
  rfl
theorem NetO.upd {CN : Addr} {H : Hp} {y L n ol D : Addr} {st : List Stp} {ws ws' : List V} (h : NetO CN H y L n st ol) (hD : H D = some (.lst ws)) (nD : ol ≠ D) : NetO CN (L2.upd H D (.lst ws')) y L n st ol := by
  obtain ⟨dx, ts, m, us, os, h1, h2, h3, h4, h5⟩ := h.ex
  have ls : LS H (L2.upd H D (.lst ws')) := LS.upd hD
  exact ⟨dx, ts, m, us, os, ls.keep _ _ (fun _ z => nomatch z) h1, ls.keep _ _ (fun _ z => nomatch z) h2, stp_mono.all ls.ts h3, by rw [upd_ne nD]; exact h4, Paired.mapP h5 fun _ _ q => othd_ls ls q⟩
theorem tables_eq (rows : List (List Int)) (steps : List Stp) : tables rows steps = (steps :: (bends steps).map fun b => bent steps b.1 b.2).map (tbl rows) := by
  unfold tables
  rw [List.map_cons, List.map_map]
  rfl
theorem nets_pos (rows : List (List Int)) (steps : List Stp) : 0 < (nets rows steps).length := by
  have : tbl rows steps ∈ nets rows steps := mem_dedup.mpr (by unfold tables; exact List.mem_cons_self)
  exact List.length_pos_of_mem this
theorem nets_le (rows : List (List Int)) (steps : List Stp) : (nets rows steps).length ≤ (bends steps).length + 1 := by
  refine Nat.le_trans (dedup_le _) ?_
  unfold tables
  rw [List.length_cons, List.length_map]
  exact Nat.le_refl _
theorem nets_rows {rows : List (List Int)} {steps : List Stp} : ∀ t ∈ nets rows steps, t.length = rows.length := by
  intro t ht
  have ht := mem_dedup.mp ht
  rw [tables_eq] at ht
  obtain ⟨s, _, rfl⟩ := List.mem_map.mp ht
  simp [tbl]
/-- the nets of the teller, in the list at D -/
def NR (CN : Addr) (D : Addr) (L n : Nat) : Rl (List Stp) := fun H v st => ∃ y ol, v = .ref y ∧ ol ≠ D ∧ NetO CN H y L n st ol ∧ okSteps L n st ∧ st.length ≤ 1000
section
variable {P : Program} {w : World} {K : PySem.W.Frag} {mg : Str → Option Value} {base : Heap} {CN CT dS : Addr}
def sp_tell_bends (CN : Addr) : Sp := fun vs H Q _ => ∃ (x : Addr) (L n : Nat) (steps : List Stp), vs = [.ref x] ∧ NetB CN H x L n steps ∧ L ^ n ≤ 32 ∧ (bends steps).length ≤ 8 ∧
  ∀ H' (v : Nat), Same H H' → Least (nets (rowsM (lets L) n) steps) (rowsM (lets L) n).length (upTo (nets (rowsM (lets L) n) steps).length) v → Q (.int v) H'
theorem cal_tell_bends (T : Txt w K mg CN CT dS) : Cal P w K mg base "tell_bends" ["net"] 12 (sp_tell_bends CN) := by
  have g_Teller_init := cal_Teller_init (P := P) (base := base) T
  have g_Teller_fewest := cal_Teller_fewest (P := P) (base := base) T
  have g_all_ins := cal_all_ins (P := P) (base := base) T
  have g_bends_of := cal_bends_of (P := P) (base := base) T
  have g_bent_of := cal_bent_of (P := P) (base := base) T
  have g_power_of := cal_power_of (P := P) (base := base) T
  refine cal_mk T.f_tell_bends (fun F => F.ok sc_tell_bends (fun vs H Q E h => ?_) (fun cdv A outer s H vs Q E hr h => ?_)) (fun F => F.binds fun _ _ _ _ _ _ us hl => match us, hl with | [_], _ => rfl)
  · obtain ⟨x, L, n, steps, rfl, _⟩ := h
    rfl
  obtain ⟨x, L, n, steps, rfl, nb, hp, hb8, q⟩ := h
  have g_Teller_fewest := g_Teller_fewest 9
  obtain ⟨ol0, no⟩ := id nb.net
  obtain ⟨dx, ts, m, us, os, h1, h2, h3, h4, h5⟩ := no.ex
  refine ⟨_, (pss_cons (ps_if (pt_cmpR op_gt (pe_fn g_power_of (hr.mono (by decide)) (by rfl) (pa_cons (pe_fld (pv 0) rfl) (pa_cons (pe_callB (call_min2 rfl) (by rfl) T.min (by decide +kernel) (pa_cons (pe_fld (pv 0) rfl) (pa_cons (pe_gint T.c_MOST_TESTED) pa_nil))) pa_nil))) (pe_gint T.c_MOST_TESTED) (nomark _)) 
        (pss_one ps_never) pss_nil)
      (pss_cons (ps_set (i := 1) sc_tell_bends.nd rfl (Or.inl rfl) (pe_fn g_bends_of (hr.mono (by decide)) (by rfl) (pa_cons (pv 0) pa_nil)))
      (pss_cons (ps_if (pt_cmpR op_gt (pe_callB (r := rLenQ K) call_lenQ (by rfl) T.len (by decide +kernel) (pa_cons (pv 1) pa_nil)) (pe_gint T.c_MOST_TOLD) (nomark _)) 
        (pss_one ps_never) pss_nil)
      (pss_cons (ps_set (i := 2) sc_tell_bends.nd rfl (Or.inl rfl) (pe_op (r := rCatLQ) op_catLQ (pe_lst (pa_cons (pv 0) pa_nil)) (pe_lc (own := [("index", 3), ("place", 4)]) (g := gTup K 2 ((gCons (gName 3) (gCons (gName 4) gNil)))) rfl sc_tell_bends.nd (pi_list (pv 1)) (blkOk_by (N := n_tell_bends) (sc := defScope s_tell_bends) (by decide +kernel)) (fun _ _ _ _ _ => pg_tup rfl (pgs_cons (pg_name (i := 3) sc_tell_bends.nd rfl (Or.inl rfl)) (pgs_cons (pg_name (i := 4) sc_tell_bends.nd rfl (Or.inl rfl)) pgs_nil))) (fun _ _ _ _ _ => pts_nil) (fun _ _ _ _ _ => (pe_fn g_bent_of (hr.mono (by decide)) (by rfl) (pa_cons (pv 0) (pa_cons (pv 3) (pa_cons (pv 4) pa_nil))))))))
      (pss_cons (ps_set (i := 5) sc_tell_bends.nd rfl (Or.inl rfl) (pe_mk g_Teller_init (hr.mono (by decide)) (by rfl) (pa_cons (pv 2) (pa_cons (pe_fn g_all_ins (hr.mono (by decide)) (by rfl) (pa_cons (pv 0) pa_nil)) pa_nil))))
      (pss_one (ps_ret (pe_mt g_Teller_fewest T.clT (hr.mono (by decide)) (pv 5) (pa_cons (pe_tupRg rfl (by rfl) T.tuple_ (prg_1 (by rfl) T.range (pe_callB (r := rLenQ K) call_lenQ (by rfl) T.len (by decide +kernel) (pa_cons (pe_fld (pv 5) rfl) pa_nil)))) pa_nil))))))))), ?_⟩
  have n5 := nb.n2
  have rl := rowsM_len_le (n := n) (lets_len4 nb.L2) nb.n2
  refine ⟨_, rfl, x, CN, dx, _, _, rfl, h1, T.clN, T.aN1, nf1, _, rfl, x, CN, dx, _, _, rfl, h1, T.clN, T.aN2, nf2, _, _, rfl, L, n, ?_, nb.L2, by omega, ?_⟩
  · rw [if_neg (by omega)]
    rfl
  refine ⟨_, _, rfl, rfl, _, rfl, iteDF (by omega) ?_⟩
  refine ⟨_, rfl, x, L, n, steps, rfl, nb.net, nb.ok, nb.sz, fun H1 l s1 f1 ⟨bv, e1, p1⟩ => ?_⟩
  have bl : bv.length = (bends steps).length := Paired.length p1
  refine ⟨_, rfl, l, bv, rfl, .inl (SqL.of e1), _, _, rfl, rfl, _, rfl, iteDF (by omega) ?_⟩
  have nb1 := nb.same s1
  refine ⟨_, rfl, by show 1 ≤ sizeLine; decide, fun l0 hl0 => ?_⟩
  have s2 := s1.trans (same_new (o := .lst [.ref x]) hl0)
  have s12 : Same H1 (upd H1 l0 (.lst [.ref x])) := same_new hl0
  refine ⟨_, rfl, l, rfl, ⟨_, SqL.of (s12 _ _ e1)⟩, fun D hD => ?_⟩
  have nlD : l ≠ D := ne_of_none (s12 _ _ e1) hD
  refine lc_it walk_list (fun i H2 => Same (upd H1 l0 (.lst [.ref x])) H2 ∧ ∃ ws, H2 D = some (.lst ws) ∧ Paired (NR CN D L n H2) ws (((bends steps).take i).map fun b => bent steps b.1 b.2)) ⟨same_new hD, [], upd_same, .nil⟩ (fun i H2 _ h => SqL.of (h.1 _ _ (s12 _ _ e1))) ?_ ?_
  · rintro i z H2 H2' hi ⟨s3, ws, hw, pw⟩ ⟨rfl, hz⟩
    obtain ⟨⟨j, p⟩, hb, a, rfl, ha⟩ := pgetL p1 hz
    have s13 := s12.trans s3
    have nb3 := nb1.same s13
    have hm := List.mem_of_getElem? hb
    refine ⟨a, _, rfl, SqT.of (s13 _ _ ha), rfl, _, _, rfl, _, _, rfl, rfl, rfl, ?_⟩
    show (if true = true then _ else (Same (upd H1 l0 (.lst [.ref x])) H2' ∧ ∃ ws, H2' D = some (.lst ws) ∧ Paired (NR CN D L n H2') ws (((bends steps).take (i + 1)).map fun b => bent steps b.1 b.2)))
    refine iteT ?_
    refine ⟨_, rfl, _, rfl, _, rfl, x, L, n, j, p, steps, rfl, nb3.net, hm, nb3.ok, nb3.L1, nb3.L2, nb3.n1, Nat.le_trans nb3.n2 (by decide), nb3.sz, fun H4 y ol s4 fy fo no4 => ?_⟩
    have hw4 := s4 _ _ hw
    have nbb := nb3.bent hm no4
    have lw : ws.length < 100000 := by
      rw [Paired.length pw, List.length_map, List.length_take]; omega
    have nD : ol ≠ D := fun e => by rw [e, hw] at fo; cases fo
    refine ⟨ws, hw4, sz1000' lw, same_mut (s3.trans s4) hD, _, upd_same, ?_⟩
    rw [take_one_more hb, List.map_append]
    refine Paired.snoc (Paired.mapP pw fun v st h => ?_) ⟨y, ol, rfl, nD, no4.upd hw4 nD, nbb.ok, nbb.sz⟩
    obtain ⟨y', ol', e, n', no', r⟩ := h
    exact ⟨y', ol', e, n', (no'.same s4).upd hw4 n', r⟩
  · rintro H2 ⟨s3, ws, hw, pw⟩
    rw [bl, List.take_length] at pw
    have lw : ws.length = (bends steps).length := by rw [Paired.length pw, List.length_map]
    have s23 := s2.trans s3
    refine ⟨l0, D, [.ref x], ws, rfl, rfl, s3 _ _ upd_same, hw, sz1000 (by show 1 + ws.length ≤ _; omega), fun H3 ln s4 f4 e4 => ?_⟩
    have s34 := s23.trans s4
    have nb3 := nb.same s34
    refine ⟨_, rfl, _, rfl, x, L, n, steps, rfl, nb3.net, nb3.L2, nb3.n2, fun H5 lr s5 la5 => fun y dy ny ndy ne => ?_⟩
    have sm : Same H5 (upd (upd H5 dy (.own y)) y (.ins CT dy [])) := (same_new ndy).trans (same_new (by rw [upd_ne (Ne.symm ne)]; exact ny))
    have s46 := s4.trans (s5.trans sm)
    have pn : Paired (NetR CN L n (upd (upd H5 dy (.own y)) y (.ins CT dy []))) ([.ref x] ++ ws) (steps :: (bends steps).map fun b => bent steps b.1 b.2) := by
      refine .cons ⟨x, rfl, nb.same (s23.trans s46)⟩ (Paired.mapP pw fun v st h => ?_)
      obtain ⟨y', ol', e, n', no', okk, szz⟩ := h
      exact ⟨y', e, ⟨⟨ol', no'.same s46⟩, okk, nb.L1, nb.L2, nb.n1, nb.n2, szz⟩⟩
    refine ⟨y, dy, ln, lr, _, _, rowsM (lets L) n, L, n, rfl, upd_same, sm _ _ (s5 _ _ e4), pn, LA.same row_mono sm la5, fun r hr => (rowsM_row hr).1, rl, by rw [List.length_cons, List.length_map]; omega, fun H7 oa ka fo fk nok b7 hx7 la7 hk7 => ⟨rfl, ?_⟩⟩
    rw [← tables_eq] at la7
    have s7 : Same H5 H7 := make_same ny ndy b7
    have sH7 : Same H H7 := s34.trans (s5.trans s7)
    have fk : H ka = none := (s34.trans s5).free (make_free fk)
    obtain ⟨ov, ho7, po7⟩ := id la7
    have ol7 : ov.length = (nets (rowsM (lets L) n) steps).length := Paired.length po7
    have nle := nets_le (rowsM (lets L) n) steps
    refine ⟨_, rfl, y, dy, _, rfl, hx7, tf_fewest, _, rfl, y, CT, dy, _, _, rfl, hx7, T.clT, T.aT1, tf1, oa, ov, rfl, .inl (SqL.of ho7), _, rfl, ?_⟩
    rw [ol7]
    refine ⟨RgOk.of_le (by omega) (by omega) (by omega) (by omega), fun a ha => ?_⟩
    rw [rgV_upTo]
    have s8 := same_new (o := .tup ((upTo (nets (rowsM (lets L) n) steps).length).map V.int)) ha
    refine ⟨y, dy, a, oa, ka, nets (rowsM (lets L) n) steps, (rowsM (lets L) n).length, upTo (nets (rowsM (lets L) n) steps).length, _, rfl, ⟨s8 _ _ hx7, LA.same out_mono s8 la7, ⟨[], s8 _ _ hk7, List.nodup_nil, fun _ h => nomatch h⟩⟩, upd_same, lot_upTo (nets_pos _ _), List.Sublist.refl _, by rw [upTo_len]; omega, by rw [upTo_len]; omega, nodup_dedup _, nets_rows, rl, fun H9 v b9 _ lv => q H9 v (((But.of (sH7.trans s8)).trans b9).same fk) lv⟩
end
end Fv
namespace Fv
open PySem L2
/-! ### the hand -/
def HandR (H : Hp) (h c : Addr) : Prop := ∃ (ns : List Int) (i a b d : Int), H h = some (.lst [.ref c, .int i, .int a, .int b, .int d]) ∧ H c = some (.lst (ns.map V.int)) ∧ 0 ≤ i
theorem HandR.ne {H : Hp} {h c : Addr} (q : HandR H h c) : c ≠ h := by
  obtain ⟨ns, i, a, b, d, h1, h2, _⟩ := q
  rintro rfl
  rw [h1] at h2
  injection h2 with h2
  injection h2 with h2
  cases ns with
  | nil => simp at h2
  | cons _ _ => simp at h2
theorem HandR.some {H : Hp} {h c : Addr} (q : HandR H h c) : ∃ vs ws, H h = Option.some (.lst vs) ∧ H c = Option.some (.lst ws) := let ⟨_, _, _, _, _, h1, h2, _⟩ := q; ⟨_, _, h1, h2⟩
theorem HandR.but {H H' : Hp} {h c l : Addr} (q : HandR H h c) (b : But l H H') (n1 : h ≠ l) (n2 : c ≠ l) : HandR H' h c := by
  obtain ⟨ns, i, a, b', d, h1, h2, h3⟩ := q
  exact ⟨ns, i, a, b', d, b _ _ n1 h1, b _ _ n2 h2, h3⟩
theorem HandR.same {H H' : Hp} {h c : Addr} (q : HandR H h c) (s : Same H H') : HandR H' h c := by
  obtain ⟨ns, i, a, b', d, h1, h2, h3⟩ := q
  exact ⟨ns, i, a, b', d, s _ _ h1, s _ _ h2, h3⟩
theorem HandR.nt {H : Hp} {h c : Addr} (q : HandR H h c) : NT (H h) := by
  obtain ⟨_, _, h1, _⟩ := q.some
  rw [h1]; trivial
theorem mod_nat {i : Int} {many : Nat} (h : (0 : Int) < (many : Int)) : i % (many : Int) = ((i % (many : Int)).toNat : Int) ∧ (i % (many : Int)).toNat < many := by
  have h1 := Int.emod_nonneg i (show (many : Int) ≠ 0 by omega)
  have h2 := Int.emod_lt_of_pos i h
  omega
theorem mod_small {i : Int} {n : Int} (h : 0 < n) (h2 : n < 2 ^ 64) : CMul (i % n) 0 ∧ ∀ j, CMul (i % n) j := by
  have h1 := Int.emod_nonneg i (show n ≠ 0 by omega)
  have h3 := Int.emod_lt_of_pos i h
  exact ⟨.inl ⟨by omega, by omega⟩, fun j => .inl ⟨by omega, by omega⟩⟩
theorem mul_c {i j : Int} (h1 : -(2 ^ 64) < j) (h2 : j < 2 ^ 64) : CMul i j := .inr ⟨h1, h2⟩
theorem mul_c' {i j : Int} (h1 : -(2 ^ 64) < i) (h2 : i < 2 ^ 64) : CMul i j := .inl ⟨h1, h2⟩
/-- what the draw does when the hand is fed -/
def drawTail (K : PySem.W.Frag) : L2.TS :=
    (tSeq
      (tIfS (tTest (tOp (rI0 fun i j => V.bl (decide (j < i))) (tOp (rIxL K) (tVar 0) (tC (V.int 2))) (tC (V.int 0))))
        (tSeq
          (tAsg
            (tOp (rI (fun x j => 0 < j) fun i j => V.int (i % j))
              (tCB
                (fun xs H Q =>
                  (∃ i, xs = [V.int i] ∧ Q (V.int i) H) ∨ ∃ k, xs = [V.bl k] ∧ Q (V.int (if k = true then 1 else 0)) H)
                (tCons (tOp (rIxL K) (tVar 0) (tC (V.int 2))) tNil))
              (tVar 1))
            (gName 3))
          (tSeq
            (tAsg (tOp (rI CDiv fun i j => V.int (i / j)) (tOp (rIxL K) (tVar 0) (tC (V.int 2))) (tVar 1))
              (gSub (tVar 0) (tC (V.int 2)) rSetL))
            (tRet (tVar 3))))
        tNext)
      (tSeq
        (tAsg (tOp (rI0 fun i j => V.int (i + j)) (tOp (rIxL K) (tVar 0) (tC (V.int 4))) (tC (V.int 1)))
          (gSub (tVar 0) (tC (V.int 4)) rSetL))
        (tSeq
          (tAsg
            (tOp (rI (fun x j => 0 < j) fun i j => V.int (i % j))
              (tCB
                (fun xs H Q =>
                  (∃ i, xs = [V.int i] ∧ Q (V.int i) H) ∨ ∃ k, xs = [V.bl k] ∧ Q (V.int (if k = true then 1 else 0)) H)
                (tCons
                  (tOp (rI CMul fun i j => V.int (i * j))
                    (tCB
                      (fun xs H Q =>
                        (∃ i, xs = [V.int i] ∧ Q (V.int i) H) ∨
                          ∃ k, xs = [V.bl k] ∧ Q (V.int (if k = true then 1 else 0)) H)
                      (tCons
                        (tOp (rI0 fun i j => V.int (i + j)) (tOp (rIxL K) (tVar 0) (tC (V.int 3)))
                          (tOp (rI CMul fun i j => V.int (i * j)) (tC (V.int 7919))
                            (tOp (rIxL K) (tVar 0) (tC (V.int 4)))))
                        tNil))
                    (tC (V.int 48271)))
                  tNil))
              (tC (V.int 2147483647)))
            (gName 4))
          (tSeq
            (tAsg
              (tOp (rI (fun x j => 0 < j) fun i j => V.int (i % j))
                (tCB
                  (fun xs H Q =>
                    (∃ i, xs = [V.int i] ∧ Q (V.int i) H) ∨
                      ∃ k, xs = [V.bl k] ∧ Q (V.int (if k = true then 1 else 0)) H)
                  (tCons
                    (tOp (rI CMul fun i j => V.int (i * j)) (tVar 4)
                      (tOp (rI0 fun i j => V.int (i + j))
                        (tOp (rI CDiv fun i j => V.int (i / j)) (tVar 4) (tC (V.int 1009))) (tC (V.int 69621))))
                    tNil))
                (tC (V.int 2147483647)))
              (gName 4))
            (tSeq
              (tAsg
                (tOp (rI (fun x j => 0 < j) fun i j => V.int (i % j))
                  (tCB
                    (fun xs H Q =>
                      (∃ i, xs = [V.int i] ∧ Q (V.int i) H) ∨
                        ∃ k, xs = [V.bl k] ∧ Q (V.int (if k = true then 1 else 0)) H)
                    (tCons
                      (tOp (rI CMul fun i j => V.int (i * j)) (tVar 4)
                        (tOp (rI0 fun i j => V.int (i + j))
                          (tOp (rI CDiv fun i j => V.int (i / j)) (tVar 4) (tC (V.int 2003))) (tC (V.int 40692))))
                      tNil))
                  (tC (V.int 2147483399)))
                (gName 4))
              (tRet
                (tOp (rI (fun x j => 0 < j) fun i j => V.int (i % j))
                  (tCB
                    (fun xs H Q =>
                      (∃ i, xs = [V.int i] ∧ Q (V.int i) H) ∨
                        ∃ k, xs = [V.bl k] ∧ Q (V.int (if k = true then 1 else 0)) H)
                    (tCons (tOp (rI CDiv fun i j => V.int (i / j)) (tVar 4) (tC (V.int 16))) tNil))
                  (tVar 1))))))))
theorem draw_tail {K : PySem.W.Frag} {D : Ends} {h c : Addr} {many : Nat} {v2 v3 v4 : Option V} {H1 : Hp} {ns : List Int} {i a b d : Int} (hh : H1 h = some (.lst [.ref c, .int i, .int a, .int b, .int d])) (hc : H1 c = some (.lst (ns.map V.int))) (i0 : 0 ≤ i) (nch : c ≠ h)
    (m1 : 0 < many) (m2 : many ≤ 100000) (q : ∀ H' (d : Nat), But h H1 H' → HandR H' h c → d < many → D.rt (.int d) H') : drawTail K D [some (.ref h), some (.int many), v2, v3, v4] H1 := by
  have hm : (0 : Int) < (many : Int) := by omega
  have hm3 : (many : Int) < 1073741824 := by omega
  refine ⟨_, rfl, h, _, _, _, rfl, rfl, SqL.of hh, rfl, _, _, rfl, rfl, _, rfl, ?_⟩
  by_cases ha : 0 < a
  · refine iteD ha ?_
    refine ⟨_, rfl, h, _, _, _, rfl, rfl, SqL.of hh, rfl, .inl ⟨_, rfl, _, rfl, _, _, rfl, rfl, hm, ?_⟩⟩
    refine ⟨_, rfl, h, _, _, _, rfl, rfl, SqL.of hh, rfl, _, rfl, _, _, rfl, rfl, ⟨hm, hm3⟩, _, rfl, h, _, _, 2, rfl, rfl, hh, rfl, _, rfl, ?_⟩
    obtain ⟨e, f⟩ := mod_nat (i := a) hm
    show D.rt (V.int (a % (many : Int))) _
    rw [e]
    exact q _ _ But.upd ⟨ns, _, _, _, _, upd_same, by rw [upd_ne nch]; exact hc, i0⟩ f
  · refine iteDF ha ?_
    refine ⟨_, rfl, h, _, _, _, rfl, rfl, SqL.of hh, rfl, _, _, rfl, rfl, _, rfl, h, _, _, 4, rfl, rfl, hh, rfl, ?_⟩
    have hh2 : upd H1 h (.lst [.ref c, .int i, .int a, .int b, .int (d + 1)]) h = some (.lst [.ref c, .int i, .int a, .int b, .int (d + 1)]) := upd_same
    have hc2 : upd H1 h (.lst [.ref c, .int i, .int a, .int b, .int (d + 1)]) c = some (.lst (ns.map V.int)) := by rw [upd_ne nch]; exact hc
    have hR : HandR (upd H1 h (.lst [.ref c, .int i, .int a, .int b, .int (d + 1)])) h c := ⟨ns, _, _, _, _, hh2, hc2, i0⟩
    have bt : But h H1 (upd H1 h (.lst [.ref c, .int i, .int a, .int b, .int (d + 1)])) := But.upd
    refine ⟨_, rfl, h, _, _, _, rfl, rfl, SqL.of hh2, rfl, _, rfl, h, _, _, _, rfl, rfl, SqL.of hh2, rfl, _, _, rfl, rfl, mul_c' (by decide) (by decide), _, _, rfl, rfl, .inl ⟨_, rfl, _, _, rfl, rfl, mul_c (by decide) (by decide), .inl ⟨_, rfl, _, _, rfl, rfl, (by decide : (0 : Int) < 2147483647), ?_⟩⟩⟩
    refine ⟨_, rfl, _, rfl, _, _, rfl, rfl, ⟨by decide, by decide⟩, _, _, rfl, rfl, _, _, rfl, rfl, (mod_small (by decide) (by decide)).2 _, .inl ⟨_, rfl, _, _, rfl, rfl, (by decide : (0 : Int) < 2147483647), ?_⟩⟩
    refine ⟨_, rfl, _, rfl, _, _, rfl, rfl, ⟨by decide, by decide⟩, _, _, rfl, rfl, _, _, rfl, rfl, (mod_small (by decide) (by decide)).2 _, .inl ⟨_, rfl, _, _, rfl, rfl, (by decide : (0 : Int) < 2147483399), ?_⟩⟩
    refine ⟨_, rfl, _, _, rfl, rfl, ⟨by decide, by decide⟩, .inl ⟨_, rfl, _, rfl, _, _, rfl, rfl, hm, ?_⟩⟩
    obtain ⟨e, f⟩ := mod_nat (many := many) hm
    show D.rt (V.int (_ % (many : Int))) _
    rw [e]
    exact q _ _ bt hR f
section
variable {P : Program} {w : World} {K : PySem.W.Frag} {mg : Str → Option Value} {base : Heap} {CN CT dS : Addr}
def sp__law_hand (K : PySem.W.Frag) : Sp := fun vs H Q _ => ∃ (l : Addr) (ns : List Int), vs = [.ref l] ∧ SqL K H l (ns.map V.int) ∧ ns.length ≤ 1000 ∧ ∀ H' h c, Same H H' → HandR H' h c → Q (.ref h) H'
theorem cal__law_hand (T : Txt w K mg CN CT dS) : Cal P w K mg base "_law_hand" ["_law_script"] 1 (sp__law_hand K) := by
  refine cal_mk T.f__law_hand (fun F => F.ok sc__law_hand (fun vs H Q E h => ?_) (fun cdv A outer s H vs Q E hr h => ?_)) (fun F => F.binds fun _ _ _ _ _ _ us hl => match us, hl with | [_], _ => rfl)
  · obtain ⟨l, ns, rfl, _⟩ := h
    rfl
  obtain ⟨l, ns, rfl, hl, hz, q⟩ := h
  refine ⟨_, (pss_cons (ps_setLc (i := 1) (own := [("_law_cell", 2)]) (g := gName 2) rfl sc__law_hand.nd rfl rfl (sw_true rfl rfl rfl (by decide +kernel)) (pi_list (pe_slice (r := rSlLQ K) sl_listQ (pv 0) po_none (po_some pe_int))) (blkOk_by (N := n__law_hand) (sc := defScope s__law_hand) (by decide +kernel)) (fun _ _ _ _ _ => (pg_name (i := 2) sc__law_hand.nd rfl (Or.inl rfl))) (fun _ _ _ _ _ => pts_nil) (fun _ _ _ _ _ => (pe_callB call_abs (by rfl) T.abs (by decide +kernel) (pa_cons (pe_callTy call_int1 (by rfl) T.int_ (by decide +kernel) (pa_cons (pv 2) pa_nil)) pa_nil))))
      (pss_one (ps_ret (pe_lst (pa_cons (pv 1) (pa_cons pe_int (pa_cons pe_int (pa_cons (pe_op op_add pe_int (pe_callB (r := rLenQ K) call_lenQ (by rfl) T.len (by decide +kernel) (pa_cons (pv 1) pa_nil))) (pa_cons pe_int pa_nil))))))))), ?_⟩
  have e63 : cutV (ns.map V.int) none (some 63) = (ns.take (HT.sIx ns.length ns.length (some 63))).map V.int := by
    unfold cutV
    rw [HT.sIx_none, List.drop_zero, Nat.sub_zero, List.length_map, List.map_take]
  refine ⟨_, rfl, 63, rfl, l, _, rfl, hl, fun H1 p s1 n1 e1 => ?_⟩
  rw [e63] at e1
  generalize ns.take (HT.sIx ns.length ns.length (some 63)) = ms at e1 e63
  have lm : ms.length ≤ 1000 := by
    have := cutV_length (ns.map V.int) none (some 63)
    rw [e63, List.length_map, List.length_map] at this
    omega
  refine ⟨p, rfl, ⟨_, SqL.of e1⟩, fun D hD => ?_⟩
  refine lcY walk_list int_mono (fun i => (ms.take i).map fun z => if z < 0 then -z else z) hD rfl (fun i hi => by rw [List.length_map, List.length_take]; omega) (fun _ s => SqL.of (s _ _ e1)) ?_ mono_name ?_
  · rintro i x H2 H2' hi s2 ⟨rfl, hx⟩ Ny hNy
    rw [List.getElem?_map] at hx
    obtain ⟨z, hz2, rfl⟩ := Option.map_eq_some_iff.mp hx
    refine ⟨rfl, _, rfl, .inl ⟨_, rfl, z, rfl, hNy _ _ _ (Same.refl _) rfl ?_⟩⟩
    show (ms.take (i + 1)).map _ = (ms.take i).map _ ++ _
    rw [take_one_more hz2, List.map_append]
    rfl
  · intro H2 ws s2 hw pw
    have pw := ints_iff.mp pw
    subst pw
    refine ⟨_, rfl, _, rfl, D, _, rfl, .inl (SqL.of hw), _, _, rfl, rfl, by show 5 ≤ sizeLine; decide, fun h hh => ?_⟩
    have s3 := same_new (o := .lst [.ref D, .int 0, .int 0, .int (1 + ((List.map V.int ((ms.take (ms.map V.int).length).map fun z => if z < 0 then -z else z)).length : Nat)), .int 0]) hh
    exact q _ h D ((s1.trans s2).trans s3) ⟨_, _, _, _, _, upd_same, s3 _ _ hw, by decide⟩
def sp__law_draw : Sp := fun vs H Q _ => ∃ (h c : Addr) (many : Nat), vs = [.ref h, .int many] ∧ HandR H h c ∧ 0 < many ∧ many ≤ 100000 ∧ ∀ H' (d : Nat), But h H H' → HandR H' h c → d < many → Q (.int d) H'
theorem cal__law_draw (T : Txt w K mg CN CT dS) : Cal P w K mg base "_law_draw" ["_law_hand_here", "_law_many"] 1 sp__law_draw := by
  refine cal_mk T.f__law_draw (fun F => F.ok sc__law_draw (fun vs H Q E h => ?_) (fun cdv A outer s H vs Q E hr h => ?_)) (fun F => F.binds fun _ _ _ _ _ _ us hl => match us, hl with | [_, _], _ => rfl)
  · obtain ⟨h, c, many, rfl, _⟩ := h
    rfl
  obtain ⟨h, c, many, rfl, hd, m1, m2, q⟩ := h
  have nch := hd.ne
  obtain ⟨ns, i, a, b, d, hh, hc, i0⟩ := hd
  have hm : (0 : Int) < (many : Int) := by omega
  have hm3 : (many : Int) < 1073741824 := by omega
  refine ⟨_, (pss_cons (ps_if (PW.pt (pw_and (pt_cmpR op_eq (pe_ix (r := rIxL K) ix_list (pv 0) pe_int (fun _ _ => rfl)) pe_int (nomark _)) (pw_and1 (pt_cmpR op_lt (pe_ix (r := rIxL K) ix_list (pv 0) pe_int (fun _ _ => rfl)) (pe_callB (r := rLenQ K) call_lenQ (by rfl) T.len (by decide +kernel) (pa_cons (pe_ix (r := rIxL K) ix_list (pv 0) pe_int (fun _ _ => rfl)) pa_nil)) (nomark _))))) 
        (pss_cons (ps_set (i := 2) sc__law_draw.nd rfl (Or.inl rfl) (pe_ix (r := rIxL K) ix_list (pe_ix (r := rIxL K) ix_list (pv 0) pe_int (fun _ _ => rfl)) (pe_ix (r := rIxL K) ix_list (pv 0) pe_int (fun _ _ => rfl)) (fun _ _ => rfl)))
        (pss_cons (ps_asg (pe_op op_add (pe_ix (r := rIxL K) ix_list (pv 0) pe_int (fun _ _ => rfl)) pe_int) (pg_sub (pv 0) pe_int set_list))
        (pss_cons (ps_asg (pe_op op_mod (pe_callTy call_int1 (by rfl) T.int_ (by decide +kernel) (pa_cons (pe_op op_add (pe_op op_add (pe_op op_mul (pe_ix (r := rIxL K) ix_list (pv 0) pe_int (fun _ _ => rfl)) pe_int) (pv 2)) pe_int) pa_nil)) pe_int) (pg_sub (pv 0) pe_int set_list))
        (pss_one (ps_if (pt_cmpR op_ge (pv 2) (pe_op op_pow pe_int pe_int) (nomark _)) 
          (pss_one (ps_asg (pv 2) (pg_sub (pv 0) pe_int set_list))) pss_nil))))) pss_nil)
      (pss_cons (ps_if (pt_cmpR op_gt (pe_ix (r := rIxL K) ix_list (pv 0) pe_int (fun _ _ => rfl)) pe_int (nomark _)) 
        (pss_cons (ps_set (i := 3) sc__law_draw.nd rfl (Or.inl rfl) (pe_op op_mod (pe_callTy call_int1 (by rfl) T.int_ (by decide +kernel) (pa_cons (pe_ix (r := rIxL K) ix_list (pv 0) pe_int (fun _ _ => rfl)) pa_nil)) (pv 1)))
        (pss_cons (ps_asg (pe_op op_fdiv (pe_ix (r := rIxL K) ix_list (pv 0) pe_int (fun _ _ => rfl)) (pv 1)) (pg_sub (pv 0) pe_int set_list))
        (pss_one (ps_ret (pv 3))))) pss_nil)
      (pss_cons (ps_asg (pe_op op_add (pe_ix (r := rIxL K) ix_list (pv 0) pe_int (fun _ _ => rfl)) pe_int) (pg_sub (pv 0) pe_int set_list))
      (pss_cons (ps_set (i := 4) sc__law_draw.nd rfl (Or.inl rfl) (pe_op op_mod (pe_callTy call_int1 (by rfl) T.int_ (by decide +kernel) (pa_cons (pe_op op_mul (pe_callTy call_int1 (by rfl) T.int_ (by decide +kernel) (pa_cons (pe_op op_add (pe_ix (r := rIxL K) ix_list (pv 0) pe_int (fun _ _ => rfl)) (pe_op op_mul pe_int (pe_ix (r := rIxL K) ix_list (pv 0) pe_int (fun _ _ => rfl)))) pa_nil)) pe_int) pa_nil)) pe_int))
      (pss_cons (ps_set (i := 4) sc__law_draw.nd rfl (Or.inl rfl) (pe_op op_mod (pe_callTy call_int1 (by rfl) T.int_ (by decide +kernel) (pa_cons (pe_op op_mul (pv 4) (pe_op op_add (pe_op op_fdiv (pv 4) pe_int) pe_int)) pa_nil)) pe_int))
      (pss_cons (ps_set (i := 4) sc__law_draw.nd rfl (Or.inl rfl) (pe_op op_mod (pe_callTy call_int1 (by rfl) T.int_ (by decide +kernel) (pa_cons (pe_op op_mul (pv 4) (pe_op op_add (pe_op op_fdiv (pv 4) pe_int) pe_int)) pa_nil)) pe_int))
      (pss_one (ps_ret (pe_op op_mod (pe_callTy call_int1 (by rfl) T.int_ (by decide +kernel) (pa_cons (pe_op op_fdiv (pv 4) pe_int) pa_nil)) (pv 1)))))))))), ?_⟩
  refine ⟨_, rfl, h, _, _, _, rfl, rfl, SqL.of hh, rfl, rfl, _, rfl, ?_⟩
  by_cases ea : V.int a = V.int 0
  · refine iteD ea ?_
    refine ⟨_, rfl, h, _, _, _, rfl, rfl, SqL.of hh, rfl, _, rfl, h, _, _, _, rfl, rfl, SqL.of hh, rfl, c, _, rfl, .inl (SqL.of hc), _, _, rfl, rfl, _, rfl, ?_⟩
    by_cases il : i < ((ns.map V.int).length : Nat)
    · refine iteD il ?_
      have il' : i.toNat < ns.length := by rw [List.length_map] at il; omega
      have hcell : (ns.map V.int)[i.toNat]? = some (V.int (ns[i.toNat])) := by rw [List.getElem?_map, List.getElem?_eq_getElem il']; rfl
      generalize ns[i.toNat] = cell at hcell
      refine ⟨_, rfl, h, _, _, _, rfl, rfl, SqL.of hh, rfl, _, rfl, h, _, _, _, rfl, rfl, SqL.of hh, rfl, c, _, _, _, rfl, rfl, SqL.of hc, atI_get i0 hcell, ?_⟩
      refine ⟨_, rfl, h, _, _, _, rfl, rfl, SqL.of hh, rfl, _, _, rfl, rfl, _, rfl, h, _, _, 1, rfl, rfl, hh, rfl, ?_⟩
      have hh1 : upd H h (.lst [.ref c, .int (i + 1), .int a, .int b, .int d]) h = some (.lst [.ref c, .int (i + 1), .int a, .int b, .int d]) := upd_same
      refine ⟨_, rfl, h, _, _, _, rfl, rfl, SqL.of hh1, rfl, _, _, rfl, rfl, mul_c (by decide) (by decide), _, rfl, _, _, rfl, rfl, _, _, rfl, rfl, .inl ⟨_, rfl, _, _, rfl, rfl, (by decide : (0 : Int) < 2147483629), _, rfl, h, _, _, 3, rfl, rfl, hh1, rfl, ?_⟩⟩
      have hh2 := upd_same (H := upd H h (.lst [.ref c, .int (i + 1), .int a, .int b, .int d])) (a := h) (o := .lst [.ref c, .int (i + 1), .int a, .int ((b * 69621 + cell + 11) % 2147483629), .int d])
      have hc2 : upd (upd H h (.lst [.ref c, .int (i + 1), .int a, .int b, .int d])) h (.lst [.ref c, .int (i + 1), .int a, .int ((b * 69621 + cell + 11) % 2147483629), .int d]) c = some (.lst (ns.map V.int)) := by rw [upd_ne nch, upd_ne nch]; exact hc
      refine ⟨_, rfl, _, _, rfl, rfl, ⟨by decide, by decide, by decide⟩, _, _, rfl, rfl, _, rfl, ?_⟩
      by_cases big : (10 : Int) ^ (18 : Int).toNat ≤ cell
      · refine iteD big ?_
        refine ⟨_, rfl, _, rfl, h, _, _, 2, rfl, rfl, hh2, rfl, ?_⟩
        exact draw_tail (i := i + 1) upd_same (by rw [upd_ne nch]; exact hc2) (by omega) nch m1 m2 fun H' d b r f => q H' d (((But.upd.trans But.upd).trans But.upd).trans b) r f
      · refine iteDF big ?_
        exact draw_tail (i := i + 1) hh2 hc2 (by omega) nch m1 m2 fun H' d b r f => q H' d ((But.upd.trans But.upd).trans b) r f
    · refine iteDF il ?_
      exact draw_tail hh hc i0 nch m1 m2 q
  · refine iteDF ea ?_
    exact draw_tail hh hc i0 nch m1 m2 q
end
end Fv
namespace Fv
open PySem L2
def TriR : Rl (Nat × Nat × Nat) := fun H v t => ∃ a, v = .ref a ∧ H a = some (.tup [.int t.1, .int t.2.1, .int t.2.2])
theorem tri_mono : Mono TriR := ⟨fun t ⟨a, e, h⟩ => ⟨a, e, t.tup _ _ h⟩⟩
section
variable {P : Program} {w : World} {K : PySem.W.Frag} {mg : Str → Option Value} {base : Heap} {CN CT dS : Addr}
def sp__law_some : Sp := fun vs H Q _ => ∃ (h c t : Addr) (xs : List V), vs = [.ref h, .ref t] ∧ HandR H h c ∧ H t = some (.lst xs) ∧ t ≠ h ∧ 0 < xs.length ∧ xs.length ≤ 100000 ∧ ∀ H' v, But h H H' → HandR H' h c → v ∈ xs → Q v H'
theorem cal__law_some (T : Txt w K mg CN CT dS) : Cal P w K mg base "_law_some" ["_law_hand_here", "_law_things"] 2 sp__law_some := by
  have g__law_draw := cal__law_draw (P := P) (base := base) T
  refine cal_mk T.f__law_some (fun F => F.ok sc__law_some (fun vs H Q E h => ?_) (fun cdv A outer s H vs Q E hr h => ?_)) (fun F => F.binds fun _ _ _ _ _ _ us hl => match us, hl with | [_, _], _ => rfl)
  · obtain ⟨h, c, t, xs, rfl, _⟩ := h
    rfl
  obtain ⟨h, c, t, xs, rfl, hd, ht, nth, l1, l2, q⟩ := h
  refine ⟨_, (pss_one (ps_ret (pe_ix (r := rIxL K) ix_list (pv 1) (pe_fn g__law_draw (hr.mono (by decide)) (by rfl) (pa_cons (pv 0) (pa_cons (pe_callB (r := rLenQ K) call_lenQ (by rfl) T.len (by decide +kernel) (pa_cons (pv 1) pa_nil)) pa_nil))) (fun _ _ => rfl)))), ?_⟩
  refine ⟨_, rfl, _, rfl, _, rfl, t, xs, rfl, .inl (SqL.of ht), h, c, xs.length, rfl, hd, l1, l2, fun H1 d b r f => ?_⟩
  have hx : xs[d]? = some xs[d] := List.getElem?_eq_getElem f
  exact ⟨t, xs, _, _, rfl, rfl, SqL.of (b _ _ nth ht), atI_nat hx, q H1 _ b r (List.getElem_mem f)⟩
def sp__law_exchanges : Sp := fun vs H Q _ => ∃ n : Nat, vs = [.int n] ∧ n ≤ 8 ∧ ∀ H' l ts, Same H H' → H l = none → LA TriR H' l ts → (∀ t ∈ ts, t.1 < t.2.1 ∧ t.2.1 < t.2.2 ∧ t.2.2 ≤ n) → (2 ≤ n → ts ≠ []) → ts.length ≤ 1000 → Q (.ref l) H'
theorem cal__law_exchanges (T : Txt w K mg CN CT dS) : Cal P w K mg base "_law_exchanges" ["_law_lanes"] 1 sp__law_exchanges := by
  refine cal_mk T.f__law_exchanges (fun F => F.ok sc__law_exchanges (fun vs H Q E h => ?_) (fun cdv A outer s H vs Q E hr h => ?_)) (fun F => F.binds fun _ _ _ _ _ _ us hl => match us, hl with | [_], _ => rfl)
  · obtain ⟨n, rfl, _⟩ := h
    rfl
  obtain ⟨n, rfl, hn, q⟩ := h
  refine ⟨_, (pss_cons (ps_set (i := 1) sc__law_exchanges.nd rfl (Or.inl rfl) (pe_lst pa_nil))
      (pss_cons (ps_for PassesOwn.never rfl (pi_range1 (by rfl) T.range (pa_cons (pv 0) pa_nil)) (pg_name (i := 2) sc__law_exchanges.nd rfl (Or.inr rfl)) 
        (pss_one (ps_for PassesOwn.never rfl (pi_range2 (by rfl) T.range (pa_cons (pe_op op_add (pv 2) pe_int) (pa_cons (pv 0) pa_nil))) (pg_name (i := 3) sc__law_exchanges.nd rfl (Or.inr rfl)) 
          (pss_one (ps_expr (pe_bm PySem.F.plainAttrs_list PySem.F.slot_list_extend PySem.F.type_list_extend mt_extend (pv 1) (pa_cons (pe_lc (own := [("_law_c", 4)]) (g := gName 4) rfl sc__law_exchanges.nd (pi_range2 (by rfl) T.range (pa_cons (pe_op op_add (pv 3) pe_int) (pa_cons (pe_op op_add (pv 0) pe_int) pa_nil))) (blkOk_by (N := n__law_exchanges) (sc := defScope s__law_exchanges) (by decide +kernel)) (fun _ _ _ _ _ => (pg_name (i := 4) sc__law_exchanges.nd rfl (Or.inl rfl))) (fun _ _ _ _ _ => pts_nil) (fun _ _ _ _ _ => (pe_tup (pa_cons (pv 2) (pa_cons (pv 3) (pa_cons (pv 4) pa_nil)))))) pa_nil)))))))
      (pss_one (ps_ret (pv 1))))), ?_⟩
  refine ⟨Nat.zero_le _, fun l hl => ?_⟩
  have s0 := same_new (o := .lst []) hl
  refine ⟨_, rfl, n, rfl, by omega, by omega, ?_⟩
  refine for_it walk_range (fun i σ H1 => ∃ (v2 v3 v4 : Option V) (ts : List (Nat × Nat × Nat)), σ = [some (.int n), some (.ref l), v2, v3, v4] ∧ Same H H1 ∧ LA TriR H1 l ts ∧ (∀ t ∈ ts, t.1 < t.2.1 ∧ t.2.1 < t.2.2 ∧ t.2.2 ≤ n) ∧ (1 ≤ i → 2 ≤ n → ts ≠ []) ∧ ts.length ≤ i * 64)
    ⟨_, _, _, [], rfl, s0, ⟨[], upd_same, .nil⟩, (fun _ h => nomatch h), fun h => absurd h (by omega), Nat.zero_le _⟩ (fun _ _ _ _ _ => trivial) ?_ ?_
  · rintro i x σ H1 H1' hi ⟨v2, v3, v4, ts, rfl, s1, la, ok, ne, lz⟩ ⟨rfl, hx⟩
    have hx : x = .int (0 + (i : Nat)) := hx
    rw [Int.zero_add] at hx
    subst hx
    have hi8 : i < 8 := by omega
    refine ⟨_, rfl, _, _, rfl, rfl, _, rfl, _, _, rfl, ⟨by omega, by omega, by omega, by omega⟩, ?_⟩
    refine for_it walk_range (fun j σ H2 => ∃ (v3 v4 : Option V) (us : List (Nat × Nat × Nat)), σ = [some (.int n), some (.ref l), some (.int (i : Nat)), v3, v4] ∧ Same H H2 ∧ LA TriR H2 l us ∧ (∀ t ∈ us, t.1 < t.2.1 ∧ t.2.1 < t.2.2 ∧ t.2.2 ≤ n) ∧ (1 ≤ i ∨ 1 ≤ j → 2 ≤ n → us ≠ []) ∧ us.length ≤ i * 64 + j * 8)
      ⟨_, _, ts, rfl, s1, la, ok, (fun h => h.elim ne (fun h => absurd h (by omega))), by omega⟩ (fun _ _ _ _ _ => trivial) ?_ ?_
    · rintro j x σ H2 H2' hj ⟨v3, v4, us, rfl, s2, ⟨vs, e2, pv⟩, ok2, ne2, lz2⟩ ⟨rfl, hx⟩
      have hx : x = .int ((i : Int) + 1 + (j : Nat)) := hx
      have e : (i : Int) + 1 + (j : Nat) = ((i + 1 + j : Nat) : Int) := by omega
      rw [e] at hx
      subst hx
      have hjn : i + 1 + j < n := by omega
      have vl : vs.length = us.length := Paired.length pv
      refine ⟨_, rfl, .inl ⟨rfl, _, SqL.of e2⟩, _, rfl, _, _, rfl, rfl, _, rfl, _, _, rfl, rfl, _, _, rfl, ⟨by omega, by omega, by omega, by omega⟩, fun D hD => ?_⟩
      refine lcY walk_range tri_mono (fun k => (List.range k).map fun z => (i, i + 1 + j, i + 1 + j + 1 + z)) hD rfl (fun k hk => by simp; omega) (fun _ _ => trivial) ?_ mono_name ?_
      · rintro k x H3 H3' hk s4 ⟨rfl, hx⟩ Ny hNy
        have hx : x = .int (((i + 1 + j : Nat) : Int) + 1 + (k : Nat)) := hx
        have e : ((i + 1 + j : Nat) : Int) + 1 + (k : Nat) = ((i + 1 + j + 1 + k : Nat) : Int) := by omega
        rw [e] at hx
        subst hx
        refine ⟨rfl, _, rfl, _, rfl, _, rfl, by show 3 ≤ sizeLine; decide, fun p hp => hNy _ _ (i, i + 1 + j, i + 1 + j + 1 + k) (same_new hp) ⟨p, rfl, upd_same⟩ ?_⟩
        show (List.range (k + 1)).map _ = _
        rw [List.range_succ, List.map_append]
        rfl
      · intro H3 ws s4 hw pw
        have cnt : ((n : Int) + 1 - (((i + 1 + j : Nat) : Int) + 1)).toNat = n - (i + 1 + j) := by omega
        rw [cnt] at pw
        have lw : ws.length = n - (i + 1 + j) := by rw [Paired.length pw, List.length_map, List.length_range]
        have t0 : TS H3 (upd H3 l (.lst (vs ++ ws))) := TS.upd (by rw [s4 _ _ e2]; trivial)
        refine ⟨l, D, vs, ws, rfl, rfl, s4 _ _ e2, hw, sz1000 (by omega), _, _, us ++ (List.range (n - (i + 1 + j))).map (fun z => (i, i + 1 + j, i + 1 + j + 1 + z)), rfl, same_mut (s2.trans s4) hl, ⟨_, upd_same, papp (tri_mono.all ((TS.of s4).trans t0) pv) (tri_mono.all t0 pw)⟩, ?_, ?_, ?_⟩
        · intro t ht
          rcases List.mem_append.mp ht with ht | ht
          · exact ok2 t ht
          · obtain ⟨z, hz, rfl⟩ := List.mem_map.mp ht
            have := List.mem_range.mp hz
            exact ⟨by show i < i + 1 + j; omega, by show i + 1 + j < i + 1 + j + 1 + z; omega, by show i + 1 + j + 1 + z ≤ n; omega⟩
        · intro _ _ e
          have := congrArg List.length e
          rw [List.length_append, List.length_map, List.length_range, List.length_nil] at this
          omega
        · rw [List.length_append, List.length_map, List.length_range]; omega
    · rintro σ H2 ⟨v3, v4, us, rfl, s2, la2, ok2, ne2, lz2⟩
      exact ⟨_, _, _, us, rfl, s2, la2, ok2, (fun _ h2 => ne2 (by omega) h2), by omega⟩
  · rintro σ H1 ⟨v2, v3, v4, ts, rfl, s1, la, ok, ne, lz⟩
    rw [Int.toNat_natCast] at *
    exact ⟨_, rfl, q H1 l ts s1 hl la ok (fun h => ne (by omega) h) (by omega)⟩
def sp__law_worked : Sp := fun vs H Q _ => ∃ (v : V) (b : Addr) (st : Stp) (row : List Int) (L : Nat), vs = [v, .ref b] ∧ StpR H v st ∧ H b = some (.tup (row.map V.int)) ∧ okStp L row.length st ∧ row.length ≤ 1000 ∧
  ∀ H' p, Same H H' → H' p = some (.tup ((act st id row).map V.int)) → Q (.ref p) H'
theorem cal__law_worked (T : Txt w K mg CN CT dS) : Cal P w K mg base "_law_worked" ["_law_step_here", "_law_row"] 2 sp__law_worked := by
  have g__law_exchanged := cal__law_exchanged (P := P) (base := base) T
  refine cal_mk T.f__law_worked (fun F => F.ok sc__law_worked (fun vs H Q E h => ?_) (fun cdv A outer s H vs Q E hr h => ?_)) (fun F => F.binds fun _ _ _ _ _ _ us hl => match us, hl with | [_, _], _ => rfl)
  · obtain ⟨v, b, st, row, L, rfl, _⟩ := h
    rfl
  obtain ⟨v, b, st, row, L, rfl, ⟨a, us, rfl, h1, hs⟩, hb, ok, hz, q⟩ := h
  refine ⟨_, (pss_cons (ps_set (i := 2) sc__law_worked.nd rfl (Or.inl rfl) (pe_ix (r := rIxT K) ix_tup (pv 0) pe_int (fun _ _ => rfl)))
      (pss_cons (ps_if (pt_cmpR op_eq (pe_ix (r := rIxT K) ix_tup (pv 0) pe_int (fun _ _ => rfl)) pe_str (nomark _)) 
        (pss_one (ps_ret (pe_op (r := rCatQ) op_catQ (pe_slice (r := rSlQ) sl_tupQ (pv 1) po_none (po_some (pe_op op_add (pv 2) pe_int))) (pe_slice (r := rSlQ) sl_tupQ (pv 1) (po_some (pv 2)) po_none)))) pss_nil)
      (pss_cons (ps_if (pt_cmpR op_eq (pe_ix (r := rIxT K) ix_tup (pv 0) pe_int (fun _ _ => rfl)) pe_str (nomark _)) 
        (pss_one (ps_ret (pe_op (r := rCatQ) op_catQ (pe_slice (r := rSlQ) sl_tupQ (pv 1) po_none (po_some (pv 2))) (pe_slice (r := rSlQ) sl_tupQ (pv 1) (po_some (pe_op op_add (pv 2) pe_int)) po_none)))) pss_nil)
      (pss_cons (ps_if (pt_cmpR op_eq (pe_ix (r := rIxT K) ix_tup (pv 0) pe_int (fun _ _ => rfl)) pe_str (nomark _)) 
        (pss_one (ps_ret (pe_fn g__law_exchanged (hr.mono (by decide)) (by rfl) (pa_cons (pv 1) (pa_cons (pe_ix (r := rIxT K) ix_tup (pv 0) pe_int (fun _ _ => rfl)) (pa_cons (pe_ix (r := rIxT K) ix_tup (pv 0) pe_int (fun _ _ => rfl)) (pa_cons (pe_ix (r := rIxT K) ix_tup (pv 0) pe_int (fun _ _ => rfl)) pa_nil))))))) pss_nil)
      (pss_cons (ps_set (i := 3) sc__law_worked.nd rfl (Or.inl rfl) (pe_slice (r := rSlQ) sl_tupQ (pv 1) (po_some (pv 2)) (po_some (pe_op op_add (pv 2) (pe_ix (r := rIxT K) ix_tup (pv 0) pe_int (fun _ _ => rfl))))))
      (pss_cons (ps_set (i := 4) sc__law_worked.nd rfl (Or.inl rfl) (pe_dget2 (hu_of hr) (pe_callTy (call_dictT rfl hr.units) (by rfl) T.dict (by decide +kernel) (pa_cons (pe_ix (r := rIxT K) ix_tup (pv 0) pe_int (fun _ _ => rfl)) pa_nil)) (pv 3) (pe_ix (r := rIxT K) ix_tup (pv 0) pe_int (fun _ _ => rfl)) ⟨rfl, rfl, rfl, rfl⟩))
      (pss_one (ps_ret (pe_op (r := rCatQ) op_catQ (pe_op (r := rCatQ) op_catQ (pe_slice (r := rSlQ) sl_tupQ (pv 1) po_none (po_some (pv 2))) (pe_tup (pa_cons (pe_ix (r := rIxT K) ix_tup (pv 3) (pv 4) (fun _ _ => rfl)) pa_nil))) (pe_slice (r := rSlQ) sl_tupQ (pv 1) (po_some (pe_op op_add (pv 2) (pe_ix (r := rIxT K) ix_tup (pv 0) pe_int (fun _ _ => rfl)))) po_none)))))))))), ?_⟩
  have ll : (row.map V.int).length = row.length := List.length_map _
  cases st with
  | dbl k =>
    cases (show us = _ from hs)
    have hk := ok.1
    have e1 : (k : Int) + 1 = ((k + 1 : Nat) : Int) := by omega
    refine ⟨_, rfl, _, _, _, _, rfl, rfl, SqT.of h1, rfl, ?_⟩
    refine ⟨_, rfl, _, _, _, _, rfl, rfl, SqT.of h1, rfl, rfl, _, rfl, iteD rfl ?_⟩
    refine ⟨_, rfl, _, rfl, _, _, rfl, rfl, _, rfl, b, _, rfl, hb, fun H1 p1 s1 g1 => ?_⟩
    rw [e1, cut_ns (by omega)] at g1
    refine ⟨_, rfl, _, rfl, _, rfl, b, _, rfl, s1 _ _ hb, fun H2 p2 s2 g2 => ?_⟩
    rw [cut_sn (by omega)] at g2
    refine ⟨p1, p2, _, _, rfl, rfl, s2 _ _ g1, g2, sz1000 (by rw [List.length_take, List.length_drop]; omega), fun H3 p3 s3 g3 => q H3 p3 ((s1.trans s2).trans s3) ?_⟩
    rw [g3, ← List.map_take, ← List.map_drop, ← List.map_append]
    rfl
  | strk k =>
    cases (show us = _ from hs)
    have hk := ok.1
    have e1 : (k : Int) + 1 = ((k + 1 : Nat) : Int) := by omega
    refine ⟨_, rfl, _, _, _, _, rfl, rfl, SqT.of h1, rfl, ?_⟩
    refine ⟨_, rfl, _, _, _, _, rfl, rfl, SqT.of h1, rfl, rfl, _, rfl, iteDF ne_sd ?_⟩
    refine ⟨_, rfl, _, _, _, _, rfl, rfl, SqT.of h1, rfl, rfl, _, rfl, iteD rfl ?_⟩
    refine ⟨_, rfl, _, rfl, _, rfl, b, _, rfl, hb, fun H1 p1 s1 g1 => ?_⟩
    rw [cut_ns (by omega)] at g1
    refine ⟨_, rfl, _, rfl, _, _, rfl, rfl, _, rfl, b, _, rfl, s1 _ _ hb, fun H2 p2 s2 g2 => ?_⟩
    rw [e1, cut_sn (by omega)] at g2
    refine ⟨p1, p2, _, _, rfl, rfl, s2 _ _ g1, g2, sz1000 (by rw [List.length_take, List.length_drop]; omega), fun H3 p3 s3 g3 => q H3 p3 ((s1.trans s2).trans s3) ?_⟩
    rw [g3, ← List.map_take, ← List.map_drop, ← List.map_append]
    rfl
  | fly c d e =>
    cases (show us = _ from hs)
    obtain ⟨o1, o2, o3⟩ := ok
    refine ⟨_, rfl, _, _, _, _, rfl, rfl, SqT.of h1, rfl, ?_⟩
    refine ⟨_, rfl, _, _, _, _, rfl, rfl, SqT.of h1, rfl, rfl, _, rfl, iteDF ne_fd ?_⟩
    refine ⟨_, rfl, _, _, _, _, rfl, rfl, SqT.of h1, rfl, rfl, _, rfl, iteDF ne_fs ?_⟩
    refine ⟨_, rfl, _, _, _, _, rfl, rfl, SqT.of h1, rfl, rfl, _, rfl, iteD rfl ?_⟩
    refine ⟨_, rfl, _, rfl, _, _, _, _, rfl, rfl, SqT.of h1, rfl, _, rfl, _, _, _, _, rfl, rfl, SqT.of h1, rfl, _, rfl, _, _, _, _, rfl, rfl, SqT.of h1, rfl, b, _, c, d, e, rfl, hb, o1, o2, by omega, by omega, fun H1 p1 s1 g1 => q H1 p1 s1 ?_⟩
    rw [g1]
    simp only [act, List.map_append, List.map_take, List.map_drop]
  | chs k w' p o =>
    obtain ⟨t, e, ho⟩ := id hs
    subst e
    obtain ⟨a', ob, us', rfl, to, f1, f2⟩ := ho
    obtain ⟨o1, o2, o3, o4⟩ := ok
    refine ⟨_, rfl, _, _, _, _, rfl, rfl, SqT.of h1, rfl, ?_⟩
    refine ⟨_, rfl, _, _, _, _, rfl, rfl, SqT.of h1, rfl, rfl, _, rfl, iteDF ne_cd ?_⟩
    refine ⟨_, rfl, _, _, _, _, rfl, rfl, SqT.of h1, rfl, rfl, _, rfl, iteDF ne_cs ?_⟩
    refine ⟨_, rfl, _, _, _, _, rfl, rfl, SqT.of h1, rfl, rfl, _, rfl, iteDF ne_cf ?_⟩
    have ekw : ((k : Int) + (w' : Int)) = ((k + w' : Nat) : Int) := by omega
    refine ⟨_, rfl, _, rfl, _, rfl, _, rfl, _, rfl, _, _, _, _, rfl, rfl, SqT.of h1, rfl, _, _, rfl, rfl, _, rfl, b, _, rfl, hb, fun H1 p1 s1 g1 => ?_⟩
    rw [ekw, cut_ss (by omega) (by omega), Nat.add_sub_cancel_left, ← List.map_drop, ← List.map_take] at g1
    have sl : ((row.drop k).take w').length = w' := by rw [List.length_take, List.length_drop]; omega
    obtain ⟨ps, i1, i2, i3⟩ := others_ps (pair_mono.all (.of s1) f2)
    refine ⟨_, rfl, _, _, _, _, rfl, rfl, SqT.of (s1 _ _ h1), rfl, a', ob, ps, rfl, to, by rw [← i1]; exact s1 _ _ f1, i2, fun d hd => ?_⟩
    rw [i3]
    have s2 := same_new (o := .dT (mergeT (o.map fun q => (rk q.1, V.int (q.2 : Nat))))) hd
    have s12 := s1.trans s2
    refine ⟨d, rfl, .inr ⟨_, .inl upd_same⟩, _, rfl, _, rfl, _, _, _, _, rfl, rfl, SqT.of (s12 _ _ h1), rfl, _, DGet.t (k := rk ((row.drop k).take w')) upd_same (by rw [rk_kV]; exact s2 _ _ g1), ?_⟩
    rw [dict_pick0]
    have hpk : pick o p ((row.drop k).take w') < w' := pick_lt o3 fun q hq => (o4.2.1 q hq).2.2
    have hg : ((row.drop k).take w')[pick o p ((row.drop k).take w')]? = some _ := List.getElem?_eq_getElem (by rw [sl]; exact hpk)
    generalize (((row.drop k).take w')[pick o p ((row.drop k).take w')]'(by rw [sl]; exact hpk)) = y at hg
    have hg' : (((row.drop k).take w').map V.int)[pick o p ((row.drop k).take w')]? = some (V.int y) := by rw [List.getElem?_map, hg]; rfl
    refine ⟨_, rfl, _, rfl, _, rfl, b, _, rfl, s12 _ _ hb, fun H4 p4 s4 g4 => ?_⟩
    rw [cut_ns (by omega)] at g4
    have s24 := s2.trans s4
    refine ⟨_, rfl, _, rfl, p1, _, _, _, rfl, rfl, SqT.of (s24 _ _ g1), atI_nat hg', by show 1 ≤ sizeLine; decide, fun p5 hp5 => ?_⟩
    have s5 := same_new (o := .tup [.int y]) hp5
    refine ⟨p4, p5, _, _, rfl, rfl, s5 _ _ g4, upd_same, sz1000 (by rw [List.length_take]; show min k _ + 1 ≤ _; omega), fun H6 p6 s6 g6 => ?_⟩
    have s16 := s12.trans (s4.trans (s5.trans s6))
    refine ⟨_, rfl, _, rfl, _, rfl, _, _, _, _, rfl, rfl, SqT.of (s16 _ _ h1), rfl, _, _, rfl, rfl, _, rfl, b, _, rfl, s16 _ _ hb, fun H7 p7 s7 g7 => ?_⟩
    rw [ekw, cut_sn (by omega)] at g7
    refine ⟨p6, p7, _, _, rfl, rfl, s7 _ _ g6, g7, sz1000 (by rw [List.length_append, List.length_take, List.length_drop]; show min k _ + 1 + _ ≤ _; omega), fun H8 p8 s8 g8 => q H8 p8 (s16.trans (s7.trans s8)) ?_⟩
    rw [g8]
    have e5 : (row.drop (k + pick o p ((row.drop k).take w'))).take 1 = [y] := by
      have z : row[k + pick o p ((row.drop k).take w')]? = some y := by
        rw [List.getElem?_take_of_lt hpk, List.getElem?_drop] at hg
        exact hg
      have hlt := (List.getElem?_eq_some_iff.mp z).1
      rw [List.drop_eq_getElem_cons hlt, (List.getElem?_eq_some_iff.mp z).2]
      rfl
    simp only [act, List.map_id, e5, List.map_append, List.map_take, List.map_drop]
    rfl
def sp__law_led : Sp := fun vs H Q _ => ∃ (ls b : Addr) (steps : List Stp) (row : List Int) (L : Nat), vs = [.ref ls, .ref b] ∧ LA StpR H ls steps ∧ H b = some (.tup (row.map V.int)) ∧ okSteps L row.length steps ∧ 1 ≤ row.length ∧ row.length ≤ 1000 ∧
  ∀ H' p, Same H H' → H' p = some (.tup ((run steps row).map V.int)) → Q (.ref p) H'
theorem cal__law_led (T : Txt w K mg CN CT dS) : Cal P w K mg base "_law_led" ["_law_steps", "_law_row"] 3 sp__law_led := by
  have g__law_worked := cal__law_worked (P := P) (base := base) T
  refine cal_mk T.f__law_led (fun F => F.ok sc__law_led (fun vs H Q E h => ?_) (fun cdv A outer s H vs Q E hr h => ?_)) (fun F => F.binds fun _ _ _ _ _ _ us hl => match us, hl with | [_, _], _ => rfl)
  · obtain ⟨ls, b, steps, row, L, rfl, _⟩ := h
    rfl
  obtain ⟨ls, b, steps, row, L, rfl, ⟨us, hl, pu⟩, hb, ok, n1, n2, q⟩ := h
  refine ⟨_, (pss_cons (ps_for PassesOwn.never rfl (pi_list (pv 0)) (pg_name (i := 2) sc__law_led.nd rfl (Or.inl rfl)) 
        (pss_one (ps_set (i := 1) sc__law_led.nd rfl (Or.inl rfl) (pe_fn g__law_worked (hr.mono (by decide)) (by rfl) (pa_cons (pv 2) (pa_cons (pv 1) pa_nil))))))
      (pss_one (ps_ret (pv 1)))), ?_⟩
  have ul : us.length = steps.length := Paired.length pu
  refine ⟨_, rfl, ls, rfl, ⟨_, SqL.of hl⟩, ?_⟩
  refine for_it walk_list (fun i σ H1 => ∃ (v2 : Option V) (p : Addr), σ = [some (.ref ls), some (.ref p), v2] ∧ Same H H1 ∧ H1 p = some (.tup ((run (steps.take i) row).map V.int))) ⟨_, b, rfl, Same.refl H, hb⟩ (fun i σ H1 _ ⟨_, _, _, s1, _⟩ => SqL.of (s1 _ _ hl)) ?_ ?_
  · rintro i x σ H1 H1' hi ⟨v2, p, rfl, s1, hp⟩ ⟨rfl, hx⟩
    obtain ⟨st, hst, g⟩ := pgetL pu hx
    have ok1 := okSteps_at ok hst
    have tk : steps.take (i + 1) = steps.take i ++ [st] := take_one_more hst
    have ok0 : okSteps L row.length (steps.take i) := by
      have z := ok
      rw [← List.take_append_drop i steps, okSteps_append] at z
      exact z.1
    have rl : (run (steps.take i) row).length = afters row.length (steps.take i) := run_len ok0
    have a2 := (okSteps_afters ok0 n1 n2).2
    refine ⟨_, rfl, _, rfl, x, p, st, _, L, rfl, stp_mono.mono (.of s1) g, hp, by rw [rl]; exact ok1, by rw [rl]; exact a2, fun H2 p2 s2 g2 => ⟨_, p2, rfl, s1.trans s2, ?_⟩⟩
    rw [g2, tk, run_snoc]
  · rintro σ H1 ⟨v2, p, rfl, s1, hp⟩
    rw [ul, List.take_length] at hp
    exact ⟨_, rfl, q H1 p s1 hp⟩
def sp__law_bent : Sp := fun vs H Q _ => ∃ (ls : Addr) (steps : List Stp) (i p : Nat), vs = [.ref ls, .int i, .int p] ∧ LA StpR H ls steps ∧ (i, p) ∈ bends steps ∧ steps.length ≤ 1000 ∧ ∀ H' l, Same H H' → LA StpR H' l (bent steps i p) → Q (.ref l) H'
theorem cal__law_bent (T : Txt w K mg CN CT dS) : Cal P w K mg base "_law_bent" ["_law_steps", "_law_index", "_law_place"] 1 sp__law_bent := by
  refine cal_mk T.f__law_bent (fun F => F.ok sc__law_bent (fun vs H Q E h => ?_) (fun cdv A outer s H vs Q E hr h => ?_)) (fun F => F.binds fun _ _ _ _ _ _ us hl => match us, hl with | [_, _, _], _ => rfl)
  · obtain ⟨ls, steps, i, p, rfl, _⟩ := h
    rfl
  obtain ⟨ls, steps, i, p, rfl, ⟨us, hl, pu⟩, hb, hz, q⟩ := h
  refine ⟨_, (pss_cons (ps_set (i := 3) sc__law_bent.nd rfl (Or.inl rfl) (pe_ix (r := rIxL K) ix_list (pv 0) (pv 1) (fun _ _ => rfl)))
      (pss_one (ps_ret (pe_op (r := rCatLQ) op_catLQ (pe_op (r := rCatLQ) op_catLQ (pe_slice (r := rSlLQ K) sl_listQ (pv 0) po_none (po_some (pv 1))) (pe_lst (pa_cons (pe_op (r := rCatQ) op_catQ (pe_slice (r := rSlQ) sl_tupQ (pv 3) po_none (po_some pe_int)) (pe_tup (pa_cons (pv 2) (pa_cons (pe_tupF pa_nil) pa_nil)))) pa_nil))) (pe_slice (r := rSlLQ K) sl_listQ (pv 0) (po_some (pe_op op_add (pv 1) pe_int)) po_none))))), ?_⟩
  have ul : us.length = steps.length := Paired.length pu
  obtain ⟨k, w', p0, o, hst, hp⟩ := mem_bends hb
  have hst : steps[i]? = some (.chs k w' p0 o) := hst
  obtain ⟨v, hv, a, fs, rfl, ha, t, e, ho⟩ := pget pu hst
  subst e
  have il : i < us.length := (List.getElem?_eq_some_iff.mp hv).1
  have e1 : (i : Int) + 1 = ((i + 1 : Nat) : Int) := by omega
  refine ⟨_, rfl, _, rfl, ls, us, _, _, rfl, rfl, SqL.of hl, atI_nat hv, ?_⟩
  refine ⟨_, rfl, _, rfl, _, rfl, ls, us, rfl, SqL.of hl, fun H1 p1 s1 n1 g1 => ?_⟩
  rw [cut_ns (by omega)] at g1
  refine ⟨_, rfl, 3, rfl, a, _, rfl, s1 _ _ ha, fun H2 a2 s2 g2 => ?_⟩
  have g2 : H2 a2 = some (.tup [.str "choose", .int k, .int w']) := g2
  refine ⟨_, rfl, Nat.zero_le _, fun a3 ob tob ha3 => ⟨by show 2 ≤ sizeLine; decide, fun a4 ha4 => ?_⟩⟩
  have s3 := same_new (o := .frz ob (.tup [])) ha3
  have s4 := same_new (o := .tup [.int (p : Nat), .ref a3]) ha4
  refine ⟨a2, a4, _, _, rfl, rfl, s4 _ _ (s3 _ _ g2), upd_same, by show 3 + 2 ≤ sizeLine; decide, fun H5 a5 s5 g5 => ?_⟩
  have g5 : H5 a5 = some (.tup [.str "choose", .int k, .int w', .int p, .ref a3]) := g5
  refine ⟨by show 1 ≤ sizeLine; decide, fun l6 hl6 => ?_⟩
  have s6 := same_new (o := .lst [.ref a5]) hl6
  have s26 := s2.trans ((s3.trans s4).trans (s5.trans s6))
  refine ⟨p1, l6, _, _, rfl, rfl, s26 _ _ g1, upd_same, sz1000 (by rw [List.length_take]; show min i _ + 1 ≤ _; omega), fun H7 p7 s7 n7 g7 => ?_⟩
  have s17 := (s1.trans s26).trans s7
  refine ⟨_, rfl, _, rfl, _, _, rfl, rfl, _, rfl, ls, us, rfl, SqL.of (s17 _ _ hl), fun H8 p8 s8 n8 g8 => ?_⟩
  rw [e1, cut_sn (by omega)] at g8
  refine ⟨p7, p8, _, _, rfl, rfl, s8 _ _ g7, g8, sz1000 (by rw [List.length_append, List.length_take, List.length_drop]; show min i _ + 1 + _ ≤ _; omega), fun H9 p9 s9 n9 g9 => ?_⟩
  have s89 := s8.trans s9
  have s19 := s17.trans s89
  refine q H9 p9 s19 ⟨_, g9, ?_⟩
  have es : us.take i ++ [.ref a5] ++ us.drop (i + 1) = us.set i (.ref a5) := by
    rw [List.set_eq_take_append_cons_drop, if_pos il]
    simp
  rw [es, bent_set hst]
  have s59 := s6.trans (s7.trans s89)
  exact pset (stp_mono.all (.of s19) pu) ⟨a5, _, rfl, s59 _ _ g5, .ref a3, rfl, a3, ob, [], rfl, tob, ((s4.trans s5).trans s59) _ _ upd_same, .nil⟩
def sp__law_bends : Sp := fun vs H Q _ => ∃ (ls : Addr) (steps : List Stp), vs = [.ref ls] ∧ LA StpR H ls steps ∧ steps.length ≤ 1000 ∧ (∀ s ∈ steps, ∀ k w p o, s = Stp.chs k w p o → w ≤ 3) ∧ ∀ H' l, Same H H' → H l = none → LA IPR H' l (bends steps) → Q (.ref l) H'
theorem cal__law_bends (T : Txt w K mg CN CT dS) : Cal P w K mg base "_law_bends" ["_law_steps"] 1 sp__law_bends := by
  refine cal_mk T.f__law_bends (fun F => F.ok sc__law_bends (fun vs H Q E h => ?_) (fun cdv A outer s H vs Q E hr h => ?_)) (fun F => F.binds fun _ _ _ _ _ _ us hl => match us, hl with | [_], _ => rfl)
  · obtain ⟨ls, steps, rfl, _⟩ := h
    rfl
  obtain ⟨ls, steps, rfl, ⟨us, h2, h3⟩, hz, hw3, q⟩ := h
  refine ⟨_, (pss_cons (ps_set (i := 1) sc__law_bends.nd rfl (Or.inl rfl) (pe_lst pa_nil))
      (pss_cons (ps_for PassesOwn.never rfl (pi_enum (by rfl) T.enumerate (pa_cons (pv 0) pa_nil)) (pg_tup rfl (pgs_cons (pg_name (i := 2) sc__law_bends.nd rfl (Or.inr rfl)) (pgs_cons (pg_name (i := 3) sc__law_bends.nd rfl (Or.inl rfl)) pgs_nil))) 
        (pss_one (ps_if (pt_cmpR op_eq (pe_ix (r := rIxT K) ix_tup (pv 3) pe_int (fun _ _ => rfl)) pe_str (nomark _)) 
          (pss_one (ps_expr (pe_bm PySem.F.plainAttrs_list PySem.F.slot_list_extend PySem.F.type_list_extend mt_extend (pv 1) (pa_cons (pe_lc (own := [("_law_place", 4)]) (g := gName 4) rfl sc__law_bends.nd (pi_range1 (by rfl) T.range (pa_cons (pe_ix (r := rIxT K) ix_tup (pv 3) pe_int (fun _ _ => rfl)) pa_nil)) (blkOk_by (N := n__law_bends) (sc := defScope s__law_bends) (by decide +kernel)) (fun _ _ _ _ _ => (pg_name (i := 4) sc__law_bends.nd rfl (Or.inl rfl))) (fun _ _ _ _ _ => pts_nil) (fun _ _ _ _ _ => (pe_tup (pa_cons (pv 2) (pa_cons (pv 4) pa_nil))))) pa_nil)))) pss_nil)))
      (pss_one (ps_ret (pv 1))))), ?_⟩
  have ul : us.length = steps.length := Paired.length h3
  refine ⟨Nat.zero_le _, fun l hl => ?_⟩
  have s0 := same_new (o := .lst []) hl
  refine ⟨_, rfl, ls, us, rfl, SqL.of (s0 _ _ h2), ?_⟩
  refine for_it walk_enum (fun i σ H1 => ∃ (v2 v3 v4 : Option V), σ = [some (.ref ls), some (.ref l), v2, v3, v4] ∧ Same H H1 ∧ LA IPR H1 l (bends (steps.take i))) ⟨_, _, _, rfl, s0, [], upd_same, .nil⟩ (fun i σ H1 _ ⟨_, _, _, _, s1, _⟩ => SqL.of (s1 _ _ h2)) ?_ ?_
  · rintro i z σ H1 H1' hi ⟨v2, v3, v4, rfl, s1, vs, e1, pv⟩ ⟨T', x1, x2, rfl, hT, rfl, e2, e3⟩
    have e2 : some (V.int (i : Nat)) = some x1 := e2
    have e3 : us[i]? = some x2 := e3
    obtain ⟨st, hst, a, fs, rfl, ha, hs⟩ := pgetL h3 e3
    cases e2
    have sT := same_new (o := .tup [.int (i : Nat), .ref a]) hT
    have s2 := s1.trans sT
    have tk : steps.take (i + 1) = steps.take i ++ [st] := take_one_more hst
    have il : (steps.take i).length = i := by rw [List.length_take]; omega
    have eb : bends (steps.take (i + 1)) = bends (steps.take i) ++ bendsAt i st := by rw [tk, bends_snoc, il]
    refine ⟨T', _, rfl, SqT.of upd_same, rfl, _, _, rfl, _, _, rfl, rfl, ?_⟩
    cases st with
    | dbl k =>
      cases (show fs = _ from hs)
      refine ⟨_, rfl, _, _, _, _, rfl, rfl, SqT.of (s2 _ _ ha), rfl, rfl, _, rfl, iteDF ne_dc ⟨_, _, _, rfl, s2, ?_⟩⟩
      rw [eb]
      show LA IPR _ l (_ ++ [])
      rw [List.append_nil]
      exact LA.same ip_mono sT ⟨vs, e1, pv⟩
    | strk k =>
      cases (show fs = _ from hs)
      refine ⟨_, rfl, _, _, _, _, rfl, rfl, SqT.of (s2 _ _ ha), rfl, rfl, _, rfl, iteDF ne_sc ⟨_, _, _, rfl, s2, ?_⟩⟩
      rw [eb]
      show LA IPR _ l (_ ++ [])
      rw [List.append_nil]
      exact LA.same ip_mono sT ⟨vs, e1, pv⟩
    | fly a b c =>
      cases (show fs = _ from hs)
      refine ⟨_, rfl, _, _, _, _, rfl, rfl, SqT.of (s2 _ _ ha), rfl, rfl, _, rfl, iteDF ne_fc ⟨_, _, _, rfl, s2, ?_⟩⟩
      rw [eb]
      show LA IPR _ l (_ ++ [])
      rw [List.append_nil]
      exact LA.same ip_mono sT ⟨vs, e1, pv⟩
    | chs k w' p o =>
      obtain ⟨t, e, ho⟩ := hs
      subst e
      refine ⟨_, rfl, _, _, _, _, rfl, rfl, SqT.of (s2 _ _ ha), rfl, rfl, _, rfl, iteD rfl ?_⟩
      have w3 := hw3 _ (List.mem_of_getElem? hst) k w' p o rfl
      have e1' := sT _ _ e1
      refine ⟨_, rfl, .inl ⟨rfl, _, SqL.of e1'⟩, _, rfl, _, _, _, _, rfl, rfl, SqT.of (s2 _ _ ha), rfl, w', rfl, by omega, by omega, fun D hD => ?_⟩
      have nDl : l ≠ D := ne_of_none e1' hD
      refine lcY walk_range ip_mono (fun k => (List.range k).map fun p => (i, p)) hD rfl (fun k hk => by simp; omega) (fun _ _ => trivial) ?_ mono_name ?_
      · rintro k x H3 H3' hk s4 ⟨rfl, rfl⟩ Ny hNy
        refine ⟨rfl, _, rfl, _, rfl, by show 2 ≤ sizeLine; decide, fun p hp => hNy _ _ (i, k) (same_new hp) ⟨p, rfl, ?_⟩ ?_⟩
        · rw [upd_same]
          show some (HO.tup [_, V.int (0 + (k : Int))]) = _
          rw [Int.zero_add]
        · show (List.range (k + 1)).map _ = _
          rw [List.range_succ, List.map_append]
          rfl
      · intro H3 ws s4 hw pw
        have pw : Paired (IPR H3) ws (bendsAt i (.chs k w' p o)) := by
          have pw := pw
          rw [Int.toNat_natCast] at pw
          exact pw
        have lw : ws.length ≤ 3 := by rw [Paired.length pw]; simp [bendsAt]; exact w3
        have lu : vs.length ≤ 3000 := by
          rw [Paired.length pv]
          have := bends_bound (steps.take i) 0 fun s hs => hw3 s (List.mem_of_mem_take hs)
          rw [il] at this
          show (bendsFrom 0 _).length ≤ _
          omega
        refine ⟨l, D, vs, ws, rfl, rfl, s4 _ _ e1', hw, sz1000 (by omega), _, _, _, rfl, same_mut (s2.trans s4) hl, _, upd_same, ?_⟩
        rw [eb]
        have t0 : TS H3 (upd H3 l (.lst (vs ++ ws))) := TS.upd (by rw [s4 _ _ e1']; trivial)
        exact papp (ip_mono.all (((TS.of sT).trans (TS.of s4)).trans t0) pv) (ip_mono.all t0 pw)
  · rintro σ H1 ⟨v2, v3, v4, rfl, s1, la⟩
    rw [ul, List.take_length] at la
    exact ⟨_, rfl, q H1 l s1 hl la⟩
end
end Fv
namespace Fv
open PySem L2
theorem rows_asc {L w : Nat} (h1 : 1 ≤ L) (h2 : L ≤ 4) (hw : w = 2 ∨ w = 3) : (rowsM (lets L) w).Pairwise (fun a b => lexL a b = true) := by
  have hL : L = 1 ∨ L = 2 ∨ L = 3 ∨ L = 4 := by omega
  rcases hL with rfl | rfl | rfl | rfl <;> rcases hw with rfl | rfl <;> decide +kernel
theorem asc_snoc {o : List (List Int × Nat)} {q : List Int × Nat} (h : asc o) (hl : ∀ x ∈ o, lexL x.1 q.1 = true) : asc (o ++ [q]) := by
  intro i x y hx hy
  by_cases hi : i + 1 < o.length
  · rw [List.getElem?_append_left hi] at hy
    rw [List.getElem?_append_left (by omega)] at hx
    exact h i x y hx hy
  · have hlt := (List.getElem?_eq_some_iff.mp hy).1
    rw [List.length_append, List.length_cons, List.length_nil] at hlt
    have e : i + 1 = o.length := by omega
    rw [List.getElem?_append_left (by omega)] at hx
    rw [e, List.getElem?_append_right (Nat.le_refl _), Nat.sub_self] at hy
    have hy : q = y := by simpa using hy
    subst hy
    exact hl x (List.mem_of_getElem? hx)
theorem hand_ne_rows {H : Hp} {h c lr : Addr} {rows : List (List Int)} (r : HandR H h c) (la : LA RowR H lr rows) : lr ≠ h := by
  rintro rfl
  obtain ⟨ns, i, a, b, d, h1, _⟩ := r
  obtain ⟨vs, e, p⟩ := la
  rw [h1] at e
  injection e with e
  injection e with e
  subst e
  cases p with
  | cons q p =>
    cases p with
    | cons q2 p =>
      obtain ⟨a, e, _⟩ := q2
      cases e
/-- the other places, as they are found -/
structure OI (H0 H1 : Hp) (h c l lr : Addr) (rv : List V) (rows : List (List Int)) (w : Nat) (os : List (List Int × Nat)) (j : Nat) : Prop where
  b : But h H0 H1
  r : HandR H1 h c
  lr : H1 lr = some (.lst rv)
  pr : Paired (RowR H1) rv rows
  pl : LA PairR H1 l os
  mem : ∀ q ∈ os, q.2 < w ∧ ∃ j', j' < j ∧ rows[j']? = some q.1
  asc : Fv.asc os
  len : os.length ≤ j
theorem OI.hand0 {H0 H1 H2 : Hp} {h c l lr : Addr} {rv : List V} {rows : List (List Int)} {w : Nat} {os : List (List Int × Nat)} {j : Nat} (o : OI H0 H1 h c l lr rv rows w os j) (nlr : lr ≠ h) (nl : l ≠ h) (b : But h H1 H2) (r : HandR H2 h c) : OI H0 H2 h c l lr rv rows w os j :=
  ⟨o.b.trans b, r, b _ _ nlr o.lr, row_mono.all (b.ts o.r.nt) o.pr, o.pl.but pair_mono b o.r.nt nl, o.mem, o.asc, o.len⟩
theorem pair_ne {H : Hp} {h c l : Addr} {os : List (List Int × Nat)} (r : HandR H h c) (la : LA PairR H l os) : l ≠ h := by
  rintro rfl
  obtain ⟨ns, i, a, b, d, h1, _⟩ := r
  obtain ⟨vs, e, p⟩ := la
  rw [h1] at e
  injection e with e
  injection e with e
  subst e
  cases p with
  | cons q p =>
    cases p with
    | cons q2 p =>
      obtain ⟨a, b, e, _⟩ := q2
      cases e
theorem OI.hand {H0 H1 H2 : Hp} {h c l lr : Addr} {rv : List V} {rows : List (List Int)} {w : Nat} {os : List (List Int × Nat)} {j : Nat} (o : OI H0 H1 h c l lr rv rows w os j) (b : But h H1 H2) (r : HandR H2 h c) : OI H0 H2 h c l lr rv rows w os j :=
  o.hand0 (hand_ne_rows o.r ⟨_, o.lr, o.pr⟩) (pair_ne o.r o.pl) b r
theorem OI.step {H0 H1 : Hp} {h c l lr : Addr} {rv : List V} {rows : List (List Int)} {w : Nat} {os : List (List Int × Nat)} {j : Nat} (o : OI H0 H1 h c l lr rv rows w os j) : OI H0 H1 h c l lr rv rows w os (j + 1) :=
  ⟨o.b, o.r, o.lr, o.pr, o.pl, fun q hq => let ⟨h1, j', h2, h3⟩ := o.mem q hq; ⟨h1, j', by omega, h3⟩, o.asc, Nat.le_succ_of_le o.len⟩
theorem OI.app {H0 H1 : Hp} {h c l lr p a : Addr} {rv : List V} {rows : List (List Int)} {w : Nat} {os : List (List Int × Nat)} {j d : Nat} {vs : List V} {r : List Int} (o : OI H0 H1 h c l lr rv rows w os j) (ha : rows.Pairwise (fun a b => lexL a b = true)) (nhl : h ≠ l) (ncl : c ≠ l) (nlr : lr ≠ l) (l0 : H0 l = none)
    (e : H1 l = some (.lst vs)) (pv : Paired (PairR H1) vs os) (hp : H1 p = none) (hr : rows[j]? = some r) (hra : H1 a = some (.tup (r.map V.int))) (hd : d < w) :
    OI H0 (upd (upd H1 p (.tup [.ref a, .int (d : Nat)])) l (.lst (vs ++ [.ref p]))) h c l lr rv rows w (os ++ [(r, d)]) (j + 1) := by
  have s1 := same_new (o := .tup [.ref a, .int (d : Nat)]) hp
  have e1 := s1 _ _ e
  have t1 : TS H1 (upd (upd H1 p (.tup [.ref a, .int (d : Nat)])) l (.lst (vs ++ [.ref p]))) := (TS.of s1).trans (TS.upd (by rw [e1]; trivial))
  refine ⟨(o.b.trans (But.of s1)).mut (H' := H0) l0, (o.r.same s1).but (l := l) But.upd nhl ncl, by rw [upd_ne nlr]; exact s1 _ _ o.lr, row_mono.all t1 o.pr, ⟨_, upd_same, Paired.snoc (pair_mono.all t1 pv) ⟨p, a, rfl, ?_, t1.tup _ _ hra⟩⟩, fun q hq => ?_, asc_snoc o.asc fun x hx => ?_, ?_⟩
  · rw [upd_ne (fun z => by rw [z, e] at hp; cases hp), upd_same]
  · rcases List.mem_append.mp hq with hq | hq
    · obtain ⟨h1, j', h2, h3⟩ := o.mem q hq
      exact ⟨h1, j', by omega, h3⟩
    · rw [List.mem_singleton] at hq
      subst hq
      exact ⟨hd, j, Nat.lt_succ_self _, hr⟩
  · obtain ⟨h1, j', h2, h3⟩ := o.mem x hx
    obtain ⟨i1, i2⟩ := List.getElem?_eq_some_iff.mp h3
    obtain ⟨k1, k2⟩ := List.getElem?_eq_some_iff.mp hr
    have := List.pairwise_iff_getElem.mp ha j' j i1 k1 h2
    rw [i2, k2] at this
    exact this
  · rw [List.length_append]
    have := o.len
    show os.length + 1 ≤ j + 1
    omega
theorem OI.oth {H0 H1 : Hp} {h c l lr : Addr} {rv : List V} {L w : Nat} {os : List (List Int × Nat)} {j : Nat} (o : OI H0 H1 h c l lr rv (rowsM (lets L) w) w os j) (hj : j ≤ 64) : okOth L w os := by
  refine ⟨Nat.le_trans o.len hj, fun q hq => ?_, o.asc⟩
  obtain ⟨h1, j', _, h3⟩ := o.mem q hq
  obtain ⟨h4, h5⟩ := rowsM_row (List.mem_of_getElem? h3)
  exact ⟨h4, fun x hx => mem_lets (h5 x hx), h1⟩
section
variable {P : Program} {w : World} {K : PySem.W.Frag} {mg : Str → Option Value} {base : Heap} {CN CT dS : Addr}
def sp__law_step : Sp := fun vs H Q _ => ∃ (h c : Addr) (n L : Nat), vs = [.ref h, .int n, .int L] ∧ HandR H h c ∧ 1 ≤ n ∧ n ≤ 8 ∧ 1 ≤ L ∧ L ≤ 4 ∧
  ∀ H' (t : Addr) (s : Stp), But h H H' → HandR H' h c → StpR H' (.ref t) s → okStp L n s → after s n ≤ 8 → Q (.ref t) H'
theorem cal__law_step (T : Txt w K mg CN CT dS) : Cal P w K mg base "_law_step" ["_law_hand_here", "_law_lanes", "_law_letters"] 3 sp__law_step := by
  have g__law_draw := cal__law_draw (P := P) (base := base) T
  have g__law_exchanges := cal__law_exchanges (P := P) (base := base) T
  have g__law_rows := cal__law_rows (P := P) (base := base) T
  have g__law_some := cal__law_some (P := P) (base := base) T
  refine cal_mk T.f__law_step (fun F => F.ok sc__law_step (fun vs H Q E h => ?_) (fun cdv A outer s H vs Q E hr h => ?_)) (fun F => F.binds fun _ _ _ _ _ _ us hl => match us, hl with | [_, _, _], _ => rfl)
  · obtain ⟨h, c, n, L, rfl, _⟩ := h
    rfl
  obtain ⟨h, c, n, L, rfl, hd, n1, n8, L1, L2, q⟩ := h
  refine ⟨_, (pss_cons (ps_set (i := 3) sc__law_step.nd rfl (Or.inl rfl) (pe_fn g__law_draw (hr.mono (by decide)) (by rfl) (pa_cons (pv 0) (pa_cons pe_int pa_nil))))
      (pss_cons (ps_set (i := 4) sc__law_step.nd rfl (Or.inl rfl) (pe_fn g__law_draw (hr.mono (by decide)) (by rfl) (pa_cons (pv 0) (pa_cons (pv 1) pa_nil))))
      (pss_cons (ps_if (PW.pt (pw_or (pt_cmpR op_eq (pv 1) pe_int (nomark _)) (pw_or1 (PW.pt (pw_and (pt_cmpR op_eq (pv 3) pe_int (nomark _)) (pw_and1 (pt_cmpR op_lt (pv 1) pe_int (nomark _)))))))) 
        (pss_one (ps_ret (pe_tup (pa_cons pe_str (pa_cons (pv 4) pa_nil))))) pss_nil)
      (pss_cons (ps_if (pt_cmpR op_eq (pv 3) pe_int (nomark _)) 
        (pss_one (ps_ret (pe_tup (pa_cons pe_str (pa_cons (pv 4) pa_nil))))) pss_nil)
      (pss_cons (ps_if (pt_cmpR op_eq (pv 3) pe_int (nomark _)) 
        (pss_cons (ps_asg (pe_fn g__law_some (hr.mono (by decide)) (by rfl) (pa_cons (pv 0) (pa_cons (pe_fn g__law_exchanges (hr.mono (by decide)) (by rfl) (pa_cons (pv 1) pa_nil)) pa_nil))) (pg_tup rfl (pgs_cons (pg_name (i := 5) sc__law_step.nd rfl (Or.inl rfl)) (pgs_cons (pg_name (i := 6) sc__law_step.nd rfl (Or.inl rfl)) (pgs_cons (pg_name (i := 7) sc__law_step.nd rfl (Or.inl rfl)) pgs_nil)))))
        (pss_one (ps_ret (pe_tup (pa_cons pe_str (pa_cons (pv 5) (pa_cons (pv 6) (pa_cons (pv 7) pa_nil)))))))) pss_nil)
      (pss_cons (ps_set (i := 8) sc__law_step.nd rfl (Or.inl rfl) (pe_op op_add pe_int (pe_fn g__law_draw (hr.mono (by decide)) (by rfl) (pa_cons (pv 0) (pa_cons (pe_callB (call_min2 rfl) (by rfl) T.min (by decide +kernel) (pa_cons pe_int (pa_cons (pe_op op_sub (pv 1) pe_int) pa_nil))) pa_nil)))))
      (pss_cons (ps_set (i := 4) sc__law_step.nd rfl (Or.inl rfl) (pe_fn g__law_draw (hr.mono (by decide)) (by rfl) (pa_cons (pv 0) (pa_cons (pe_op op_add (pe_op op_sub (pv 1) (pv 8)) pe_int) pa_nil))))
      (pss_cons (ps_set (i := 9) sc__law_step.nd rfl (Or.inl rfl) (pe_lst pa_nil))
      (pss_cons (ps_set (i := 10) sc__law_step.nd rfl (Or.inl rfl) (pe_fn g__law_draw (hr.mono (by decide)) (by rfl) (pa_cons (pv 0) (pa_cons pe_int pa_nil))))
      (pss_cons (ps_for PassesOwn.never rfl (pi_list (pe_fn g__law_rows (hr.mono (by decide)) (by rfl) (pa_cons (pe_listRg rfl (by rfl) T.list_ (prg_1 (by rfl) T.range (pv 2))) (pa_cons (pv 8) pa_nil)))) (pg_name (i := 11) sc__law_step.nd rfl (Or.inl rfl)) 
        (pss_one (ps_if (pt_cmpR op_lt (pe_fn g__law_draw (hr.mono (by decide)) (by rfl) (pa_cons (pv 0) (pa_cons pe_int pa_nil))) (pv 10) (nomark _)) 
          (pss_one (ps_expr (pe_bm PySem.F.plainAttrs_list PySem.F.slot_list_append PySem.F.type_list_append mt_append (pv 9) (pa_cons (pe_tup (pa_cons (pv 11) (pa_cons (pe_fn g__law_draw (hr.mono (by decide)) (by rfl) (pa_cons (pv 0) (pa_cons (pv 8) pa_nil))) pa_nil))) pa_nil)))) pss_nil)))
      (pss_one (ps_ret (pe_tup (pa_cons pe_str (pa_cons (pv 4) (pa_cons (pv 8) (pa_cons (pe_fn g__law_draw (hr.mono (by decide)) (by rfl) (pa_cons (pv 0) (pa_cons (pv 8) pa_nil))) (pa_cons (pe_callTy (r := rTupF K) call_tupleF (by rfl) T.tuple_ (by decide +kernel) (pa_cons (pv 9) pa_nil)) pa_nil)))))))))))))))))), ?_⟩
  refine ⟨_, rfl, h, c, 7, rfl, hd, by omega, by omega, fun H1 kd b1 r1 fk => ?_⟩
  refine ⟨_, rfl, _, rfl, h, c, n, rfl, r1, by omega, by omega, fun H2 a0 b2 r2 fat => ?_⟩
  have b12 := b1.trans b2
  refine ⟨_, rfl, rfl, _, rfl, ?_⟩
  by_cases e1 : V.int ((n : Nat) : Int) = V.int 1
  · refine iteD e1 (iteT ⟨_, rfl, by show 2 ≤ sizeLine; decide, fun p hp => ?_⟩)
    have e1 : n = 1 := by injection e1 with e1; omega
    exact q _ p (.dbl a0) (b12.trans (But.of (same_new hp))) (r2.same (same_new hp)) ⟨p, _, rfl, upd_same, rfl⟩ ⟨fat, by omega⟩ (by show n + 1 ≤ 8; omega)
  refine iteDF e1 ?_
  have n2 : 2 ≤ n := by
    rcases Nat.lt_or_ge n 2 with z | z
    · exact absurd (by rw [show n = 1 by omega]; rfl) e1
    · exact z
  refine ⟨_, rfl, rfl, _, rfl, ?_⟩
  by_cases e2 : V.int ((kd : Nat) : Int) = V.int 0
  · refine iteD e2 ⟨_, rfl, _, _, rfl, rfl, _, rfl, ?_⟩
    by_cases e3 : (n : Int) < 8
    · refine iteD e3 ⟨_, rfl, by show 2 ≤ sizeLine; decide, fun p hp => ?_⟩
      exact q _ p (.dbl a0) (b12.trans (But.of (same_new hp))) (r2.same (same_new hp)) ⟨p, _, rfl, upd_same, rfl⟩ ⟨fat, by omega⟩ (by show n + 1 ≤ 8; omega)
    refine iteDF e3 ?_
    refine ⟨_, rfl, rfl, _, rfl, ?_⟩
    by_cases k1 : V.int ((kd : Nat) : Int) = V.int 1
    · refine iteD k1 ⟨_, rfl, by show 2 ≤ sizeLine; decide, fun p hp => ?_⟩
      exact q _ p (.strk a0) (b12.trans (But.of (same_new hp))) (r2.same (same_new hp)) ⟨p, _, rfl, upd_same, rfl⟩ ⟨fat, n2⟩ (by show n - 1 ≤ 8; omega)
    refine iteDF k1 ?_
    refine ⟨_, rfl, rfl, _, rfl, ?_⟩
    by_cases k2 : V.int ((kd : Nat) : Int) = V.int 2
    · refine iteD k2 ?_
      refine ⟨_, rfl, _, rfl, n, rfl, n8, fun H3 l ts s3 nl ⟨vs, e3, p3⟩ oks ne lz => ?_⟩
      have vl : vs.length = ts.length := Paired.length p3
      have r3 := r2.same s3
      have lh : l ≠ h := fun e => by rw [e] at nl; obtain ⟨vs, ws, h1, h2⟩ := r2.some; rw [h1] at nl; cases nl
      have lpos : 0 < vs.length := by rw [vl]; exact List.length_pos_iff.mpr (ne n2)
      refine ⟨h, c, l, vs, rfl, r3, e3, lh, lpos, by omega, fun H4 v b4 r4 hm => ?_⟩
      obtain ⟨j, hj⟩ := List.getElem?_of_mem hm
      obtain ⟨⟨x, y, z⟩, ht, a, rfl, ha⟩ := pgetL p3 hj
      obtain ⟨o1, o2, o3⟩ := oks _ (List.mem_of_getElem? ht)
      have ha4 := (b4.ts r3.nt).tup _ _ ha
      refine ⟨a, _, rfl, SqT.of ha4, rfl, _, _, rfl, _, _, rfl, _, _, rfl, rfl, ?_⟩
      refine ⟨_, rfl, _, rfl, _, rfl, by show 4 ≤ sizeLine; decide, fun p hp => ?_⟩
      exact q _ p (.fly x y z) ((b12.trans (But.of s3)).trans (b4.trans (But.of (same_new hp)))) (r4.same (same_new hp)) ⟨p, _, rfl, upd_same, rfl⟩ ⟨o1, o2, o3⟩ n8
    refine iteDF k2 ?_
    have em : (if (n : Int) - 1 < 2 then (n : Int) - 1 else 2) = ((min 2 (n - 1) : Nat) : Int) := by split <;> omega
    refine ⟨_, rfl, _, rfl, _, _, rfl, rfl, _, _, rfl, h, c, min 2 (n - 1), ?_, r2, by omega, by omega, fun H3 d0 b3 r3 f3 => ⟨_, _, rfl, rfl, ?_⟩⟩
    · show [V.ref h, V.int (if (n : Int) - 1 < 2 then (n : Int) - 1 else 2)] = _
      rw [em]
    have ew : (2 : Int) + (d0 : Int) = ((2 + d0 : Nat) : Int) := by omega
    show gName 8 (V.int ((2 : Int) + (d0 : Int))) _ _ _
    rw [ew]
    have w2 : 2 + d0 ≤ 3 ∧ 2 + d0 ≤ n ∧ 2 ≤ 2 + d0 := by omega
    generalize 2 + d0 = w' at w2
    obtain ⟨w3, wn, w22⟩ := w2
    have ea : (n : Int) - (w' : Int) + 1 = ((n - w' + 1 : Nat) : Int) := by omega
    refine ⟨_, rfl, _, rfl, _, rfl, _, _, rfl, rfl, _, _, rfl, rfl, h, c, n - w' + 1, ?_, r3, by omega, by omega, fun H4 at' b4 r4 f4 => ?_⟩
    · show [V.ref h, V.int ((n : Int) - (w' : Int) + 1)] = _
      rw [ea]
    have b34 : But h H H4 := b12.trans (b3.trans b4)
    refine ⟨Nat.zero_le _, fun l hl => ?_⟩
    have s5 := same_new (o := .lst []) hl
    refine ⟨_, rfl, h, c, 4, rfl, r4.same s5, by omega, by omega, fun H6 sh b6 r6 f6 => ?_⟩
    refine ⟨_, rfl, _, rfl, RgOk.of_le (by omega) (by omega) (by omega) (by omega), fun la hla => ?_⟩
    rw [rgV_upTo]
    have s7 := same_new (o := .lst ((upTo L).map V.int)) hla
    obtain ⟨vs0, ws0, hh4, hc4⟩ := r4.some
    have nhl : h ≠ l := ne_of_none hh4 hl
    have ncl : c ≠ l := ne_of_none hc4 hl
    refine ⟨_, rfl, la, lets L, w', rfl, upd_same, by rw [lets_len]; exact L2, by omega, fun H8 lr s8 lar => ?_⟩
    have r8 := (r6.same s7).same s8
    have rpos : 0 < (rowsM (lets L) w').length := by
      rw [rowsM_len, lets_len]
      exact Nat.pow_pos (by omega)
    have hl8 : H8 l = some (.lst []) := s8 _ _ (s7 _ _ (b6 _ _ nhl.symm upd_same))
    obtain ⟨rv, er, pr⟩ := id lar
    have nlr := hand_ne_rows r8 lar
    have nlr2 : lr ≠ l := fun e => by
      rw [e, hl8] at er
      injection er with er
      injection er with er
      subst er
      have := Paired.length pr
      rw [List.length_nil] at this
      omega
    have b48 : But h H4 H8 := (But.of s5).trans (b6.trans (But.of (s7.trans s8)))
    have oi0 : OI H4 H8 h c l lr rv (rowsM (lets L) w') w' [] 0 := ⟨b48, r8, er, pr, ⟨[], hl8, .nil⟩, (fun _ h => nomatch h), (fun i x y h => by simp at h), Nat.le_refl _⟩
    have rl : rv.length = (rowsM (lets L) w').length := Paired.length pr
    have rl64 : (rowsM (lets L) w').length ≤ 64 := by
      rw [rowsM_len, lets_len]
      exact Nat.le_trans (Nat.pow_le_pow_left L2 _) (Nat.le_trans (Nat.pow_le_pow_right (by decide) w3) (by decide))
    have asc := rows_asc (L := L) (w := w') L1 L2 (by omega)
    refine ⟨lr, rfl, ⟨_, SqL.of er⟩, ?_⟩
    refine for_it walk_list (fun j σ H1 => ∃ (v5 v6 v7 v11 : Option V) (os : List (List Int × Nat)), σ = [some (.ref h), some (.int (n : Nat)), some (.int (L : Nat)), some (.int (kd : Nat)), some (.int (at' : Nat)), v5, v6, v7, some (.int (w' : Nat)), some (.ref l), some (.int (sh : Nat)), v11] ∧ OI H4 H1 h c l lr rv (rowsM (lets L) w') w' os j)
      ⟨_, _, _, _, [], rfl, oi0⟩ (fun j σ H1 _ ⟨_, _, _, _, _, _, oi⟩ => SqL.of oi.lr) ?_ ?_
    · rintro j x σ H1 H1' hj ⟨v5, v6, v7, v11, os, rfl, oi⟩ ⟨rfl, hx⟩
      obtain ⟨r, hr0, a, rfl, ha⟩ := pgetL oi.pr hx
      refine ⟨_, rfl, h, c, 4, rfl, oi.r, by omega, by omega, fun H2 d b2 r2' fd => ⟨_, rfl, _, _, rfl, rfl, _, rfl, ?_⟩⟩
      have oi2 := oi.hand b2 r2'
      by_cases hd : (d : Int) < (sh : Int)
      · refine iteD hd ?_
        obtain ⟨os1, e2, p2⟩ := oi2.pl
        refine ⟨_, rfl, .inl ⟨rfl, _, SqL.of e2⟩, _, rfl, _, rfl, _, rfl, h, c, w', rfl, oi2.r, by omega, by omega, fun H3 d2 b3 r3' f3 => ⟨by show 2 ≤ sizeLine; decide, fun p hp => ?_⟩⟩
        have oi3 := oi2.hand b3 r3'
        obtain ⟨os3, e3, p3⟩ := oi3.pl
        have e34 : upd H3 p (.tup [.ref a, .int (d2 : Nat)]) l = some (.lst os3) := same_new hp _ _ e3
        have l3 := Paired.length p3
        have l4 := oi3.len
        refine ⟨l, os3, _, rfl, rfl, e34, sz1000' (by omega), _, _, _, _, os ++ [(r, d2)], rfl, ?_⟩
        exact oi3.app asc nhl ncl nlr2 hl e3 p3 hp hr0 ((b3.ts oi2.r.nt).tup _ _ ((b2.ts oi.r.nt).tup _ _ ha)) f3
      · exact iteDF hd ⟨_, _, _, _, os, rfl, oi2.step⟩
    · rintro σ H1 ⟨v5, v6, v7, v11, os, rfl, oi⟩
      refine ⟨_, rfl, _, rfl, _, rfl, _, rfl, h, c, w', rfl, oi.r, by omega, by omega, fun H2 p0 b2 r2' f2 => ?_⟩
      have oi2 := oi.hand b2 r2'
      obtain ⟨os2, e2, p2⟩ := oi2.pl
      refine ⟨_, rfl, l, os2, rfl, SqL.of e2, fun t ob tob ht => ⟨by show 5 ≤ sizeLine; decide, fun p hp => ?_⟩⟩
      have s9 := (same_new (o := .frz ob (.tup os2)) ht).trans (same_new (o := .tup [.str "choose", .int (at' : Nat), .int (w' : Nat), .int (p0 : Nat), .ref t]) hp)
      refine q _ p (.chs at' w' p0 os) (b34.trans (oi2.b.trans (But.of s9))) (oi2.r.same s9) ⟨p, _, rfl, upd_same, .ref t, rfl, t, ob, os2, rfl, tob, (same_new hp) _ _ upd_same, pair_mono.all (.of s9) p2⟩ ⟨by omega, by omega, f2, ?_⟩ (by show n - w' + 1 ≤ 8; omega)
      exact oi2.oth (by rw [rl]; exact rl64)
  · refine iteDF e2 (iteF ?_)
    refine ⟨_, rfl, rfl, _, rfl, ?_⟩
    by_cases k1 : V.int ((kd : Nat) : Int) = V.int 1
    · refine iteD k1 ⟨_, rfl, by show 2 ≤ sizeLine; decide, fun p hp => ?_⟩
      exact q _ p (.strk a0) (b12.trans (But.of (same_new hp))) (r2.same (same_new hp)) ⟨p, _, rfl, upd_same, rfl⟩ ⟨fat, n2⟩ (by show n - 1 ≤ 8; omega)
    refine iteDF k1 ?_
    refine ⟨_, rfl, rfl, _, rfl, ?_⟩
    by_cases k2 : V.int ((kd : Nat) : Int) = V.int 2
    · refine iteD k2 ?_
      refine ⟨_, rfl, _, rfl, n, rfl, n8, fun H3 l ts s3 nl ⟨vs, e3, p3⟩ oks ne lz => ?_⟩
      have vl : vs.length = ts.length := Paired.length p3
      have r3 := r2.same s3
      have lh : l ≠ h := fun e => by rw [e] at nl; obtain ⟨vs, ws, h1, h2⟩ := r2.some; rw [h1] at nl; cases nl
      have lpos : 0 < vs.length := by rw [vl]; exact List.length_pos_iff.mpr (ne n2)
      refine ⟨h, c, l, vs, rfl, r3, e3, lh, lpos, by omega, fun H4 v b4 r4 hm => ?_⟩
      obtain ⟨j, hj⟩ := List.getElem?_of_mem hm
      obtain ⟨⟨x, y, z⟩, ht, a, rfl, ha⟩ := pgetL p3 hj
      obtain ⟨o1, o2, o3⟩ := oks _ (List.mem_of_getElem? ht)
      have ha4 := (b4.ts r3.nt).tup _ _ ha
      refine ⟨a, _, rfl, SqT.of ha4, rfl, _, _, rfl, _, _, rfl, _, _, rfl, rfl, ?_⟩
      refine ⟨_, rfl, _, rfl, _, rfl, by show 4 ≤ sizeLine; decide, fun p hp => ?_⟩
      exact q _ p (.fly x y z) ((b12.trans (But.of s3)).trans (b4.trans (But.of (same_new hp)))) (r4.same (same_new hp)) ⟨p, _, rfl, upd_same, rfl⟩ ⟨o1, o2, o3⟩ n8
    refine iteDF k2 ?_
    have em : (if (n : Int) - 1 < 2 then (n : Int) - 1 else 2) = ((min 2 (n - 1) : Nat) : Int) := by split <;> omega
    refine ⟨_, rfl, _, rfl, _, _, rfl, rfl, _, _, rfl, h, c, min 2 (n - 1), ?_, r2, by omega, by omega, fun H3 d0 b3 r3 f3 => ⟨_, _, rfl, rfl, ?_⟩⟩
    · show [V.ref h, V.int (if (n : Int) - 1 < 2 then (n : Int) - 1 else 2)] = _
      rw [em]
    have ew : (2 : Int) + (d0 : Int) = ((2 + d0 : Nat) : Int) := by omega
    show gName 8 (V.int ((2 : Int) + (d0 : Int))) _ _ _
    rw [ew]
    have w2 : 2 + d0 ≤ 3 ∧ 2 + d0 ≤ n ∧ 2 ≤ 2 + d0 := by omega
    generalize 2 + d0 = w' at w2
    obtain ⟨w3, wn, w22⟩ := w2
    have ea : (n : Int) - (w' : Int) + 1 = ((n - w' + 1 : Nat) : Int) := by omega
    refine ⟨_, rfl, _, rfl, _, rfl, _, _, rfl, rfl, _, _, rfl, rfl, h, c, n - w' + 1, ?_, r3, by omega, by omega, fun H4 at' b4 r4 f4 => ?_⟩
    · show [V.ref h, V.int ((n : Int) - (w' : Int) + 1)] = _
      rw [ea]
    have b34 : But h H H4 := b12.trans (b3.trans b4)
    refine ⟨Nat.zero_le _, fun l hl => ?_⟩
    have s5 := same_new (o := .lst []) hl
    refine ⟨_, rfl, h, c, 4, rfl, r4.same s5, by omega, by omega, fun H6 sh b6 r6 f6 => ?_⟩
    refine ⟨_, rfl, _, rfl, RgOk.of_le (by omega) (by omega) (by omega) (by omega), fun la hla => ?_⟩
    rw [rgV_upTo]
    have s7 := same_new (o := .lst ((upTo L).map V.int)) hla
    obtain ⟨vs0, ws0, hh4, hc4⟩ := r4.some
    have nhl : h ≠ l := ne_of_none hh4 hl
    have ncl : c ≠ l := ne_of_none hc4 hl
    refine ⟨_, rfl, la, lets L, w', rfl, upd_same, by rw [lets_len]; exact L2, by omega, fun H8 lr s8 lar => ?_⟩
    have r8 := (r6.same s7).same s8
    have rpos : 0 < (rowsM (lets L) w').length := by
      rw [rowsM_len, lets_len]
      exact Nat.pow_pos (by omega)
    have hl8 : H8 l = some (.lst []) := s8 _ _ (s7 _ _ (b6 _ _ nhl.symm upd_same))
    obtain ⟨rv, er, pr⟩ := id lar
    have nlr := hand_ne_rows r8 lar
    have nlr2 : lr ≠ l := fun e => by
      rw [e, hl8] at er
      injection er with er
      injection er with er
      subst er
      have := Paired.length pr
      rw [List.length_nil] at this
      omega
    have b48 : But h H4 H8 := (But.of s5).trans (b6.trans (But.of (s7.trans s8)))
    have oi0 : OI H4 H8 h c l lr rv (rowsM (lets L) w') w' [] 0 := ⟨b48, r8, er, pr, ⟨[], hl8, .nil⟩, (fun _ h => nomatch h), (fun i x y h => by simp at h), Nat.le_refl _⟩
    have rl : rv.length = (rowsM (lets L) w').length := Paired.length pr
    have rl64 : (rowsM (lets L) w').length ≤ 64 := by
      rw [rowsM_len, lets_len]
      exact Nat.le_trans (Nat.pow_le_pow_left L2 _) (Nat.le_trans (Nat.pow_le_pow_right (by decide) w3) (by decide))
    have asc := rows_asc (L := L) (w := w') L1 L2 (by omega)
    refine ⟨lr, rfl, ⟨_, SqL.of er⟩, ?_⟩
    refine for_it walk_list (fun j σ H1 => ∃ (v5 v6 v7 v11 : Option V) (os : List (List Int × Nat)), σ = [some (.ref h), some (.int (n : Nat)), some (.int (L : Nat)), some (.int (kd : Nat)), some (.int (at' : Nat)), v5, v6, v7, some (.int (w' : Nat)), some (.ref l), some (.int (sh : Nat)), v11] ∧ OI H4 H1 h c l lr rv (rowsM (lets L) w') w' os j)
      ⟨_, _, _, _, [], rfl, oi0⟩ (fun j σ H1 _ ⟨_, _, _, _, _, _, oi⟩ => SqL.of oi.lr) ?_ ?_
    · rintro j x σ H1 H1' hj ⟨v5, v6, v7, v11, os, rfl, oi⟩ ⟨rfl, hx⟩
      obtain ⟨r, hr0, a, rfl, ha⟩ := pgetL oi.pr hx
      refine ⟨_, rfl, h, c, 4, rfl, oi.r, by omega, by omega, fun H2 d b2 r2' fd => ⟨_, rfl, _, _, rfl, rfl, _, rfl, ?_⟩⟩
      have oi2 := oi.hand b2 r2'
      by_cases hd : (d : Int) < (sh : Int)
      · refine iteD hd ?_
        obtain ⟨os1, e2, p2⟩ := oi2.pl
        refine ⟨_, rfl, .inl ⟨rfl, _, SqL.of e2⟩, _, rfl, _, rfl, _, rfl, h, c, w', rfl, oi2.r, by omega, by omega, fun H3 d2 b3 r3' f3 => ⟨by show 2 ≤ sizeLine; decide, fun p hp => ?_⟩⟩
        have oi3 := oi2.hand b3 r3'
        obtain ⟨os3, e3, p3⟩ := oi3.pl
        have e34 : upd H3 p (.tup [.ref a, .int (d2 : Nat)]) l = some (.lst os3) := same_new hp _ _ e3
        have l3 := Paired.length p3
        have l4 := oi3.len
        refine ⟨l, os3, _, rfl, rfl, e34, sz1000' (by omega), _, _, _, _, os ++ [(r, d2)], rfl, ?_⟩
        exact oi3.app asc nhl ncl nlr2 hl e3 p3 hp hr0 ((b3.ts oi2.r.nt).tup _ _ ((b2.ts oi.r.nt).tup _ _ ha)) f3
      · exact iteDF hd ⟨_, _, _, _, os, rfl, oi2.step⟩
    · rintro σ H1 ⟨v5, v6, v7, v11, os, rfl, oi⟩
      refine ⟨_, rfl, _, rfl, _, rfl, _, rfl, h, c, w', rfl, oi.r, by omega, by omega, fun H2 p0 b2 r2' f2 => ?_⟩
      have oi2 := oi.hand b2 r2'
      obtain ⟨os2, e2, p2⟩ := oi2.pl
      refine ⟨_, rfl, l, os2, rfl, SqL.of e2, fun t ob tob ht => ⟨by show 5 ≤ sizeLine; decide, fun p hp => ?_⟩⟩
      have s9 := (same_new (o := .frz ob (.tup os2)) ht).trans (same_new (o := .tup [.str "choose", .int (at' : Nat), .int (w' : Nat), .int (p0 : Nat), .ref t]) hp)
      refine q _ p (.chs at' w' p0 os) (b34.trans (oi2.b.trans (But.of s9))) (oi2.r.same s9) ⟨p, _, rfl, upd_same, .ref t, rfl, t, ob, os2, rfl, tob, (same_new hp) _ _ upd_same, pair_mono.all (.of s9) p2⟩ ⟨by omega, by omega, f2, ?_⟩ (by show n - w' + 1 ≤ 8; omega)
      exact oi2.oth (by rw [rl]; exact rl64)
end
end Fv
namespace Fv
open PySem L2
def isChs : Stp → Bool
  | .chs _ _ _ _ => true
  | _ => false
def chc (steps : List Stp) : Nat := (steps.filter isChs).length
theorem chc_snoc {steps : List Stp} {s : Stp} : chc (steps ++ [s]) = chc steps + (if isChs s = true then 1 else 0) := by
  unfold chc
  rw [List.filter_append, List.length_append]
  cases s <;> rfl
theorem bends_chc : ∀ (steps : List Stp) (i : Nat), (∀ s ∈ steps, ∀ k w p o, s = Stp.chs k w p o → w ≤ 3) → (bendsFrom i steps).length ≤ 3 * chc steps
  | [], _, _ => Nat.zero_le _
  | s :: r, i, h => by
    have ih := bends_chc r (i + 1) fun t ht => h t (List.mem_cons_of_mem _ ht)
    show (bendsAt i s ++ bendsFrom (i + 1) r).length ≤ _
    rw [List.length_append]
    unfold chc at ih ⊢
    cases s with
    | chs k w p o =>
      have hw := h _ List.mem_cons_self k w p o rfl
      rw [List.filter_cons_of_pos (show isChs (.chs k w p o) = true from rfl), List.length_cons]
      have : (bendsAt i (Stp.chs k w p o)).length ≤ 3 := by simp [bendsAt]; omega
      omega
    | dbl _ => rw [List.filter_cons_of_neg (by simp [isChs])]; simpa [bendsAt] using ih
    | strk _ => rw [List.filter_cons_of_neg (by simp [isChs])]; simpa [bendsAt] using ih
    | fly _ _ _ => rw [List.filter_cons_of_neg (by simp [isChs])]; simpa [bendsAt] using ih
theorem wide3 {L n : Nat} {steps : List Stp} (ok : okSteps L n steps) : ∀ s ∈ steps, ∀ k w p o, s = Stp.chs k w p o → w ≤ 3 := by
  rintro s hs k w p o rfl
  obtain ⟨i, hi⟩ := List.getElem?_of_mem hs
  have := (okSteps_at ok hi).1
  omega
/-- what is drawn -/
structure Good (L n : Nat) (steps : List Stp) : Prop where
  L1 : 1 ≤ L
  L2 : L ≤ 4
  n1 : 1 ≤ n
  n2 : n ≤ 5
  pw : L ^ n ≤ 32
  ok : okSteps L n steps
  sz : steps.length ≤ 8
  bz : (bends steps).length ≤ 8
theorem iteNT {p : Prop} [Decidable p] {A B : Prop} (h : ¬ p) (q : A) : if (!decide p) = true then A else B := by rw [decide_eq_false h]; exact iteT q
def stName : Stp → Str
  | .dbl _ => "double"
  | .strk _ => "strike"
  | .fly _ _ _ => "fly"
  | .chs _ _ _ _ => "choose"
theorem st_head {H : Hp} {vs : List V} {s : Stp} (h : StV H vs s) : atI vs 0 = some (.str (stName s)) := by
  cases s with
  | chs k w p o =>
    obtain ⟨t, e, _⟩ := h
    rw [e]; rfl
  | dbl k => rw [show vs = _ from h]; rfl
  | strk k => rw [show vs = _ from h]; rfl
  | fly a b c => rw [show vs = _ from h]; rfl
section
variable {P : Program} {w : World} {K : PySem.W.Frag} {mg : Str → Option Value} {base : Heap} {CN CT dS : Addr}
def sp__law_net : Sp := fun vs H Q _ => ∃ (h c : Addr), vs = [.ref h, .int 7, .int 2] ∧ HandR H h c ∧
  ∀ H' (t ls : Addr) (L n : Nat) (steps : List Stp), But h H H' → HandR H' h c → H' t = some (.tup [.int L, .int n, .ref ls]) → LA StpR H' ls steps → ls ≠ h → Good L n steps → Q (.ref t) H'
theorem cal__law_net (T : Txt w K mg CN CT dS) : Cal P w K mg base "_law_net" ["_law_hand_here", "_law_most", "_law_chooses"] 4 sp__law_net := by
  have g__law_draw := cal__law_draw (P := P) (base := base) T
  have g__law_some := cal__law_some (P := P) (base := base) T
  have g__law_step := cal__law_step (P := P) (base := base) T
  have g__law_worked := cal__law_worked (P := P) (base := base) T
  refine cal_mk T.f__law_net (fun F => F.ok sc__law_net (fun vs H Q E h => ?_) (fun cdv A outer s H vs Q E hr h => ?_)) (fun F => F.binds fun _ _ _ _ _ _ us hl => match us, hl with | [_, _, _], _ => rfl)
  · obtain ⟨h, c, rfl, _⟩ := h
    rfl
  obtain ⟨h, c, rfl, hd, q⟩ := h
  refine ⟨_, (pss_cons (ps_asg (pe_fn g__law_some (hr.mono (by decide)) (by rfl) (pa_cons (pv 0) (pa_cons (pe_lst (pa_cons (pe_tup (pa_cons pe_int (pa_cons pe_int pa_nil))) (pa_cons (pe_tup (pa_cons pe_int (pa_cons pe_int pa_nil))) (pa_cons (pe_tup (pa_cons pe_int (pa_cons pe_int pa_nil))) (pa_cons (pe_tup (pa_cons pe_int (pa_cons pe_int pa_nil))) (pa_cons (pe_tup (pa_cons pe_int (pa_cons pe_int pa_nil))) (pa_cons (pe_tup (pa_cons pe_int (pa_cons pe_int pa_nil))) pa_nil))))))) pa_nil))) (pg_tup rfl (pgs_cons (pg_name (i := 3) sc__law_net.nd rfl (Or.inl rfl)) (pgs_cons (pg_name (i := 4) sc__law_net.nd rfl (Or.inl rfl)) pgs_nil))))
      (pss_cons (ps_set (i := 5) sc__law_net.nd rfl (Or.inl rfl) (pe_op op_add pe_int (pe_callB (call_max2 rfl) (by rfl) T.max (by decide +kernel) (pa_cons (pe_fn g__law_draw (hr.mono (by decide)) (by rfl) (pa_cons (pv 0) (pa_cons (pv 4) pa_nil))) (pa_cons (pe_fn g__law_draw (hr.mono (by decide)) (by rfl) (pa_cons (pv 0) (pa_cons (pv 4) pa_nil))) pa_nil)))))
      (pss_cons (ps_set (i := 6) sc__law_net.nd rfl (Or.inl rfl) (pe_lst pa_nil))
      (pss_cons (ps_set (i := 7) sc__law_net.nd rfl (Or.inl rfl) (pv 5))
      (pss_cons (ps_for PassesOwn.never rfl (pi_range1 (by rfl) T.range (pa_cons (pe_fn g__law_draw (hr.mono (by decide)) (by rfl) (pa_cons (pv 0) (pa_cons (pe_op op_add (pv 1) pe_int) pa_nil))) pa_nil)) (pg_name (i := 8) sc__law_net.nd rfl (Or.inl rfl)) 
        (pss_cons (ps_set (i := 9) sc__law_net.nd rfl (Or.inl rfl) (pe_fn g__law_step (hr.mono (by decide)) (by rfl) (pa_cons (pv 0) (pa_cons (pv 7) (pa_cons (pv 3) pa_nil)))))
        (pss_one (ps_if (PW.pt (pw_or (pt_cmpR op_ne (pe_ix (r := rIxT K) ix_tup (pv 9) pe_int (fun _ _ => rfl)) pe_str (nomark _)) (pw_or1 (pt_cmpR op_lt (pe_callB (r := rLenQ K) call_lenQ (by rfl) T.len (by decide +kernel) (pa_cons (pe_lc (own := [("_law_one", 10)]) (g := gName 10) rfl sc__law_net.nd (pi_list (pv 6)) (blkOk_by (N := n__law_net) (sc := defScope s__law_net) (by decide +kernel)) (fun _ _ _ _ _ => (pg_name (i := 10) sc__law_net.nd rfl (Or.inl rfl))) (fun _ _ _ _ _ => pts_one (pt_cmpR op_eq (pe_ix (r := rIxT K) ix_tup (pv 10) pe_int (fun _ _ => rfl)) pe_str (nomark _))) (fun _ _ _ _ _ => (pv 10))) pa_nil)) (pv 2) (nomark _))))) 
          (pss_cons (ps_expr (pe_bm PySem.F.plainAttrs_list PySem.F.slot_list_append PySem.F.type_list_append mt_append (pv 6) (pa_cons (pv 9) pa_nil)))
          (pss_one (ps_set (i := 7) sc__law_net.nd rfl (Or.inl rfl) (pe_callB (r := rLenQ K) call_lenQ (by rfl) T.len (by decide +kernel) (pa_cons (pe_fn g__law_worked (hr.mono (by decide)) (by rfl) (pa_cons (pv 9) (pa_cons (pe_op (r := rRep1 K) op_repT1 (pe_tup (pa_cons pe_int pa_nil)) (pv 7)) pa_nil))) pa_nil))))) pss_nil))))
      (pss_one (ps_ret (pe_tup (pa_cons (pv 3) (pa_cons (pv 5) (pa_cons (pv 6) pa_nil))))))))))), ?_⟩
  refine ⟨_, rfl, by show 2 ≤ sizeLine; decide, fun p1 h1 => ⟨by show 2 ≤ sizeLine; decide, fun p2 h2 => ⟨by show 2 ≤ sizeLine; decide, fun p3 h3 => ⟨by show 2 ≤ sizeLine; decide, fun p4 h4 => ⟨by show 2 ≤ sizeLine; decide, fun p5 h5 => ⟨by show 2 ≤ sizeLine; decide, fun p6 h6 => ⟨by show 6 ≤ sizeLine; decide, fun l hl => ?_⟩⟩⟩⟩⟩⟩⟩
  have u1 := same_new (o := .tup [.int 2, .int 5]) h1
  have u2 := same_new (o := .tup [.int 2, .int 4]) h2
  have u3 := same_new (o := .tup [.int 3, .int 3]) h3
  have u4 := same_new (o := .tup [.int 4, .int 2]) h4
  have u5 := same_new (o := .tup [.int 2, .int 3]) h5
  have u6 := same_new (o := .tup [.int 1, .int 4]) h6
  have ul := same_new (o := .lst [.ref p1, .ref p2, .ref p3, .ref p4, .ref p5, .ref p6]) hl
  have u56 := u6.trans ul
  have u46 := u5.trans u56
  have u36 := u4.trans u46
  have u26 := u3.trans u36
  have u16 := u2.trans u26
  have u0 := u1.trans u16
  have nlh : l ≠ h := fun e => by
    obtain ⟨vs, ws, x1, x2⟩ := (hd.same (u1.trans (u2.trans (u3.trans (u4.trans (u5.trans u6)))))).some
    rw [e, x1] at hl; cases hl
  have r0 := hd.same u0
  refine ⟨h, c, l, _, rfl, r0, upd_same, nlh, by show 0 < 6; decide, by show 6 ≤ 100000; decide, fun H1 v b1 r1 hv => ?_⟩
  have t1 := b1.ts r0.nt
  obtain ⟨tp, L, wd, rfl, htp, L1, L2, w1, w5, lw⟩ : ∃ (tp : Addr) (L wd : Nat), v = .ref tp ∧ H1 tp = some (.tup [.int L, .int wd]) ∧ 1 ≤ L ∧ L ≤ 4 ∧ 1 ≤ wd ∧ wd ≤ 5 ∧ L ^ wd ≤ 32 := by
    simp only [List.mem_cons, List.not_mem_nil, or_false] at hv
    rcases hv with rfl | rfl | rfl | rfl | rfl | rfl
    · exact ⟨p1, 2, 5, rfl, t1.tup _ _ (u16 _ _ upd_same), by decide, by decide, by decide, by decide, by decide⟩
    · exact ⟨p2, 2, 4, rfl, t1.tup _ _ (u26 _ _ upd_same), by decide, by decide, by decide, by decide, by decide⟩
    · exact ⟨p3, 3, 3, rfl, t1.tup _ _ (u36 _ _ upd_same), by decide, by decide, by decide, by decide, by decide⟩
    · exact ⟨p4, 4, 2, rfl, t1.tup _ _ (u46 _ _ upd_same), by decide, by decide, by decide, by decide, by decide⟩
    · exact ⟨p5, 2, 3, rfl, t1.tup _ _ (u56 _ _ upd_same), by decide, by decide, by decide, by decide, by decide⟩
    · exact ⟨p6, 1, 4, rfl, t1.tup _ _ (ul _ _ upd_same), by decide, by decide, by decide, by decide, by decide⟩
  refine ⟨tp, _, rfl, SqT.of htp, rfl, _, _, rfl, _, _, rfl, rfl, ?_⟩
  refine ⟨_, rfl, _, rfl, h, c, wd, rfl, r1, by omega, by omega, fun H2 d1 b2 r2 f1 => ?_⟩
  refine ⟨_, rfl, _, rfl, h, c, wd, rfl, r2, by omega, by omega, fun H3 d2 b3 r3 f2 => ?_⟩
  refine ⟨_, _, rfl, _, _, rfl, rfl, ?_⟩
  have en : (1 : Int) + (if (d2 : Int) > (d1 : Int) then (d2 : Int) else (d1 : Int)) = ((1 + max d1 d2 : Nat) : Int) := by split <;> omega
  show gName 5 (V.int ((1 : Int) + (if (d2 : Int) > (d1 : Int) then (d2 : Int) else (d1 : Int)))) _ _ _
  rw [en]
  have nn : 1 ≤ 1 + max d1 d2 ∧ 1 + max d1 d2 ≤ wd := by omega
  generalize 1 + max d1 d2 = n at nn
  obtain ⟨n1, n2⟩ := nn
  have pw : L ^ n ≤ 32 := Nat.le_trans (Nat.pow_le_pow_right (by omega) n2) lw
  have b13 : But h H H3 := (But.of u0).trans (b1.trans (b2.trans b3))
  refine ⟨Nat.zero_le _, fun ls hls => ?_⟩
  have s4 := same_new (o := .lst []) hls
  obtain ⟨vs3, ws3, hh3, hc3⟩ := r3.some
  have nhl : h ≠ ls := ne_of_none hh3 hls
  have ncl : c ≠ ls := ne_of_none hc3 hls
  have nls : H ls = none := b13.free nhl.symm hls
  refine ⟨_, rfl, _, rfl, _, rfl, _, _, rfl, rfl, h, c, 8, rfl, r3.same s4, by decide, by decide, fun H5 d b5 r5 f5 => ?_⟩
  refine ⟨_, rfl, by omega, by omega, ?_⟩
  refine for_it walk_range (fun i σ H1 => ∃ (v8 v9 v10 : Option V) (steps : List Stp) (m : Nat), σ = [some (.ref h), some (.int 7), some (.int 2), some (.int (L : Nat)), some (.int (wd : Nat)), some (.int (n : Nat)), some (.ref ls), some (.int (m : Nat)), v8, v9, v10] ∧ But h H H1 ∧ HandR H1 h c ∧ LA StpR H1 ls steps ∧ okSteps L n steps ∧ m = afters n steps ∧ 1 ≤ m ∧ m ≤ 8 ∧ chc steps ≤ 2 ∧ steps.length ≤ i)
    ⟨_, _, _, [], n, rfl, b13.trans ((But.of s4).trans b5), r5, ⟨[], b5 _ _ nhl.symm upd_same, .nil⟩, trivial, rfl, n1, by omega, Nat.zero_le _, Nat.le_refl _⟩ (fun _ _ _ _ _ => trivial) ?_ ?_
  · rintro i z σ H2 H2' hi ⟨v8, v9, v10, steps, m, rfl, b2, r2, ⟨vs, hl2, pv⟩, ok, hm, m1, m8, hc2, lz⟩ ⟨rfl, hz⟩
    have hi7 : i < 7 := by omega
    have vl : vs.length = steps.length := Paired.length pv
    refine ⟨_, rfl, _, rfl, _, rfl, h, c, m, L, rfl, r2, m1, m8, L1, L2, fun H3 t st b3' r3 gs3 okst af8 => ?_⟩
    have b3 := b2.trans b3'
    have hl3 := b3' _ _ nhl.symm hl2
    have pv3 := stp_mono.all (b3'.ts r2.nt) pv
    have af := okStp_after okst m1 (by omega)
    obtain ⟨t', fs, e, ht, hs⟩ := id gs3
    cases e
    refine ⟨_, rfl, t, _, _, _, rfl, rfl, SqT.of ht, st_head hs, rfl, _, rfl, ?_⟩
    cases st with
    | dbl k =>
      have cn : chc (steps ++ [Stp.dbl k]) ≤ 2 := by rw [chc_snoc]; exact hc2
      cases (show fs = _ from hs)
      refine iteNT ne_dc ?_
      refine iteT ?_
      have H4e : H3 = H3 := rfl
      have okn : okSteps L n (steps ++ [Stp.dbl k]) := okSteps_append.mpr ⟨ok, by rw [← hm]; exact okst, trivial⟩
      refine ⟨_, rfl, .inl ⟨rfl, _, SqL.of hl3⟩, _, rfl, ls, vs, _, rfl, rfl, hl3, sz1000' (by omega), ?_⟩
      have hl5 : upd H3 ls (.lst (vs ++ [.ref t])) ls = some (.lst (vs ++ [.ref t])) := upd_same
      have t5 : TS H3 (upd H3 ls (.lst (vs ++ [.ref t]))) := TS.upd (by rw [hl3]; trivial)
      have la5 : LA StpR (upd H3 ls (.lst (vs ++ [.ref t]))) ls (steps ++ [Stp.dbl k]) := ⟨_, upd_same, Paired.snoc (stp_mono.all t5 pv3) (stp_mono.mono t5 gs3)⟩
      have b5 : But h H (upd H3 ls (.lst (vs ++ [.ref t]))) := b3.mut (H' := H) nls
      have r5 : HandR (upd H3 ls (.lst (vs ++ [.ref t]))) h c := r3.but (l := ls) But.upd nhl ncl
      have sg5 := stp_mono.mono t5 gs3
      refine ⟨_, rfl, by show 1 ≤ sizeLine; decide, fun z hz => ?_⟩
      have s6 := same_new (o := .tup [.int 0]) hz
      refine ⟨_, rfl, z, _, .int 0, rfl, rfl, SqT.of upd_same, by omega, by omega, fun m1 => ?_, fun m2 p hp => ?_⟩
      · have e1 : [V.int 0] = (List.replicate m (0 : Int)).map V.int := by rw [show m = 1 by omega]; rfl
        refine ⟨.ref t, z, (Stp.dbl k), List.replicate m 0, L, rfl, stp_mono.mono (.of s6) sg5, by rw [← e1]; exact upd_same, by rw [List.length_replicate]; exact okst, by rw [List.length_replicate]; omega, fun H7 p7 s7 g7 => ⟨p7, _, rfl, .inr (SqT.of g7), ?_⟩⟩
        have s67 := s6.trans s7
        have e7 : (((act (Stp.dbl k) id (List.replicate m (0 : Int))).map V.int).length : Nat) = after (Stp.dbl k) m := by rw [List.length_map, act_len (letters := L) (by rw [List.length_replicate]; exact okst), List.length_replicate]
        show gName 7 (V.int ((((act (Stp.dbl k) id (List.replicate m (0 : Int))).map V.int).length : Nat) : Int)) _ _ _
        rw [e7]
        exact ⟨_, _, _, steps ++ [Stp.dbl k], after (Stp.dbl k) m, rfl, b5.trans (But.of s67), r5.same s67, LA.same stp_mono s67 la5, okn, by rw [afters_append, ← hm]; rfl, af.1, af8, cn, by rw [List.length_append]; show steps.length + 1 ≤ _; omega⟩
      · rw [Int.toNat_natCast]
        have s7 := same_new (o := .tup (List.replicate m (V.int 0))) hp
        have e1 : List.replicate m (V.int 0) = (List.replicate m (0 : Int)).map V.int := by rw [List.map_replicate]
        refine ⟨.ref t, p, (Stp.dbl k), List.replicate m 0, L, rfl, stp_mono.mono (.of (s6.trans s7)) sg5, by rw [← e1]; exact upd_same, by rw [List.length_replicate]; exact okst, by rw [List.length_replicate]; omega, fun H7 p7 s8 g7 => ⟨p7, _, rfl, .inr (SqT.of g7), ?_⟩⟩
        have s67 := (s6.trans s7).trans s8
        have e7 : (((act (Stp.dbl k) id (List.replicate m (0 : Int))).map V.int).length : Nat) = after (Stp.dbl k) m := by rw [List.length_map, act_len (letters := L) (by rw [List.length_replicate]; exact okst), List.length_replicate]
        show gName 7 (V.int ((((act (Stp.dbl k) id (List.replicate m (0 : Int))).map V.int).length : Nat) : Int)) _ _ _
        rw [e7]
        exact ⟨_, _, _, steps ++ [Stp.dbl k], after (Stp.dbl k) m, rfl, b5.trans (But.of s67), r5.same s67, LA.same stp_mono s67 la5, okn, by rw [afters_append, ← hm]; rfl, af.1, af8, cn, by rw [List.length_append]; show steps.length + 1 ≤ _; omega⟩
    | strk k =>
      have cn : chc (steps ++ [Stp.strk k]) ≤ 2 := by rw [chc_snoc]; exact hc2
      cases (show fs = _ from hs)
      refine iteNT ne_sc ?_
      refine iteT ?_
      have H4e : H3 = H3 := rfl
      have okn : okSteps L n (steps ++ [Stp.strk k]) := okSteps_append.mpr ⟨ok, by rw [← hm]; exact okst, trivial⟩
      refine ⟨_, rfl, .inl ⟨rfl, _, SqL.of hl3⟩, _, rfl, ls, vs, _, rfl, rfl, hl3, sz1000' (by omega), ?_⟩
      have hl5 : upd H3 ls (.lst (vs ++ [.ref t])) ls = some (.lst (vs ++ [.ref t])) := upd_same
      have t5 : TS H3 (upd H3 ls (.lst (vs ++ [.ref t]))) := TS.upd (by rw [hl3]; trivial)
      have la5 : LA StpR (upd H3 ls (.lst (vs ++ [.ref t]))) ls (steps ++ [Stp.strk k]) := ⟨_, upd_same, Paired.snoc (stp_mono.all t5 pv3) (stp_mono.mono t5 gs3)⟩
      have b5 : But h H (upd H3 ls (.lst (vs ++ [.ref t]))) := b3.mut (H' := H) nls
      have r5 : HandR (upd H3 ls (.lst (vs ++ [.ref t]))) h c := r3.but (l := ls) But.upd nhl ncl
      have sg5 := stp_mono.mono t5 gs3
      refine ⟨_, rfl, by show 1 ≤ sizeLine; decide, fun z hz => ?_⟩
      have s6 := same_new (o := .tup [.int 0]) hz
      refine ⟨_, rfl, z, _, .int 0, rfl, rfl, SqT.of upd_same, by omega, by omega, fun m1 => ?_, fun m2 p hp => ?_⟩
      · have e1 : [V.int 0] = (List.replicate m (0 : Int)).map V.int := by rw [show m = 1 by omega]; rfl
        refine ⟨.ref t, z, (Stp.strk k), List.replicate m 0, L, rfl, stp_mono.mono (.of s6) sg5, by rw [← e1]; exact upd_same, by rw [List.length_replicate]; exact okst, by rw [List.length_replicate]; omega, fun H7 p7 s7 g7 => ⟨p7, _, rfl, .inr (SqT.of g7), ?_⟩⟩
        have s67 := s6.trans s7
        have e7 : (((act (Stp.strk k) id (List.replicate m (0 : Int))).map V.int).length : Nat) = after (Stp.strk k) m := by rw [List.length_map, act_len (letters := L) (by rw [List.length_replicate]; exact okst), List.length_replicate]
        show gName 7 (V.int ((((act (Stp.strk k) id (List.replicate m (0 : Int))).map V.int).length : Nat) : Int)) _ _ _
        rw [e7]
        exact ⟨_, _, _, steps ++ [Stp.strk k], after (Stp.strk k) m, rfl, b5.trans (But.of s67), r5.same s67, LA.same stp_mono s67 la5, okn, by rw [afters_append, ← hm]; rfl, af.1, af8, cn, by rw [List.length_append]; show steps.length + 1 ≤ _; omega⟩
      · rw [Int.toNat_natCast]
        have s7 := same_new (o := .tup (List.replicate m (V.int 0))) hp
        have e1 : List.replicate m (V.int 0) = (List.replicate m (0 : Int)).map V.int := by rw [List.map_replicate]
        refine ⟨.ref t, p, (Stp.strk k), List.replicate m 0, L, rfl, stp_mono.mono (.of (s6.trans s7)) sg5, by rw [← e1]; exact upd_same, by rw [List.length_replicate]; exact okst, by rw [List.length_replicate]; omega, fun H7 p7 s8 g7 => ⟨p7, _, rfl, .inr (SqT.of g7), ?_⟩⟩
        have s67 := (s6.trans s7).trans s8
        have e7 : (((act (Stp.strk k) id (List.replicate m (0 : Int))).map V.int).length : Nat) = after (Stp.strk k) m := by rw [List.length_map, act_len (letters := L) (by rw [List.length_replicate]; exact okst), List.length_replicate]
        show gName 7 (V.int ((((act (Stp.strk k) id (List.replicate m (0 : Int))).map V.int).length : Nat) : Int)) _ _ _
        rw [e7]
        exact ⟨_, _, _, steps ++ [Stp.strk k], after (Stp.strk k) m, rfl, b5.trans (But.of s67), r5.same s67, LA.same stp_mono s67 la5, okn, by rw [afters_append, ← hm]; rfl, af.1, af8, cn, by rw [List.length_append]; show steps.length + 1 ≤ _; omega⟩
    | fly fx fy fz =>
      have cn : chc (steps ++ [Stp.fly fx fy fz]) ≤ 2 := by rw [chc_snoc]; exact hc2
      cases (show fs = _ from hs)
      refine iteNT ne_fc ?_
      refine iteT ?_
      have H4e : H3 = H3 := rfl
      have okn : okSteps L n (steps ++ [Stp.fly fx fy fz]) := okSteps_append.mpr ⟨ok, by rw [← hm]; exact okst, trivial⟩
      refine ⟨_, rfl, .inl ⟨rfl, _, SqL.of hl3⟩, _, rfl, ls, vs, _, rfl, rfl, hl3, sz1000' (by omega), ?_⟩
      have hl5 : upd H3 ls (.lst (vs ++ [.ref t])) ls = some (.lst (vs ++ [.ref t])) := upd_same
      have t5 : TS H3 (upd H3 ls (.lst (vs ++ [.ref t]))) := TS.upd (by rw [hl3]; trivial)
      have la5 : LA StpR (upd H3 ls (.lst (vs ++ [.ref t]))) ls (steps ++ [Stp.fly fx fy fz]) := ⟨_, upd_same, Paired.snoc (stp_mono.all t5 pv3) (stp_mono.mono t5 gs3)⟩
      have b5 : But h H (upd H3 ls (.lst (vs ++ [.ref t]))) := b3.mut (H' := H) nls
      have r5 : HandR (upd H3 ls (.lst (vs ++ [.ref t]))) h c := r3.but (l := ls) But.upd nhl ncl
      have sg5 := stp_mono.mono t5 gs3
      refine ⟨_, rfl, by show 1 ≤ sizeLine; decide, fun z hz => ?_⟩
      have s6 := same_new (o := .tup [.int 0]) hz
      refine ⟨_, rfl, z, _, .int 0, rfl, rfl, SqT.of upd_same, by omega, by omega, fun m1 => ?_, fun m2 p hp => ?_⟩
      · have e1 : [V.int 0] = (List.replicate m (0 : Int)).map V.int := by rw [show m = 1 by omega]; rfl
        refine ⟨.ref t, z, (Stp.fly fx fy fz), List.replicate m 0, L, rfl, stp_mono.mono (.of s6) sg5, by rw [← e1]; exact upd_same, by rw [List.length_replicate]; exact okst, by rw [List.length_replicate]; omega, fun H7 p7 s7 g7 => ⟨p7, _, rfl, .inr (SqT.of g7), ?_⟩⟩
        have s67 := s6.trans s7
        have e7 : (((act (Stp.fly fx fy fz) id (List.replicate m (0 : Int))).map V.int).length : Nat) = after (Stp.fly fx fy fz) m := by rw [List.length_map, act_len (letters := L) (by rw [List.length_replicate]; exact okst), List.length_replicate]
        show gName 7 (V.int ((((act (Stp.fly fx fy fz) id (List.replicate m (0 : Int))).map V.int).length : Nat) : Int)) _ _ _
        rw [e7]
        exact ⟨_, _, _, steps ++ [Stp.fly fx fy fz], after (Stp.fly fx fy fz) m, rfl, b5.trans (But.of s67), r5.same s67, LA.same stp_mono s67 la5, okn, by rw [afters_append, ← hm]; rfl, af.1, af8, cn, by rw [List.length_append]; show steps.length + 1 ≤ _; omega⟩
      · rw [Int.toNat_natCast]
        have s7 := same_new (o := .tup (List.replicate m (V.int 0))) hp
        have e1 : List.replicate m (V.int 0) = (List.replicate m (0 : Int)).map V.int := by rw [List.map_replicate]
        refine ⟨.ref t, p, (Stp.fly fx fy fz), List.replicate m 0, L, rfl, stp_mono.mono (.of (s6.trans s7)) sg5, by rw [← e1]; exact upd_same, by rw [List.length_replicate]; exact okst, by rw [List.length_replicate]; omega, fun H7 p7 s8 g7 => ⟨p7, _, rfl, .inr (SqT.of g7), ?_⟩⟩
        have s67 := (s6.trans s7).trans s8
        have e7 : (((act (Stp.fly fx fy fz) id (List.replicate m (0 : Int))).map V.int).length : Nat) = after (Stp.fly fx fy fz) m := by rw [List.length_map, act_len (letters := L) (by rw [List.length_replicate]; exact okst), List.length_replicate]
        show gName 7 (V.int ((((act (Stp.fly fx fy fz) id (List.replicate m (0 : Int))).map V.int).length : Nat) : Int)) _ _ _
        rw [e7]
        exact ⟨_, _, _, steps ++ [Stp.fly fx fy fz], after (Stp.fly fx fy fz) m, rfl, b5.trans (But.of s67), r5.same s67, LA.same stp_mono s67 la5, okn, by rw [afters_append, ← hm]; rfl, af.1, af8, cn, by rw [List.length_append]; show steps.length + 1 ≤ _; omega⟩
    | chs k w' po o =>
      refine iteNE rfl ?_
      have e4 : steps.length ≤ 7 := by omega
      refine ⟨_, rfl, ls, rfl, ⟨_, SqL.of hl3⟩, fun D hD => ?_⟩
      refine lcW walk_list stp_mono (fun j => (steps.take j).filter isChs) hD rfl (fun j hj => Nat.lt_of_le_of_lt (List.length_filter_le _ _) (by rw [List.length_take]; omega)) (fun _ s => SqL.of (s _ _ hl3)) ?_ ?_
      · rintro j x H5 H5' hj s5 ⟨rfl, hx⟩ Ny Nn hNy hNn
        obtain ⟨s0, hs0, g0⟩ := pgetL pv3 hx
        have fe := filter_one_more isChs hs0
        obtain ⟨a0, fs0, rfl, ha0, hst0⟩ := id g0
        have ha5 := s5 _ _ ha0
        refine ⟨rfl, _, rfl, a0, _, _, _, rfl, rfl, SqT.of ha5, st_head hst0, rfl, _, rfl, ?_⟩
        cases s0 with
        | chs k1 w1 p1 o1 =>
          refine iteD rfl ⟨_, rfl, hNy _ _ _ (Same.refl _) (stp_mono.mono (.of s5) g0) ?_⟩
          rw [fe, if_pos (show isChs _ = true from rfl)]
        | dbl k1 =>
          refine iteDF ne_dc (hNn _ (Same.refl _) ?_)
          rw [fe, if_neg (by simp [isChs]), List.append_nil]
        | strk k1 =>
          refine iteDF ne_sc (hNn _ (Same.refl _) ?_)
          rw [fe, if_neg (by simp [isChs]), List.append_nil]
        | fly k1 k2 k3 =>
          refine iteDF ne_fc (hNn _ (Same.refl _) ?_)
          rw [fe, if_neg (by simp [isChs]), List.append_nil]
      · intro H4 ws s4 hw pw'
        rw [vl, List.take_length] at pw'
        have wl : ws.length = chc steps := Paired.length pw'
        refine ⟨D, ws, rfl, .inl (SqL.of hw), _, rfl, _, _, rfl, rfl, _, rfl, ?_⟩
        have b4 : But h H H4 := b3.trans (But.of s4)
        have r4 := r3.same s4
        have hl4 := s4 _ _ hl3
        have pv4 := stp_mono.all (.of s4) pv3
        have gs4 := stp_mono.mono (.of s4) gs3
        by_cases few : (ws.length : Int) < 2
        · refine iteD few ?_
          have cn : chc (steps ++ [Stp.chs k w' po o]) ≤ 2 := by rw [chc_snoc, if_pos (show isChs _ = true from rfl)]; omega
          have okn : okSteps L n (steps ++ [(Stp.chs k w' po o)]) := okSteps_append.mpr ⟨ok, by rw [← hm]; exact okst, trivial⟩
          refine ⟨_, rfl, .inl ⟨rfl, _, SqL.of hl4⟩, _, rfl, ls, vs, _, rfl, rfl, hl4, sz1000' (by omega), ?_⟩
          have hl5 : upd H4 ls (.lst (vs ++ [.ref t])) ls = some (.lst (vs ++ [.ref t])) := upd_same
          have t5 : TS H4 (upd H4 ls (.lst (vs ++ [.ref t]))) := TS.upd (by rw [hl4]; trivial)
          have la5 : LA StpR (upd H4 ls (.lst (vs ++ [.ref t]))) ls (steps ++ [(Stp.chs k w' po o)]) := ⟨_, upd_same, Paired.snoc (stp_mono.all t5 pv4) (stp_mono.mono t5 gs4)⟩
          have b5 : But h H (upd H4 ls (.lst (vs ++ [.ref t]))) := b4.mut (H' := H) nls
          have r5 : HandR (upd H4 ls (.lst (vs ++ [.ref t]))) h c := r4.but (l := ls) But.upd nhl ncl
          have sg5 := stp_mono.mono t5 gs4
          refine ⟨_, rfl, by show 1 ≤ sizeLine; decide, fun z hz => ?_⟩
          have s6 := same_new (o := .tup [.int 0]) hz
          refine ⟨_, rfl, z, _, .int 0, rfl, rfl, SqT.of upd_same, by omega, by omega, fun m1 => ?_, fun m2 p hp => ?_⟩
          · have e1 : [V.int 0] = (List.replicate m (0 : Int)).map V.int := by rw [show m = 1 by omega]; rfl
            refine ⟨.ref t, z, (Stp.chs k w' po o), List.replicate m 0, L, rfl, stp_mono.mono (.of s6) sg5, by rw [← e1]; exact upd_same, by rw [List.length_replicate]; exact okst, by rw [List.length_replicate]; omega, fun H7 p7 s7 g7 => ⟨p7, _, rfl, .inr (SqT.of g7), ?_⟩⟩
            have s67 := s6.trans s7
            have e7 : (((act (Stp.chs k w' po o) id (List.replicate m (0 : Int))).map V.int).length : Nat) = after (Stp.chs k w' po o) m := by rw [List.length_map, act_len (letters := L) (by rw [List.length_replicate]; exact okst), List.length_replicate]
            show gName 7 (V.int ((((act (Stp.chs k w' po o) id (List.replicate m (0 : Int))).map V.int).length : Nat) : Int)) _ _ _
            rw [e7]
            exact ⟨_, _, _, steps ++ [(Stp.chs k w' po o)], after (Stp.chs k w' po o) m, rfl, b5.trans (But.of s67), r5.same s67, LA.same stp_mono s67 la5, okn, by rw [afters_append, ← hm]; rfl, af.1, af8, cn, by rw [List.length_append]; show steps.length + 1 ≤ _; omega⟩
          · rw [Int.toNat_natCast]
            have s7 := same_new (o := .tup (List.replicate m (V.int 0))) hp
            have e1 : List.replicate m (V.int 0) = (List.replicate m (0 : Int)).map V.int := by rw [List.map_replicate]
            refine ⟨.ref t, p, (Stp.chs k w' po o), List.replicate m 0, L, rfl, stp_mono.mono (.of (s6.trans s7)) sg5, by rw [← e1]; exact upd_same, by rw [List.length_replicate]; exact okst, by rw [List.length_replicate]; omega, fun H7 p7 s8 g7 => ⟨p7, _, rfl, .inr (SqT.of g7), ?_⟩⟩
            have s67 := (s6.trans s7).trans s8
            have e7 : (((act (Stp.chs k w' po o) id (List.replicate m (0 : Int))).map V.int).length : Nat) = after (Stp.chs k w' po o) m := by rw [List.length_map, act_len (letters := L) (by rw [List.length_replicate]; exact okst), List.length_replicate]
            show gName 7 (V.int ((((act (Stp.chs k w' po o) id (List.replicate m (0 : Int))).map V.int).length : Nat) : Int)) _ _ _
            rw [e7]
            exact ⟨_, _, _, steps ++ [(Stp.chs k w' po o)], after (Stp.chs k w' po o) m, rfl, b5.trans (But.of s67), r5.same s67, LA.same stp_mono s67 la5, okn, by rw [afters_append, ← hm]; rfl, af.1, af8, cn, by rw [List.length_append]; show steps.length + 1 ≤ _; omega⟩
        · exact iteDF few ⟨_, _, _, steps, m, rfl, b4, r4, ⟨vs, hl4, pv4⟩, ok, hm, m1, m8, hc2, by omega⟩
  · rintro σ H2 ⟨v8, v9, v10, steps, m, rfl, b2, r2, la, ok, hm, m1, m8, hc2, lz⟩
    refine ⟨_, rfl, _, rfl, _, rfl, by show 3 ≤ sizeLine; decide, fun t ht => ?_⟩
    have s9 := same_new (o := .tup [.int (L : Nat), .int (n : Nat), .ref ls]) ht
    have bz := bends_chc steps 0 (wide3 ok)
    exact q _ t ls L n steps (b2.trans (But.of s9)) (r2.same s9) upd_same (LA.same stp_mono s9 la) nhl.symm ⟨L1, L2, n1, by omega, pw, ok, by omega, by show (bendsFrom 0 _).length ≤ 8; omega⟩
end
end Fv
namespace Fv
open PySem L2
section
variable {P : Program} {w : World} {K : PySem.W.Frag} {mg : Str → Option Value} {base : Heap} {CN CT dS : Addr}
def sp__law_parts : Sp := fun vs H Q _ => ∃ (h c : Addr), vs = [.ref h] ∧ HandR H h c ∧
  ∀ H' (ls : Addr) (steps : List Stp), But h H H' → HandR H' h c → LA StpR H' ls steps → ls ≠ h → Good 2 3 steps → Q (.ref ls) H'
theorem cal__law_parts (T : Txt w K mg CN CT dS) : Cal P w K mg base "_law_parts" ["_law_hand_here"] 4 sp__law_parts := by
  have g__law_draw := cal__law_draw (P := P) (base := base) T
  have g__law_rows := cal__law_rows (P := P) (base := base) T
  refine cal_mk T.f__law_parts (fun F => F.ok sc__law_parts (fun vs H Q E h => ?_) (fun cdv A outer s H vs Q E hr h => ?_)) (fun F => F.binds fun _ _ _ _ _ _ us hl => match us, hl with | [_], _ => rfl)
  · obtain ⟨h, c, rfl, _⟩ := h
    rfl
  obtain ⟨h, c, rfl, hd, q⟩ := h
  refine ⟨_, (pss_cons (ps_set (i := 1) sc__law_parts.nd rfl (Or.inl rfl) (pe_lst pa_nil))
      (pss_cons (ps_for PassesOwn.never rfl (pi_range1 (by rfl) T.range (pa_cons (pe_op op_add pe_int (pe_fn g__law_draw (hr.mono (by decide)) (by rfl) (pa_cons (pv 0) (pa_cons pe_int pa_nil)))) pa_nil)) (pg_name (i := 2) sc__law_parts.nd rfl (Or.inl rfl)) 
        (pss_cons (ps_set (i := 3) sc__law_parts.nd rfl (Or.inl rfl) (pe_lst pa_nil))
        (pss_cons (ps_for PassesOwn.never rfl (pi_list (pe_fn g__law_rows (hr.mono (by decide)) (by rfl) (pa_cons (pe_lst (pa_cons pe_int (pa_cons pe_int pa_nil))) (pa_cons pe_int pa_nil)))) (pg_name (i := 4) sc__law_parts.nd rfl (Or.inl rfl)) 
          (pss_one (ps_if (pt_cmpR op_eq (pe_fn g__law_draw (hr.mono (by decide)) (by rfl) (pa_cons (pv 0) (pa_cons pe_int pa_nil))) pe_int (nomark _)) 
            (pss_one (ps_expr (pe_bm PySem.F.plainAttrs_list PySem.F.slot_list_append PySem.F.type_list_append mt_append (pv 3) (pa_cons (pe_tup (pa_cons (pv 4) (pa_cons (pe_fn g__law_draw (hr.mono (by decide)) (by rfl) (pa_cons (pv 0) (pa_cons pe_int pa_nil))) pa_nil))) pa_nil)))) pss_nil)))
        (pss_cons (ps_expr (pe_bm PySem.F.plainAttrs_list PySem.F.slot_list_append PySem.F.type_list_append mt_append (pv 1) (pa_cons (pe_tup (pa_cons pe_str (pa_cons (pe_fn g__law_draw (hr.mono (by decide)) (by rfl) (pa_cons (pv 0) (pa_cons pe_int pa_nil))) pa_nil))) pa_nil)))
        (pss_one (ps_expr (pe_bm PySem.F.plainAttrs_list PySem.F.slot_list_append PySem.F.type_list_append mt_append (pv 1) (pa_cons (pe_tup (pa_cons pe_str (pa_cons (pe_fn g__law_draw (hr.mono (by decide)) (by rfl) (pa_cons (pv 0) (pa_cons pe_int pa_nil))) (pa_cons pe_int (pa_cons (pe_fn g__law_draw (hr.mono (by decide)) (by rfl) (pa_cons (pv 0) (pa_cons pe_int pa_nil))) (pa_cons (pe_callTy (r := rTupF K) call_tupleF (by rfl) T.tuple_ (by decide +kernel) (pa_cons (pv 3) pa_nil)) pa_nil)))))) pa_nil))))))))
      (pss_one (ps_ret (pv 1))))), ?_⟩
  refine ⟨Nat.zero_le _, fun ls hls => ?_⟩
  have s0 := same_new (o := .lst []) hls
  obtain ⟨vs0, ws0, hh0, hc0⟩ := hd.some
  have nhs : h ≠ ls := ne_of_none hh0 hls
  have ncs : c ≠ ls := ne_of_none hc0 hls
  refine ⟨_, rfl, h, c, 2, rfl, hd.same s0, by decide, by decide, fun H1 d b1 r1 f1 => ⟨_, _, rfl, rfl, _, rfl, by omega, by omega, ?_⟩⟩
  have e3 : ((3 : Int) + (d : Int)).toNat = 3 + d := by omega
  refine for_it walk_range (fun i σ H1 => ∃ (v2 v3 v4 : Option V) (steps : List Stp), σ = [some (.ref h), some (.ref ls), v2, v3, v4] ∧ But h H H1 ∧ HandR H1 h c ∧ LA StpR H1 ls steps ∧ okSteps 2 3 steps ∧ afters 3 steps = 3 ∧ steps.length = 2 * i ∧ (bends steps).length = 2 * i)
    ⟨_, _, _, [], rfl, (But.of s0).trans b1, r1, ⟨[], b1 _ _ nhs.symm upd_same, .nil⟩, trivial, rfl, rfl, rfl⟩ (fun _ _ _ _ _ => trivial) ?_ ?_
  · rintro i z σ H2 H2' hi ⟨v2, v3, v4, steps, rfl, b2, r2, ⟨sv, hsv, psv⟩, ok, af, sz, bz⟩ ⟨rfl, hz⟩
    have hi4 : i < 4 := by omega
    have svl : sv.length = steps.length := Paired.length psv
    refine ⟨Nat.zero_le _, fun l hl => ?_⟩
    have s3 := same_new (o := .lst []) hl
    obtain ⟨vs2, ws2, hh2, hc2⟩ := r2.some
    have nhl : h ≠ l := ne_of_none hh2 hl
    have ncl : c ≠ l := ne_of_none hc2 hl
    have nsl : ls ≠ l := ne_of_none hsv hl
    refine ⟨by show 2 ≤ sizeLine; decide, fun la hla => ?_⟩
    have s4 := same_new (o := .lst [.int 0, .int 1]) hla
    refine ⟨la, lets 2, 2, rfl, upd_same, by decide, by decide, fun H5 lr s5 lar => ?_⟩
    have r5 := (r2.same (s3.trans s4)).same s5
    have hl5 : H5 l = some (.lst []) := s5 _ _ (s4 _ _ upd_same)
    obtain ⟨rv, er, pr⟩ := id lar
    have rl : rv.length = (rowsM (lets 2) 2).length := Paired.length pr
    have rl4 : (rowsM (lets 2) 2).length = 4 := by decide
    have nlr2 : lr ≠ l := fun e => by
      rw [e, hl5] at er
      injection er with er
      injection er with er
      subst er
      rw [List.length_nil] at rl
      omega
    have b5 : But h H2' H5 := But.of (s3.trans (s4.trans s5))
    have oi0 : OI H2' H5 h c l lr rv (rowsM (lets 2) 2) 2 [] 0 := ⟨b5, r5, er, pr, ⟨[], hl5, .nil⟩, (fun _ h => nomatch h), (fun i x y h => by simp at h), Nat.le_refl _⟩
    have asc := rows_asc (L := 2) (w := 2) (by decide) (by decide) (by decide)
    refine ⟨lr, rfl, ⟨_, SqL.of er⟩, ?_⟩
    refine for_it walk_list (fun j σ H1 => ∃ (v2 v4 : Option V) (os : List (List Int × Nat)), σ = [some (.ref h), some (.ref ls), v2, some (.ref l), v4] ∧ OI H2' H1 h c l lr rv (rowsM (lets 2) 2) 2 os j)
      ⟨_, _, [], rfl, oi0⟩ (fun j σ H1 _ ⟨_, _, _, _, oi⟩ => SqL.of oi.lr) ?_ ?_
    · rintro j x σ H1 H1' hj ⟨v2, v4, os, rfl, oi⟩ ⟨rfl, hx⟩
      obtain ⟨r, hr0, a, rfl, ha⟩ := pgetL oi.pr hx
      refine ⟨_, rfl, h, c, 2, rfl, oi.r, by decide, by decide, fun H3 d b3 r3 fd => ⟨rfl, _, rfl, ?_⟩⟩
      have oi2 := oi.hand b3 r3
      by_cases hd : V.int (d : Nat) = V.int 0
      · refine iteD hd ?_
        obtain ⟨os1, e2, p2⟩ := oi2.pl
        refine ⟨_, rfl, .inl ⟨rfl, _, SqL.of e2⟩, _, rfl, _, rfl, h, c, 2, rfl, oi2.r, by decide, by decide, fun H4 d2 b4 r4 f4 => ⟨by show 2 ≤ sizeLine; decide, fun p hp => ?_⟩⟩
        have oi3 := oi2.hand b4 r4
        obtain ⟨os3, e3, p3⟩ := oi3.pl
        have e34 : upd H4 p (.tup [.ref a, .int (d2 : Nat)]) l = some (.lst os3) := same_new hp _ _ e3
        have l3 := Paired.length p3
        have l4 := oi3.len
        refine ⟨l, os3, _, rfl, rfl, e34, sz1000' (by omega), _, _, os ++ [(r, d2)], rfl, ?_⟩
        exact oi3.app asc nhl ncl nlr2 hl e3 p3 hp hr0 ((b4.ts oi2.r.nt).tup _ _ ((b3.ts oi.r.nt).tup _ _ ha)) f4
      · exact iteDF hd ⟨_, _, os, rfl, oi2.step⟩
    · rintro σ H1 ⟨v2, v4, os, rfl, oi⟩
      have hs1 := oi.b _ _ nhs.symm hsv
      have ps1 := stp_mono.all (oi.b.ts r2.nt) psv
      refine ⟨_, rfl, .inl ⟨rfl, _, SqL.of hs1⟩, _, rfl, h, c, 3, rfl, oi.r, by decide, by decide, fun H3 k1 b3 r3 f3 => ⟨by show 2 ≤ sizeLine; decide, fun p hp => ?_⟩⟩
      have s6 := same_new (o := .tup [.str "double", .int (k1 : Nat)]) hp
      have hs3 := b3 _ _ nhs.symm hs1
      have hs6 := s6 _ _ hs3
      have ps6 := stp_mono.all ((b3.ts oi.r.nt).trans (TS.of s6)) ps1
      refine ⟨ls, sv, _, rfl, rfl, hs6, sz1000' (by omega), ?_⟩
      have hs7 : upd (upd H3 p (.tup [.str "double", .int (k1 : Nat)])) ls (.lst (sv ++ [.ref p])) ls = some (.lst (sv ++ [.ref p])) := upd_same
      have t7 : TS (upd H3 p (.tup [.str "double", .int (k1 : Nat)])) (upd (upd H3 p (.tup [.str "double", .int (k1 : Nat)])) ls (.lst (sv ++ [.ref p]))) := TS.upd (by rw [hs6]; trivial)
      have ps7 := Paired.snoc (stp_mono.all t7 ps6) (show StpR (upd (upd H3 p (.tup [.str "double", .int (k1 : Nat)])) ls (.lst (sv ++ [.ref p]))) (.ref p) (.dbl k1) from ⟨p, _, rfl, t7.tup _ _ upd_same, rfl⟩)
      have nls : H ls = none := hls
      have b7 : But h H (upd (upd H3 p (.tup [.str "double", .int (k1 : Nat)])) ls (.lst (sv ++ [.ref p]))) := (b2.trans (oi.b.trans (b3.trans (But.of s6)))).mut (H' := H) nls
      have r7 : HandR (upd (upd H3 p (.tup [.str "double", .int (k1 : Nat)])) ls (.lst (sv ++ [.ref p]))) h c := (r3.same s6).but (l := ls) But.upd nhs ncs
      have po7 : LA PairR (upd (upd H3 p (.tup [.str "double", .int (k1 : Nat)])) ls (.lst (sv ++ [.ref p]))) l os :=
        (LA.same pair_mono s6 (oi.pl.but pair_mono b3 oi.r.nt nhl.symm)).but (a := ls) pair_mono But.upd (by rw [hs6]; trivial) nsl.symm
      revert hs7 ps7 b7 r7 po7
      generalize upd (upd H3 p (.tup [.str "double", .int (k1 : Nat)])) ls (.lst (sv ++ [.ref p])) = H7
      intro hs7 ps7 b7 r7 po7
      refine ⟨_, rfl, .inl ⟨rfl, _, SqL.of hs7⟩, _, rfl, h, c, 3, rfl, r7, by decide, by decide, fun H8 k2 b8 r8 f8 => ?_⟩
      refine ⟨_, rfl, h, c, 2, rfl, r8, by decide, by decide, fun H9 p0 b9 r9 f9 => ?_⟩
      have po9 := (po7.but pair_mono b8 r7.nt nhl.symm).but pair_mono b9 r8.nt nhl.symm
      obtain ⟨ov, e9, pov⟩ := po9
      refine ⟨_, rfl, l, ov, rfl, SqL.of e9, fun t ob tob ht => ⟨by show 5 ≤ sizeLine; decide, fun p2 hp2 => ?_⟩⟩
      have sa := same_new (o := .frz ob (.tup ov)) ht
      have sb := same_new (o := .tup [.str "choose", .int (k2 : Nat), .int 2, .int (p0 : Nat), .ref t]) hp2
      have sab := sa.trans sb
      have hs9 := b9 _ _ nhs.symm (b8 _ _ nhs.symm hs7)
      have hsb := sab _ _ hs9
      have ps9 := stp_mono.all (((b8.ts r7.nt).trans (b9.ts r8.nt)).trans (TS.of sab)) ps7
      refine ⟨ls, _, _, rfl, rfl, hsb, sz1000' (by rw [List.length_append]; show sv.length + 1 < _; omega), ?_⟩
      have tc : TS (upd (upd H9 t (.frz ob (.tup ov))) p2 (.tup [.str "choose", .int (k2 : Nat), .int 2, .int (p0 : Nat), .ref t])) (upd (upd (upd H9 t (.frz ob (.tup ov))) p2 (.tup [.str "choose", .int (k2 : Nat), .int 2, .int (p0 : Nat), .ref t])) ls (.lst (sv ++ [.ref p] ++ [.ref p2]))) := TS.upd (by rw [hsb]; trivial)
      have gs : StpR (upd (upd (upd H9 t (.frz ob (.tup ov))) p2 (.tup [.str "choose", .int (k2 : Nat), .int 2, .int (p0 : Nat), .ref t])) ls (.lst (sv ++ [.ref p] ++ [.ref p2]))) (.ref p2) (.chs k2 2 p0 os) :=
        ⟨p2, _, rfl, tc.tup _ _ upd_same, .ref t, rfl, t, ob, ov, rfl, tob, tc.frz _ _ _ (sb _ _ upd_same), pair_mono.all ((TS.of sab).trans tc) pov⟩
      have oko : okOth 2 2 os := oi.oth (by omega)
      refine ⟨_, _, _, steps ++ [.dbl k1] ++ [.chs k2 2 p0 os], rfl, (b7.trans (b8.trans (b9.trans (But.of sab)))).mut (H' := H) nls, (r9.same sab).but (l := ls) But.upd nhs ncs, ⟨_, upd_same, Paired.snoc (stp_mono.all tc ps9) gs⟩, ?_, ?_, ?_, ?_⟩
      · refine okSteps_append.mpr ⟨okSteps_append.mpr ⟨ok, by rw [af]; exact ⟨f3, by decide⟩, trivial⟩, ?_, trivial⟩
        rw [afters_append, af]
        exact ⟨.inl rfl, by show k2 + 2 ≤ 4; omega, f9, oko⟩
      · rw [afters_append, afters_append, af]
        rfl
      · rw [List.length_append, List.length_append]
        show steps.length + 1 + 1 = _
        omega
      · rw [bends_snoc, bends_snoc, List.length_append, List.length_append]
        show (bends steps).length + 0 + 2 = _
        omega
  · rintro σ H2 ⟨v2, v3, v4, steps, rfl, b2, r2, la, ok, af, sz, bz⟩
    exact ⟨_, rfl, q H2 ls steps b2 r2 la nhs.symm ⟨by decide, by decide, by decide, by decide, by decide, ok, by omega, by omega⟩⟩
def sp__law_all : Sp := fun vs H Q _ => ∃ (L n : Nat) (ls : Addr) (steps : List Stp), vs = [.int L, .int n, .ref ls] ∧ LA StpR H ls steps ∧ Good L n steps ∧
  ∀ H' l, Same H H' → LA OutR H' l (nets (rowsM (lets L) n) steps) → Q (.ref l) H'
theorem cal__law_all (T : Txt w K mg CN CT dS) : Cal P w K mg base "_law_all" ["_law_letters", "_law_lanes", "_law_steps"] 5 sp__law_all := by
  have g__law_bends := cal__law_bends (P := P) (base := base) T
  have g__law_bent := cal__law_bent (P := P) (base := base) T
  have g__law_led := cal__law_led (P := P) (base := base) T
  have g__law_rows := cal__law_rows (P := P) (base := base) T
  refine cal_mk T.f__law_all (fun F => F.ok sc__law_all (fun vs H Q E h => ?_) (fun cdv A outer s H vs Q E hr h => ?_)) (fun F => F.binds fun _ _ _ _ _ _ us hl => match us, hl with | [_, _, _], _ => rfl)
  · obtain ⟨L, n, ls, steps, rfl, _⟩ := h
    rfl
  obtain ⟨L, n, ls, steps, rfl, la, g, q⟩ := h
  refine ⟨_, (pss_cons (ps_set (i := 3) sc__law_all.nd rfl (Or.inl rfl) (pe_fn g__law_rows (hr.mono (by decide)) (by rfl) (pa_cons (pe_listRg rfl (by rfl) T.list_ (prg_1 (by rfl) T.range (pv 0))) (pa_cons (pv 1) pa_nil))))
      (pss_cons (ps_set (i := 4) sc__law_all.nd rfl (Or.inl rfl) (pe_lst (pa_cons (pe_callTy (r := rTupQ K) call_tupQ (by rfl) T.tuple_ (by decide +kernel) (pa_cons (pe_lc (own := [("_law_row", 5)]) (g := gName 5) rfl sc__law_all.nd (pi_list (pv 3)) (blkOk_by (N := n__law_all) (sc := defScope s__law_all) (by decide +kernel)) (fun _ _ _ _ _ => (pg_name (i := 5) sc__law_all.nd rfl (Or.inl rfl))) (fun _ _ _ _ _ => pts_nil) (fun _ _ _ _ _ => (pe_fn g__law_led (hr.mono (by decide)) (by rfl) (pa_cons (pv 2) (pa_cons (pv 5) pa_nil))))) pa_nil)) pa_nil)))
      (pss_cons (ps_for PassesOwn.never rfl (pi_list (pe_fn g__law_bends (hr.mono (by decide)) (by rfl) (pa_cons (pv 2) pa_nil))) (pg_tup rfl (pgs_cons (pg_name (i := 6) sc__law_all.nd rfl (Or.inr rfl)) (pgs_cons (pg_name (i := 7) sc__law_all.nd rfl (Or.inr rfl)) pgs_nil))) 
        (pss_cons (ps_set (i := 8) sc__law_all.nd rfl (Or.inl rfl) (pe_callTy (r := rTupQ K) call_tupQ (by rfl) T.tuple_ (by decide +kernel) (pa_cons (pe_lc (own := [("_law_row", 5)]) (g := gName 5) rfl sc__law_all.nd (pi_list (pv 3)) (blkOk_by (N := n__law_all) (sc := defScope s__law_all) (by decide +kernel)) (fun _ _ _ _ _ => (pg_name (i := 5) sc__law_all.nd rfl (Or.inl rfl))) (fun _ _ _ _ _ => pts_nil) (fun _ _ _ _ _ => (pe_fn g__law_led (hr.mono (by decide)) (by rfl) (pa_cons (pe_fn g__law_bent (hr.mono (by decide)) (by rfl) (pa_cons (pv 2) (pa_cons (pv 6) (pa_cons (pv 7) pa_nil)))) (pa_cons (pv 5) pa_nil))))) pa_nil)))
        (pss_one (ps_if (pt_cmpR (r := rNotInD K) (op_notInD (un65 hr)) (pv 8) (pv 4) (by rfl)) 
          (pss_one (ps_expr (pe_bm PySem.F.plainAttrs_list PySem.F.slot_list_append PySem.F.type_list_append mt_append (pv 4) (pa_cons (pv 8) pa_nil)))) pss_nil))))
      (pss_one (ps_ret (pv 4)))))), ?_⟩
  have L2 := g.L2
  have n2 := g.n2
  have n1 := g.n1
  have gsz := g.sz
  have gbz := g.bz
  refine ⟨_, rfl, _, rfl, RgOk.of_le (by omega) (by omega) (by omega) (by omega), fun lq hlq => ?_⟩
  rw [rgV_upTo]
  have s1 := same_new (o := .lst ((upTo L).map V.int)) hlq
  refine ⟨_, rfl, lq, lets L, n, rfl, upd_same, by rw [lets_len]; exact L2, n2, fun H2 lr s2 lar => ?_⟩
  have s12 := s1.trans s2
  have la2 := LA.same stp_mono s12 la
  have rl := rowsM_len_le (n := n) (lets_len4 L2) n2
  have rlen : ∀ r ∈ rowsM (lets L) n, r.length = n := fun r hr => (rowsM_row hr).1
  generalize rowsM (lets L) n = rows at lar rl rlen q
  obtain ⟨rv, er, pr⟩ := lar
  have rvl : rv.length = rows.length := Paired.length pr
  refine ⟨_, rfl, lr, rfl, ⟨_, SqL.of er⟩, fun D hD => ?_⟩
  refine lcY walk_list row_mono (fun j => (rows.take j).map (run steps)) hD rfl (fun j hj => by rw [List.length_map, List.length_take]; omega) (fun _ s => SqL.of (s _ _ er)) ?_ mono_name ?_
  · rintro j z H3 H3' hj s3 ⟨rfl, hz⟩ Ny hNy
    obtain ⟨r, hr0, a, rfl, ha⟩ := pgetL pr hz
    have rn := rlen r (List.mem_of_getElem? hr0)
    refine ⟨rfl, _, rfl, _, rfl, ls, a, steps, r, L, rfl, LA.same stp_mono s3 la2, s3 _ _ ha, by rw [rn]; exact g.ok, by omega, by omega, fun H4 p s4 e4 => hNy _ _ (run steps r) s4 ⟨p, rfl, e4⟩ ?_⟩
    show (rows.take (j + 1)).map _ = (rows.take j).map _ ++ _
    rw [take_one_more hr0, List.map_append]
    rfl
  intro H3 ws s3 hw pw
  have pw : Paired (RowR H3) ws (tbl rows steps) := by
    rw [rvl, List.take_length] at pw; exact pw
  refine ⟨D, ws, rfl, SqL.of hw, fun b hb => ⟨by show 1 ≤ sizeLine; decide, fun lf hlf => ?_⟩⟩
  have s4 := same_new (o := .tup ws) hb
  have s5 := same_new (o := .lst [.ref b]) hlf
  have s15 := (s12.trans s3).trans s4
  have hlf0 : H lf = none := s15.free hlf
  have s05 := s15.trans s5
  have ob : OutR (upd (upd H3 b (.tup ws)) lf (.lst [.ref b])) (.ref b) (tbl rows steps) := ⟨b, ws, rfl, s5 _ _ upd_same, row_mono.all (.of (s4.trans s5)) pw⟩
  have s25 := (s3.trans s4).trans s5
  refine ⟨_, rfl, ls, steps, rfl, LA.same stp_mono s05 la, by omega, wide3 g.ok, fun H6 lb s6 flb ⟨bv, eb, pb⟩ => ?_⟩
  have bvl : bv.length = (bends steps).length := Paired.length pb
  have s26 := s25.trans s6
  have s06 := s05.trans s6
  refine ⟨lb, rfl, ⟨_, SqL.of eb⟩, ?_⟩
  refine for_it walk_list (fun i σ H1 => ∃ (v5 v6 v7 v8 : Option V), σ = [some (.int (L : Nat)), some (.int (n : Nat)), some (.ref ls), some (.ref lr), some (.ref lf), v5, v6, v7, v8] ∧ Same H H1 ∧ H1 lr = some (.lst rv) ∧ Paired (RowR H1) rv rows ∧ H1 lb = some (.lst bv) ∧ Paired (IPR H1) bv (bends steps) ∧ LA OutR H1 lf (dedup (((steps :: ((bends steps).take i).map fun b => bent steps b.1 b.2)).map (tbl rows))))
    ⟨_, _, _, _, rfl, s06, s26 _ _ er, row_mono.all (.of s26) pr, eb, pb, ⟨[.ref b], s6 _ _ upd_same, .cons (out_mono.mono (.of s6) ob) .nil⟩⟩ (fun i σ H1 _ ⟨_, _, _, _, _, _, _, _, e, _⟩ => SqL.of e) ?_ ?_
  · rintro i z σ H7 H7' hi ⟨v5, v6, v7, v8, rfl, s7, er7, pr7, eb7, pb7, ⟨fv, ef7, pf7⟩⟩ ⟨rfl, hz⟩
    obtain ⟨⟨k, p⟩, hbk, a, rfl, ha⟩ := pgetL pb7 hz
    have hm := List.mem_of_getElem? hbk
    have okb := ok_bent g.ok hm
    refine ⟨a, _, rfl, SqT.of ha, rfl, _, _, rfl, _, _, rfl, rfl, ?_⟩
    refine ⟨_, rfl, lr, rfl, ⟨_, SqL.of er7⟩, fun D hD => ?_⟩
    refine lcY walk_list row_mono (fun j => (rows.take j).map (run (bent steps k p))) hD rfl (fun j hj => by rw [List.length_map, List.length_take]; omega) (fun _ s => SqL.of (s _ _ er7)) ?_ mono_name ?_
    · rintro j z H8 H8' hj s8 ⟨rfl, hz⟩ Ny hNy
      obtain ⟨r, hr0, a', rfl, ha'⟩ := pgetL pr7 hz
      have rn := rlen r (List.mem_of_getElem? hr0)
      refine ⟨rfl, _, rfl, _, rfl, _, rfl, ls, steps, k, p, rfl, LA.same stp_mono (s7.trans s8) la, hm, by omega, fun H9 l9 s9 la9 => ?_⟩
      refine ⟨_, rfl, l9, a', bent steps k p, r, L, rfl, la9, s9 _ _ (s8 _ _ ha'), by rw [rn]; exact okb.1, by omega, by omega, fun H4 p4 s4 e4 => hNy _ _ (run (bent steps k p) r) (s9.trans s4) ⟨p4, rfl, e4⟩ ?_⟩
      show (rows.take (j + 1)).map _ = (rows.take j).map _ ++ _
      rw [take_one_more hr0, List.map_append]
      rfl
    intro H8 ws8 s8 hw8 pw8
    have pw8 : Paired (RowR H8) ws8 (tbl rows (bent steps k p)) := by
      rw [rvl, List.take_length] at pw8; exact pw8
    refine ⟨D, ws8, rfl, SqL.of hw8, fun b8 hb8 => ?_⟩
    have s9 := s8.trans (same_new (o := .tup ws8) hb8)
    have ob8 : OutR (upd H8 b8 (.tup ws8)) (.ref b8) (tbl rows (bent steps k p)) := ⟨b8, ws8, rfl, upd_same, row_mono.all (.of (same_new hb8)) pw8⟩
    have ef9 := s9 _ _ ef7
    have pf9 := out_mono.all (.of s9) pf7
    have pr9 := row_mono.all (.of s9) pr7
    have pb9 := ip_mono.all (.of s9) pb7
    have fl : fv.length ≤ 100 := by
      rw [Paired.length pf7]
      refine Nat.le_trans (dedup_le _) ?_
      rw [List.length_map, List.length_cons, List.length_map, List.length_take]
      omega
    have ed : dedup (((steps :: ((bends steps).take (i + 1)).map fun b => bent steps b.1 b.2)).map (tbl rows)) = adj (dedup (((steps :: ((bends steps).take i).map fun b => bent steps b.1 b.2)).map (tbl rows))) (tbl rows (bent steps k p)) := by
      rw [take_one_more hbk, List.map_append, ← dedup_snoc]
      congr 1
      simp
    have nlr : lr ≠ lf := ne_of_none (s26.trans (Same.refl _) |> fun s => (show H2 lr = some (.lst rv) from er)) (by
      cases z : H2 lf with
      | none => rfl
      | some o => rw [(s3.trans s4) _ _ z] at hlf; cases hlf)
    have nlb : lb ≠ lf := (ne_of_none (upd_same (H := upd H3 b (.tup ws)) (a := lf) (o := .lst [.ref b])) flb).symm
    refine ⟨_, rfl, _, rfl, tblD (tbl rows (bent steps k p)), _, dpOut ob8, .lst (SqL.of ef9) (dpOuts pf9), tblD_sh _, tblsD_sh _, ?_⟩
    rw [any_tbl]
    by_cases hin : tbl rows (bent steps k p) ∈ dedup (((steps :: ((bends steps).take i).map fun b => bent steps b.1 b.2)).map (tbl rows))
    · rw [decide_eq_true hin]
      refine ⟨false, rfl, iteF ⟨_, _, _, _, rfl, s7.trans s9, s9 _ _ er7, pr9, s9 _ _ eb7, pb9, ?_⟩⟩
      rw [ed, adj, if_pos hin]
      exact ⟨fv, ef9, pf9⟩
    · rw [decide_eq_false hin]
      refine ⟨true, rfl, iteT ⟨_, rfl, .inl ⟨rfl, _, SqL.of ef9⟩, _, rfl, lf, fv, _, rfl, rfl, ef9, sz1000' (by omega), ?_⟩⟩
      have t9 : TS (upd H8 b8 (.tup ws8)) (upd (upd H8 b8 (.tup ws8)) lf (.lst (fv ++ [.ref b8]))) := TS.upd (by rw [ef9]; trivial)
      refine ⟨_, _, _, _, rfl, same_mut (s7.trans s9) hlf0, by rw [upd_ne nlr]; exact s9 _ _ er7, row_mono.all t9 pr9, by rw [upd_ne nlb]; exact s9 _ _ eb7, ip_mono.all t9 pb9, ?_⟩
      rw [ed, adj, if_neg hin]
      exact ⟨_, upd_same, Paired.snoc (out_mono.all t9 pf9) (out_mono.mono t9 ob8)⟩
  · rintro σ H7 ⟨v5, v6, v7, v8, rfl, s7, er7, pr7, eb7, pb7, lf7⟩
    rw [bvl, List.take_length, ← tables_eq] at lf7
    exact ⟨_, rfl, q H7 lf s7 lf7⟩
end
end Fv
namespace Fv
open PySem L2
abbrev sc2__law_parted : Scope := ⟨.function, [(".0", .local), ("_law_out", .cell), ("tuple", .globalImplicit), ("_law_lot", .cell), ("_law_nets", .cell), ("_law_row", .cell)], false, false, []⟩
structure RowsOk (O : List Tbl) (d : Nat) : Prop where
  d1 : 1 ≤ d
  rows : ∀ t ∈ O, ∀ r ∈ t, r.length = d ∧ ∀ x ∈ r, 0 ≤ x ∧ x < 4
theorem rows_ks {H : Hp} : ∀ {vs : List V} {rs : List (List Int)}, Paired (RowR H) vs rs → ∃ ks : List (Addr × List Int), vs = ks.map (fun p => V.ref p.1) ∧ ks.map (·.2) = rs ∧ ∀ p ∈ ks, H p.1 = some (.tup (p.2.map V.int))
  | _, _, .nil => ⟨[], rfl, rfl, fun _ h => nomatch h⟩
  | _, _, .cons (b := r) h t => by
    obtain ⟨a, rfl, ha⟩ := h
    obtain ⟨ks, e1, e2, e3⟩ := rows_ks t
    refine ⟨(a, r) :: ks, by rw [e1, List.map_cons], by rw [List.map_cons, e2], fun p hp => ?_⟩
    rcases List.mem_cons.mp hp with rfl | hp
    · exact ha
    · exact e3 p hp
theorem out_get {H : Hp} {ov : List V} {O : List Tbl} {R r d : Nat} {n : Int} (po : Paired (OutR H) ov O) (hO : ∀ t ∈ O, t.length = R) (hr : r < R) (n0 : 0 ≤ n) (n1 : n < (O.length : Int)) (ro : RowsOk O d) :
    ∃ b rv c, ov[n.toNat]? = some (.ref b) ∧ H b = some (.tup rv) ∧ rv[r]? = some (.ref c) ∧ H c = some (.tup ((out O n r).map V.int)) ∧ (out O n r).length = d ∧ ∀ x ∈ out O n r, 0 ≤ x ∧ x < 4 := by
  have hlt : n.toNat < O.length := by omega
  have hot : O[n.toNat]? = some O[n.toNat] := List.getElem?_eq_getElem hlt
  obtain ⟨v, hv, b, rv, rfl, hb, pb⟩ := pget po hot
  have rlen : O[n.toNat].length = R := hO _ (List.getElem_mem hlt)
  have hlt2 : r < O[n.toNat].length := by omega
  have hrt : O[n.toNat][r]? = some O[n.toNat][r] := List.getElem?_eq_getElem hlt2
  obtain ⟨v2, hv2, c, rfl, hc⟩ := pget pb hrt
  have eo : out O n r = O[n.toNat][r] := out_at n0 hot hrt
  obtain ⟨d1, d2⟩ := ro.rows _ (List.getElem_mem hlt) _ (List.getElem_mem hlt2)
  exact ⟨b, rv, c, hv, hb, hv2, by rw [eo]; exact hc, by rw [eo]; exact d1, by rw [eo]; exact d2⟩
theorem cls_take {O : List Tbl} {r : Nat} {lot : List Int} {k : List Int} {j : Nat} {n : Int} (h : lot[j]? = some n) : cls O r (lot.take (j + 1)) k = cls O r (lot.take j) k ++ (if out O n r = k then [n] else []) := by rw [take_one_more h, cls_snoc]
section
variable {P : Program} {w : World} {K : PySem.W.Frag} {mg : Str → Option Value} {base : Heap} {CN CT dS : Addr}
def sp__law_parted : Sp := fun vs H Q _ => ∃ (lo a : Addr) (O : List Tbl) (R r d : Nat) (lot : List Int), vs = [.ref lo, .ref a, .int r] ∧ LA OutR H lo O ∧ H a = some (.tup (lot.map V.int)) ∧ Lot O lot ∧ r < R ∧ (∀ t ∈ O, t.length = R) ∧ RowsOk O d ∧ lot.length ≤ 50 ∧
  ∀ H' l ps, Same H H' → LA RowR H' l ps → Parts O r lot ps → Q (.ref l) H'
theorem cal__law_parted (T : Txt w K mg CN CT dS) : Cal P w K mg base "_law_parted" ["_law_nets", "_law_lot", "_law_row"] 1 sp__law_parted := by
  refine cal_mk T.f__law_parted (fun F => F.ok sc__law_parted (fun vs H Q E h => ?_) (fun cdv A outer s H vs Q E hr h => ?_)) (fun F => F.binds fun _ _ _ _ _ _ us hl => match us, hl with | [_, _, _], _ => rfl)
  · obtain ⟨lo, a, O, R, r, d, lot, rfl, _⟩ := h
    rfl
  obtain ⟨lo, a, O, R, r, d, lot, rfl, ⟨ov, ho, po⟩, ha, hlot, hrR, hO, ro, hz, q⟩ := h
  refine ⟨_, (pss_cons (ps_set (i := 3) sc__law_parted.nd rfl (Or.inl rfl) (pe_callB (cr_sortedT rfl) (by rfl) T.sorted (by decide +kernel) (pa_cons (pe_callTy (cr_setOfT rfl hr.units) (by rfl) T.set (by decide +kernel) (pa_cons (pe_lc (own := [("_law_net_here", 4)]) (g := gName 4) rfl sc__law_parted.nd (pi_tup (pv 1)) (blkOk_by (N := n__law_parted) (sc := defScope s__law_parted) (by decide +kernel)) (fun _ _ _ _ _ => (pg_name (i := 4) sc__law_parted.nd rfl (Or.inl rfl))) (fun _ _ _ _ _ => pts_nil) (fun _ _ _ _ _ => (pe_ix (r := rIxT K) ix_tup (pe_ix (r := rIxL K) ix_list (pv 0) (pv 4) (fun _ _ => rfl)) (pv 2) (fun _ _ => rfl)))) pa_nil)) pa_nil)))
      (pss_one (ps_ret (pe_lc (own := [("_law_out", 5)]) (g := gName 5) rfl sc__law_parted.nd (pi_list (pv 3)) (blkOk_by (N := n__law_parted) (sc := defScope s__law_parted) (by decide +kernel)) (fun _ _ _ _ _ => (pg_name (i := 5) sc__law_parted.nd rfl (Or.inr rfl))) (fun _ _ _ _ _ => pts_nil) (fun _ _ _ _ _ => (pe_callTy (r := rTupQ K) call_tupQ (by rfl) T.tuple_ (by decide +kernel) (pa_cons (pe_lc (wi := iTup K (tVar 1)) (own := [("_law_net_here", 4)]) (g := gName 4) rfl sc__law_parted.nd (pi_tup (pv 1)) (blkOk_by (N := n__law_parted) (sc := sc2__law_parted) (by decide +kernel)) (fun _ _ _ _ _ => (pg_name (i := 4) sc__law_parted.nd rfl (Or.inl rfl))) (fun _ _ _ _ _ => pts_one (pt_cmpR (r := rEqD K) (op_eqD hr.units) (pe_ix (r := rIxT K) ix_tup (pe_ix (r := rIxL K) ix_list (pv 0) (pv 4) (fun _ _ => rfl)) (pv 2) (fun _ _ => rfl)) (pv 5) (nomark _))) (fun _ _ _ _ _ => (pv 4))) pa_nil))))))), ?_⟩
  have ll : (lot.map V.int).length = lot.length := List.length_map _
  refine ⟨_, rfl, a, rfl, ⟨_, SqT.of ha⟩, fun D hD => ?_⟩
  refine lcY walk_tup row_mono (fun j => (lot.take j).map fun n => out O n r) hD rfl (fun j hj => by rw [List.length_map, List.length_take]; omega) (fun _ s => SqT.of (s _ _ ha)) ?_ mono_name ?_
  · rintro j z H2 H2' hj s2 ⟨rfl, hz'⟩ Ny hNy
    rw [List.getElem?_map] at hz'
    obtain ⟨n, hn, rfl⟩ := Option.map_eq_some_iff.mp hz'
    obtain ⟨n0, n1⟩ := hlot.ix n (List.mem_of_getElem? hn)
    obtain ⟨b, rv, c, hv, hb, hv2, hc, _⟩ := out_get po hO hrR n0 n1 ro
    refine ⟨rfl, _, rfl, _, rfl, lo, ov, n, _, rfl, rfl, SqL.of (s2 _ _ ho), atI_get n0 hv, _, rfl, b, rv, _, _, rfl, rfl, SqT.of (s2 _ _ hb), atI_nat hv2, hNy _ _ (out O n r) (Same.refl _) ⟨c, rfl, s2 _ _ hc⟩ ?_⟩
    show (lot.take (j + 1)).map _ = (lot.take j).map _ ++ _
    rw [take_one_more hn, List.map_append]
    rfl
  intro H2 ws s2 hw pw
  have pw : Paired (RowR H2) ws (lot.map fun n => out O n r) := by
    rw [ll, List.take_length] at pw; exact pw
  obtain ⟨ks, e1, e2, e3⟩ := rows_ks pw
  have kl : ks.length = lot.length := by
    have := congrArg List.length e2
    rwa [List.length_map, List.length_map] at this
  refine ⟨D, ks, rfl, by rw [← e1]; exact SqL.of hw, fun p hp => SqT.of (e3 p hp), by omega, fun st L hst g1 g2 => ?_⟩
  have s3 := same_new (o := SetTO P w st L) hst
  refine ⟨st, L, d, 4, rfl, upd_same, fun p hp => SqT.of (s3 _ _ (e3 p (g1 p hp))), ro.d1, fun p hp => ?_, fun L' p perm nd lt _ hp => ?_⟩
  · have : p.2 ∈ ks.map (·.2) := List.mem_map.mpr ⟨p, g1 p hp, rfl⟩
    rw [e2] at this
    obtain ⟨n, hn, e⟩ := List.mem_map.mp this
    obtain ⟨n0, n1⟩ := hlot.ix n hn
    obtain ⟨b, rv, c, hv, hb, hv2, hc, dl, db⟩ := out_get po hO hrR n0 n1 ro
    rw [← e]
    exact ⟨dl, db⟩
  have s4 := same_new (o := .lst (L'.map fun q => V.ref q.1)) hp
  have s34 := s3.trans s4
  have s24 := s2.trans s34
  have kmem : ∀ k, k ∈ L'.map (·.2) ↔ ∃ n ∈ lot, out O n r = k := fun k => by
    have e : k ∈ L'.map (·.2) ↔ k ∈ ks.map (·.2) := by
      constructor
      · intro h
        obtain ⟨p, hp, rfl⟩ := List.mem_map.mp h
        exact List.mem_map.mpr ⟨p, g1 p (perm.mem_iff.mp hp), rfl⟩
      · intro h
        obtain ⟨p, hp, rfl⟩ := List.mem_map.mp h
        obtain ⟨p', hp', e'⟩ := List.mem_map.mp (g2 p hp)
        exact List.mem_map.mpr ⟨p', perm.mem_iff.mpr hp', e'⟩
    rw [e, e2, List.mem_map]
  have hks : ∀ x ∈ L', upd (upd H2 st (SetTO P w st L)) p (.lst (L'.map fun q => V.ref q.1)) x.1 = some (.tup (x.2.map V.int)) := fun x hx => s34 _ _ (e3 x (g1 x (perm.mem_iff.mp hx)))
  have ll' : (L'.map fun q => V.ref q.1).length = L'.length := List.length_map _
  refine ⟨_, rfl, p, rfl, ⟨_, SqL.of upd_same⟩, fun D2 hD2 => ?_⟩
  refine lcY walk_list row_mono (fun j => ((L'.map (·.2)).take j).map fun k => cls O r lot k) hD2 rfl (fun j hj => by rw [List.length_map, List.length_take, List.length_map]; omega) (fun _ s => SqL.of (s _ _ upd_same)) ?_ mono_name ?_
  · rintro j z H5 H5' hj s5 ⟨rfl, hz'⟩ Ny hNy
    rw [List.getElem?_map] at hz'
    obtain ⟨x, hx, rfl⟩ := Option.map_eq_some_iff.mp hz'
    have hxa := s5 _ _ (hks x (List.mem_of_getElem? hx))
    have ha5 := s5 _ _ (s24 _ _ ha)
    refine ⟨rfl, _, rfl, a, rfl, ⟨_, SqT.of ha5⟩, fun D3 hD3 => ?_⟩
    refine lcW walk_tup int_mono (fun i => cls O r (lot.take i) x.2) hD3 rfl (fun i hi => Nat.lt_of_le_of_lt (List.length_filter_le _ _) (by rw [List.length_take]; omega)) (fun _ s => SqT.of (s _ _ ha5)) ?_ ?_
    · rintro i y H6 H6' hi s6 ⟨rfl, hy⟩ Ny2 Nn2 hNy2 hNn2
      rw [List.getElem?_map] at hy
      obtain ⟨n, hn, rfl⟩ := Option.map_eq_some_iff.mp hy
      obtain ⟨n0, n1⟩ := hlot.ix n (List.mem_of_getElem? hn)
      obtain ⟨b, rv, c, hv, hb, hv2, hc, _⟩ := out_get po hO hrR n0 n1 ro
      have sA := s24.trans (s5.trans s6)
      have fe := cls_take (O := O) (r := r) (k := x.2) hn
      refine ⟨rfl, _, rfl, _, rfl, lo, ov, n, _, rfl, rfl, SqL.of (sA _ _ ho), atI_get n0 hv, _, rfl, b, rv, _, _, rfl, rfl, SqT.of (sA _ _ hb), atI_nat hv2, _, rfl, rowD (out O n r), rowD x.2, dpRow ⟨c, rfl, sA _ _ hc⟩, dpRow ⟨x.1, rfl, s6 _ _ hxa⟩, rowD_sh _, rowD_sh _, ?_⟩
      rw [rowD_eqv]
      by_cases e : out O n r = x.2
      · rw [decide_eq_true e]
        refine ⟨true, rfl, iteT ⟨_, rfl, hNy2 _ _ n (Same.refl _) rfl ?_⟩⟩
        rw [fe, if_pos e]
      · rw [decide_eq_false e]
        refine ⟨false, rfl, iteF (hNn2 _ (Same.refl _) ?_)⟩
        rw [fe, if_neg e, List.append_nil]
    · intro H6 us s6 hw6 pw6
      rw [ll, List.take_length] at pw6
      have pw6 := ints_iff.mp pw6
      subst pw6
      refine ⟨D3, _, rfl, SqL.of hw6, fun t ht => hNy _ _ (cls O r lot x.2) (s6.trans (same_new ht)) ⟨t, rfl, upd_same⟩ ?_⟩
      show ((L'.map (·.2)).take (j + 1)).map _ = ((L'.map (·.2)).take j).map _ ++ _
      rw [take_one_more (by rw [List.getElem?_map, hx]; rfl), List.map_append]
      rfl
  · intro H5 us s5 hw5 pw5
    rw [ll', show ((L'.map (·.2)).take L'.length) = L'.map (·.2) by rw [List.take_of_length_le (by rw [List.length_map]; exact Nat.le_refl _)]] at pw5
    exact q H5 D2 _ (s24.trans s5) ⟨us, hw5, pw5⟩ ⟨L'.map (·.2), nd, kmem, rfl⟩
end
end Fv
namespace Fv
open PySem L2
/-! ### the law's own search -/
noncomputable def canB (O : List Tbl) (R m : Nat) (q : List Int) : Bool := @decide (Can O R m q) (Classical.propDecidable _)
theorem canB_iff {O : List Tbl} {R m : Nat} {q : List Int} : canB O R m q = true ↔ Can O R m q := by
  unfold canB
  exact @decide_eq_true_iff _ (Classical.propDecidable _)
theorem canB_eq {O : List Tbl} {R m : Nat} {q : List Int} {b : Bool} (h : b = true ↔ Can O R m q) : b = canB O R m q := by
  cases e : canB O R m q with
  | true => exact h.mpr (canB_iff.mp e)
  | false =>
    cases b with
    | false => rfl
    | true => exact absurd (canB_iff.mpr (h.mp rfl)) (by rw [e]; exact fun z => nomatch z)
def canN (lot : List Int) (m : Nat) : NestedKey := .tup [rowN lot, .num (m : Nat)]
theorem canN_inj {l l' : List Int} {m m' : Nat} (h : canN l m = canN l' m') : l = l' ∧ m = m' := by
  unfold canN at h
  injection h with h
  injection h with h1 h2
  injection h2 with h2
  injection h2 with h2
  exact ⟨rowN_inj _ _ h1, by omega⟩
theorem canN_dep (l : List Int) (m : Nat) : (canN l m).depth ≤ 8 := by
  have := rowN_dep l
  simp only [canN, NestedKey.depth, NestedKey.depthAll]
  omega
theorem canN_nv {H : Hp} {a t : Addr} {l : List Int} {m : Nat} (ha : H a = some (.tup (l.map V.int))) (ht : H t = some (.tup [.ref a, .int (m : Nat)])) : NV H (canN l m) (.ref t) := by
  unfold canN NV
  refine ⟨t, _, rfl, ht, ?_⟩
  unfold NVs
  refine ⟨_, _, rfl, nvRow ⟨a, rfl, ha⟩, ?_⟩
  unfold NVs
  refine ⟨_, _, rfl, by simp [NV], ?_⟩
  simp [NVs]
structure KnownC (P : Program) (w : World) (O : List Tbl) (R : Nat) (full : List Int) (H : Hp) (kb : Addr) : Prop where
  ex : ∃ xs : List NE, DN P w H kb xs ∧ (xs.map (·.1)).Nodup ∧ ∀ e ∈ xs, ∃ lot ∈ subs full, ∃ m, m ≤ 9 ∧ e.1 = canN lot m ∧ (e.2.2 = true ↔ Can O R m lot)
theorem knownC_len {O : List Tbl} {R : Nat} {full : List Int} {xs : List NE} (hf : full.length ≤ 9) (nd : (xs.map (·.1)).Nodup) (h : ∀ e ∈ xs, ∃ lot ∈ subs full, ∃ m, m ≤ 9 ∧ e.1 = canN lot m ∧ (e.2.2 = true ↔ Can O R m lot)) : xs.length ≤ 5120 := by
  have hs : xs.map (·.1) ⊆ (subs full).flatMap fun lot => (List.range 10).map (canN lot) := fun k hk => by
    obtain ⟨e, he, rfl⟩ := List.mem_map.mp hk
    obtain ⟨lot, hl, m, hm, q, _⟩ := h e he
    exact List.mem_flatMap.mpr ⟨lot, hl, List.mem_map.mpr ⟨m, List.mem_range.mpr (by omega), q.symm⟩⟩
  have := sub_len nd hs
  rw [List.length_map, flat_len (c := 10) _ (fun x _ => by simp), subs_len] at this
  have p : 2 ^ full.length ≤ 2 ^ 9 := Nat.pow_le_pow_right (by decide) hf
  omega
theorem DN.same {P : Program} {w : World} {H H' : Hp} {a : Addr} {xs : List NE} (d : DN P w H a xs) (s : Same H H') : DN P w H' a xs := ⟨s _ _ d.at_, fun e he => ⟨NV.mono (fun b xs h => s _ _ h) _ _ (d.keys e he).1, (d.keys e he).2⟩⟩
theorem KnownC.same {P : Program} {w : World} {O : List Tbl} {R : Nat} {full : List Int} {H H' : Hp} {kb : Addr} (k : KnownC P w O R full H kb) (s : Same H H') : KnownC P w O R full H' kb := let ⟨xs, h, r⟩ := k.ex; ⟨xs, h.same s, r⟩
theorem valN_some : ∀ {xs : List NE} {k : NestedKey} {v : Bool}, valN xs k = some v → ∃ e ∈ xs, e.1 = k ∧ e.2.2 = v := by
  intro xs k v h
  unfold valN at h
  obtain ⟨e, h1, h2⟩ := Option.map_eq_some_iff.mp h
  have e1 := List.find?_some h1
  have e1 : e.1 = k := of_decide_eq_true e1
  exact ⟨e, List.mem_of_find?_eq_some h1, e1, h2⟩
theorem valN_none {xs : List NE} {k : NestedKey} (h : valN xs k = none) : k ∉ xs.map (·.1) := by
  unfold valN at h
  rw [Option.map_eq_none_iff, List.find?_eq_none] at h
  intro hk
  obtain ⟨e, he, rfl⟩ := List.mem_map.mp hk
  exact h e he (decide_eq_true rfl)
theorem putN_mem {xs : List NE} {k : NestedKey} {b : Addr} {v : Bool} {e : NE} (h : e ∈ putN xs k b v) : (e.1 = k ∧ e.2.2 = v ∧ (e.2.1 = b ∨ ∃ e' ∈ xs, e'.1 = k ∧ e'.2.1 = e.2.1)) ∨ e ∈ xs := by
  unfold putN at h
  by_cases q : (valN xs k).isSome = true
  · rw [if_pos q] at h
    obtain ⟨x, hx, rfl⟩ := List.mem_map.mp h
    by_cases z : x.1 = k
    · left
      rw [if_pos z]
      exact ⟨z, rfl, .inr ⟨x, hx, z, rfl⟩⟩
    · right
      rw [if_neg z]
      exact hx
  · rw [if_neg q] at h
    rcases List.mem_append.mp h with h | h
    · exact .inr h
    · rw [List.mem_singleton] at h
      subst h
      exact .inl ⟨rfl, rfl, .inl rfl⟩
theorem putN_nodup {xs : List NE} {k : NestedKey} {b : Addr} {v : Bool} (nd : (xs.map (·.1)).Nodup) : ((putN xs k b v).map (·.1)).Nodup := by
  unfold putN
  by_cases q : (valN xs k).isSome = true
  · rw [if_pos q, put_mapS.1]; exact nd
  · rw [if_neg q, List.map_append, List.nodup_append]
    have q : valN xs k = none := by
      cases z : valN xs k with
      | none => rfl
      | some _ => rw [z] at q; exact absurd rfl q
    refine ⟨nd, by simp, fun a ha b hb e => ?_⟩
    rw [List.map_cons, List.map_nil, List.mem_singleton] at hb
    have hb : b = k := hb
    exact valN_none q (by rw [← hb, ← e]; exact ha)
theorem putN_val {xs : List NE} {k : NestedKey} {b : Addr} {v : Bool} : valN (putN xs k b v) k = some v := by
  unfold putN
  by_cases q : (valN xs k).isSome = true
  · rw [if_pos q]
    clear b
    induction xs with
    | nil => simp [valN] at q
    | cons x xs ih =>
      unfold valN at q ih ⊢
      rw [List.map_cons, List.find?_cons]
      by_cases z : x.1 = k
      · rw [if_pos z, decide_eq_true z]
        rfl
      · rw [if_neg z, decide_eq_false z]
        refine ih ?_
        rw [List.find?_cons, decide_eq_false z] at q
        exact q
  · rw [if_neg q]
    have q : valN xs k = none := by
      cases z : valN xs k with
      | none => rfl
      | some _ => rw [z] at q; exact absurd rfl q
    unfold valN at q ⊢
    rw [Option.map_eq_none_iff] at q
    rw [List.find?_append, q]
    simp
theorem DN.put {P : Program} {w : World} {H : Hp} {a b : Addr} {xs : List NE} {k : NestedKey} {v : Bool} (d : DN P w H a xs) (hk : NV H k (.ref b)) (hd : k.depth ≤ 8) : DN P w (upd H a (DNO P w a (putN xs k b v))) a (putN xs k b v) := by
  have t : TS H (upd H a (DNO P w a (putN xs k b v))) := TS.upd (by rw [d.at_]; trivial)
  refine ⟨upd_same, fun e he => ?_⟩
  rcases putN_mem he with ⟨e1, _, e3⟩ | e0
  · rw [e1]
    refine ⟨NV.mono t.tup _ _ ?_, hd⟩
    rcases e3 with e3 | ⟨e', he', q1, q2⟩
    · rw [e3]; exact hk
    · rw [← q2, ← q1]; exact (d.keys e' he').1
  · exact ⟨NV.mono t.tup _ _ (d.keys e e0).1, (d.keys e e0).2⟩
theorem KnownC.put {P : Program} {w : World} {O : List Tbl} {R m : Nat} {full lot : List Int} {H : Hp} {kb b : Addr} {xs : List NE} {v : Bool} (d : DN P w H kb xs) (nd : (xs.map (·.1)).Nodup) (h : ∀ e ∈ xs, ∃ lot ∈ subs full, ∃ m, m ≤ 9 ∧ e.1 = canN lot m ∧ (e.2.2 = true ↔ Can O R m lot))
    (hs : lot.Sublist full) (hm : m ≤ 9) (hk : NV H (canN lot m) (.ref b)) (hv : v = true ↔ Can O R m lot) : KnownC P w O R full (upd H kb (DNO P w kb (putN xs (canN lot m) b v))) kb := by
  refine ⟨_, d.put hk (canN_dep _ _), putN_nodup nd, fun e he => ?_⟩
  rcases putN_mem he with ⟨e1, e2, _⟩ | e0
  · exact ⟨lot, mem_subs hs, m, hm, e1, by rw [e2]; exact hv⟩
  · exact h e e0
/-- the end of a search -/
def canTail (P : Program) (w : World) (K : PySem.W.Frag) : L2.TS := tSeq (sNPut P w (tVar 0) (tTup (tCons (tVar 2) (tCons (tVar 3) tNil))) (tVar 4)) (tRet (tOp (rIxN P w) (tVar 0) (tTup (tCons (tVar 2) (tCons (tVar 3) tNil)))))
theorem can_tail {P : Program} {w : World} {K : PySem.W.Frag} {D : Ends} {O : List Tbl} {R m : Nat} {full lot : List Int} {H : Hp} {kb lo a : Addr} {g : Bool} {v5 v6 v7 : Option V} (k : KnownC P w O R full H kb) (hf : full.length ≤ 9) (hs : lot.Sublist full) (hm : m ≤ 9)
    (ha : H a = some (.tup (lot.map V.int))) (hv : g = true ↔ Can O R m lot) (q : ∀ H' (b : Bool), But kb H H' → KnownC P w O R full H' kb → (b = true ↔ Can O R m lot) → D.rt (.bl b) H') :
    canTail P w K D [some (.ref kb), some (.ref lo), some (.ref a), some (.int (m : Nat)), some (.bl g), v5, v6, v7] H := by
  obtain ⟨xs, dn, nd, hx⟩ := k.ex
  have len := knownC_len hf nd hx
  refine ⟨_, rfl, _, rfl, _, rfl, _, rfl, by show 2 ≤ sizeLine; decide, fun t ht => ?_⟩
  have s1 := same_new (o := .tup [.ref a, .int (m : Nat)]) ht
  have dn1 := dn.same s1
  have nv1 : NV (upd H t (.tup [.ref a, .int (m : Nat)])) (canN lot m) (.ref t) := canN_nv (s1 _ _ ha) upd_same
  refine ⟨canN lot m, t, kb, xs, g, rfl, rfl, rfl, nv1, canN_dep _ _, dn1, sz1000' (by omega), ?_⟩
  have k2 := KnownC.put dn1 nd hx hs hm nv1 hv
  have dn2 : DN P w _ kb (putN xs (canN lot m) t g) := dn1.put nv1 (canN_dep _ _)
  have t2 : TS (upd H t (.tup [.ref a, .int (m : Nat)])) (upd (upd H t (.tup [.ref a, .int (m : Nat)])) kb (DNO P w kb (putN xs (canN lot m) t g))) := TS.upd (by rw [dn1.at_]; trivial)
  have ha2 := t2.tup _ _ (s1 _ _ ha)
  refine ⟨_, rfl, _, rfl, _, rfl, by show 2 ≤ sizeLine; decide, fun t3 ht3 => ?_⟩
  have s3 := same_new (o := .tup [.ref a, .int (m : Nat)]) ht3
  refine ⟨canN lot m, t3, kb, _, g, rfl, rfl, canN_nv (s3 _ _ ha2) upd_same, canN_dep _ _, dn2.same s3, putN_val, ?_⟩
  exact q _ g (((But.of s1).trans But.upd).trans (But.of s3)) (k2.same s3) hv
section
variable {P : Program} {w : World} {K : PySem.W.Frag} {mg : Str → Option Value} {base : Heap} {CN CT dS : Addr}
def sp__law_can (P : Program) (w : World) (m : Nat) : Sp := fun vs H Q _ => ∃ (kb lo a : Addr) (many R d : Nat) (O : List Tbl) (full lot : List Int), vs = [.ref kb, .ref lo, .ref a, .int many] ∧ KnownC P w O R full H kb ∧ LA OutR H lo O ∧ H a = some (.tup (lot.map V.int)) ∧ Lot O lot ∧ lot.Sublist full ∧ full.length ≤ 9 ∧
  many < m ∧ many ≤ 9 ∧ (∀ t ∈ O, t.length = R) ∧ RowsOk O d ∧ R ≤ 1024 ∧ 0 < O.length ∧ ∀ H' (b : Bool), But kb H H' → KnownC P w O R full H' kb → (b = true ↔ Can O R many lot) → Q (.bl b) H'
theorem cal__law_can (T : Txt w K mg CN CT dS) : ∀ m, Cal P w K mg base "_law_can" ["_law_known", "_law_nets", "_law_lot", "_law_many"] (m + 2) (sp__law_can P w m) := by
  intro m
  have g__law_parted := cal__law_parted (P := P) (base := base) T
  induction m with
  | zero =>
    refine cal_mk T.f__law_can (fun F => F.ok sc__law_can (fun vs H Q E h => ?_) (fun cdv A outer s H vs Q E hr h => ?_)) (fun F => F.binds fun _ _ _ _ _ _ us hl => match us, hl with | [_, _, _, _], _ => rfl)
    · obtain ⟨kb, lo, a, many, R, d, O, full, lot, rfl, _⟩ := h
      rfl
    · obtain ⟨kb, lo, a, many, R, d, O, full, lot, rfl, _, _, _, _, _, _, hm, _⟩ := h
      exact absurd hm (Nat.not_lt_zero _)
  | succ m g__law_can =>
    refine cal_mk T.f__law_can (fun F => F.ok sc__law_can (fun vs H Q E h => ?_) (fun cdv A outer s H vs Q E hr h => ?_)) (fun F => F.binds fun _ _ _ _ _ _ us hl => match us, hl with | [_, _, _, _], _ => rfl)
    · obtain ⟨kb, lo, a, many, R, d, O, full, lot, rfl, _⟩ := h
      rfl
    obtain ⟨kb, lo, a, many, R, d, O, full, lot, rfl, kn, la, ha, hlot, hs, hf, hm, hm9, hO, ro, hR, hpos, q⟩ := h
    refine ⟨_, (pss_cons (ps_if (pt_cmpR op_eq (pe_callB (r := rLenQ K) call_lenQ (by rfl) T.len (by decide +kernel) (pa_cons (pv 2) pa_nil)) pe_int (nomark _)) 
        (pss_one (ps_ret pe_bl)) pss_nil)
      (pss_cons (ps_if (pt_cmpR op_eq (pv 3) pe_int (nomark _)) 
        (pss_one (ps_ret pe_bl)) pss_nil)
      (pss_cons (ps_if (pt_cmpR (op_notInN hr.units) (pe_tup (pa_cons (pv 2) (pa_cons (pv 3) pa_nil))) (pv 0) (by rfl)) 
        (pss_cons (ps_set (i := 4) sc__law_can.nd rfl (Or.inl rfl) pe_bl)
        (pss_cons (ps_for PassesOwn.never rfl (pi_range1 (by rfl) T.range (pa_cons (pe_callB (r := rLenQ K) call_lenQ (by rfl) T.len (by decide +kernel) (pa_cons (pe_ix (r := rIxL K) ix_list (pv 1) pe_int (fun _ _ => rfl)) pa_nil)) pa_nil)) (pg_name (i := 5) sc__law_can.nd rfl (Or.inl rfl)) 
          (pss_cons (ps_set (i := 6) sc__law_can.nd rfl (Or.inl rfl) (pe_fn g__law_parted (hr.mono (by omega)) (by rfl) (pa_cons (pv 1) (pa_cons (pv 2) (pa_cons (pv 5) pa_nil)))))
          (pss_one (ps_if (PW.pt (pw_and (pt_cmpR op_gt (pe_callB (r := rLenQ K) call_lenQ (by rfl) T.len (by decide +kernel) (pa_cons (pv 6) pa_nil)) pe_int (nomark _)) (pw_and1 (pt_val (pe_callB (r := rAll K) (cr_all rfl) (by rfl) T.all (by decide +kernel) (pa_cons (pe_lc (own := [("_law_part", 7)]) (g := gName 7) rfl sc__law_can.nd (pi_list (pv 6)) (blkOk_by (N := n__law_can) (sc := defScope s__law_can) (by decide +kernel)) (fun _ _ _ _ _ => (pg_name (i := 7) sc__law_can.nd rfl (Or.inl rfl))) (fun _ _ _ _ _ => pts_nil) (fun _ _ _ _ _ => (pe_fn g__law_can (hr.mono (by omega)) (by rfl) (pa_cons (pv 0) (pa_cons (pv 1) (pa_cons (pv 7) (pa_cons (pe_op op_sub (pv 3) pe_int) pa_nil))))))) pa_nil)))))) 
            (pss_cons (ps_set (i := 4) sc__law_can.nd rfl (Or.inl rfl) pe_bl)
            (pss_one ps_break)) pss_nil))))
        (pss_one (ps_nput hr.units (pv 0) (pe_tup (pa_cons (pv 2) (pa_cons (pv 3) pa_nil))) (pv 4) rfl)))) pss_nil)
      (pss_one (ps_ret (pe_ix (ix_n hr.units) (pv 0) (pe_tup (pa_cons (pv 2) (pa_cons (pv 3) pa_nil))) (fun _ _ => rfl))))))), ?_⟩
    obtain ⟨xs, dn, nd, hx⟩ := kn.ex
    have nt : NT (H kb) := by rw [dn.at_]; trivial
    have l9 : lot.length ≤ 9 := Nat.le_trans hs.length_le hf
    have ll : (lot.map V.int).length = lot.length := List.length_map _
    have nak : a ≠ kb := fun e => by have := dn.at_; rw [← e, ha] at this; cases this
    have nlk : lo ≠ kb := fun e => by
      have := dn.at_
      obtain ⟨vs, h, _⟩ := la
      rw [← e, h] at this; cases this
    refine ⟨_, rfl, a, _, rfl, .inr (SqT.of ha), rfl, _, rfl, ?_⟩
    by_cases h1 : lot.length = 1
    · exact iteD (by rw [ll, h1]; rfl) (q H true (But.refl kb H) kn ⟨fun _ => can_one h1, fun _ => rfl⟩)
    refine iteDF (by intro z; injection z with z; exact h1 (by rw [← ll]; omega)) ?_
    refine ⟨_, rfl, rfl, _, rfl, ?_⟩
    by_cases h0 : many = 0
    · subst h0
      exact iteD rfl (q H false (But.refl kb H) kn ⟨(fun z => nomatch z), fun z => absurd z h1⟩)
    refine iteDF (by intro z; injection z with z; exact h0 (by omega)) ?_
    obtain ⟨mp, rfl⟩ : ∃ mp, many = mp + 1 := ⟨many - 1, by omega⟩
    refine ⟨_, rfl, _, rfl, by show 2 ≤ sizeLine; decide, fun t ht => ?_⟩
    have s1 := same_new (o := .tup [.ref a, .int ((mp + 1 : Nat))]) ht
    have kn1 := kn.same s1
    refine ⟨_, rfl, canN lot (mp + 1), t, kb, xs, rfl, rfl, canN_nv (s1 _ _ ha) upd_same, canN_dep _ _, dn.same s1, _, rfl, ?_⟩
    cases hv : valN xs (canN lot (mp + 1)) with
    | some v =>
      refine iteF ?_
      obtain ⟨e, he, e1, e2⟩ := valN_some hv
      obtain ⟨lot', hl', m', hm', e3, e4⟩ := hx e he
      obtain ⟨rfl, rfl⟩ := canN_inj (e1.symm.trans e3)
      rw [e2] at e4
      have kn1 := kn.same s1
      refine ⟨_, rfl, _, rfl, _, rfl, by show 2 ≤ sizeLine; decide, fun t3 ht3 => ?_⟩
      have s3 := same_new (o := .tup [.ref a, .int ((mp + 1 : Nat))]) ht3
      exact ⟨canN lot (mp + 1), t3, kb, xs, v, rfl, rfl, canN_nv (s3 _ _ (s1 _ _ ha)) upd_same, canN_dep _ _, (dn.same s1).same s3, hv, q _ v (But.of (s1.trans s3)) (kn1.same s3) e4⟩
    | none =>
      refine iteT ?_
      have hO0 : O[0]? = some O[0] := List.getElem?_eq_getElem hpos
      obtain ⟨ov, ho, po⟩ := id la
      obtain ⟨v0, hv0, b0, rv0, rfl, hb0, pb0⟩ := pget po hO0
      have l0 : rv0.length = R := by rw [Paired.length pb0]; exact hO _ (List.getElem_mem hpos)
      have b1 : But kb H (upd H t (.tup [.ref a, .int ((mp + 1 : Nat))])) := But.of s1
      refine ⟨_, rfl, lo, ov, _, _, rfl, rfl, SqL.of (s1 _ _ ho), (show atI ov ((0 : Nat) : Int) = _ from atI_nat hv0), b0, rv0, rfl, .inr (SqT.of (s1 _ _ hb0)), _, rfl, by omega, by omega, ?_⟩
      rw [l0]
      refine for_it walk_range (fun i σ H1 => ∃ (v5 v6 v7 : Option V), σ = [some (.ref kb), some (.ref lo), some (.ref a), some (.int ((mp + 1 : Nat))), some (.bl false), v5, v6, v7] ∧ But kb H H1 ∧ KnownC P w O R full H1 kb ∧ ∀ r, r < i → ¬ Via O R r mp lot) ⟨_, _, _, rfl, b1, kn1, fun r h => absurd h (Nat.not_lt_zero _)⟩ (fun _ _ _ _ _ => trivial) ?_ ?_
      · rintro i z σ H1 H1' hi ⟨v5, v6, v7, rfl, b1, kn1, nv⟩ ⟨rfl, hz0⟩
        have hz0 : z = .int (0 + (i : Nat)) := hz0
        rw [Int.zero_add] at hz0
        subst hz0
        have hi : i < R := by omega
        have la1 := la.but out_mono b1 nt nlk
        refine ⟨_, rfl, _, rfl, _, rfl, lo, a, O, R, i, d, lot, rfl, la1, b1 _ _ nak ha, hlot, hi, hO, ro, by omega, fun H2 l ps s2 ⟨pv, hl2, pp⟩ pts => ?_⟩
        have kn2 := kn1.same s2
        have b2 : But kb H H2 := b1.trans (But.of s2)
        have pl : pv.length = ps.length := Paired.length pp
        refine ⟨_, rfl, l, pv, rfl, .inl (SqL.of hl2), _, _, rfl, rfl, _, rfl, ?_⟩
        by_cases sp : Splits O i lot
        · have many := (parts_many pts).mpr sp
          refine iteD (by omega) ?_
          obtain ⟨xs2, dn2, _⟩ := kn2.ex
          have nt2 : NT (H2 kb) := by rw [dn2.at_]; trivial
          have nlk2 : l ≠ kb := fun e => by have := dn2.at_; rw [← e, hl2] at this; cases this
          have la2 := LA.same out_mono s2 la1
          refine ⟨_, rfl, l, rfl, ⟨_, SqL.of hl2⟩, fun D hD => ?_⟩
          have nDk : D ≠ kb := (ne_of_none dn2.at_ hD).symm
          refine lcI walk_list (fun H3 => But kb H2 H3 ∧ KnownC P w O R full H3 kb) (fun b : Bool => V.bl b) (fun j => (ps.take j).map (canB O R mp)) rfl ⟨But.of (same_new hD), kn2.same (same_new hD)⟩ ?_ (fun H3 h => SqL.of (h.1 _ _ nlk2 hl2)) (fun j hj => ?_) ?_ mono_name ?_
          · rintro H3 ws ws' ⟨c1, c2⟩ hDw
            obtain ⟨xs3, dn3, r3⟩ := c2.ex
            have t3 : TS H3 (upd H3 D (.lst ws')) := TS.upd (by rw [hDw]; trivial)
            exact ⟨c1.mut (H' := H2) hD, ⟨xs3, ⟨by rw [upd_ne nDk.symm]; exact dn3.at_, fun e he => ⟨NV.mono t3.tup _ _ (dn3.keys e he).1, (dn3.keys e he).2⟩⟩, r3⟩⟩
          · rw [List.length_map, List.length_take]
            have := parts_len pts
            omega
          · rintro j z H3 H3' ws hj ⟨c1, c2⟩ hDw ⟨rfl, hzj⟩ Ny hNy
            obtain ⟨lt, hlt, t, rfl, ht⟩ := pgetL pp hzj
            have hmm := List.mem_of_getElem? hlt
            obtain ⟨lo1, lo2⟩ := parts_lot pts hlot sp hmm
            have hsub2 : lt.Sublist full := by
              obtain ⟨n, hn, e⟩ := (parts_mem pts).mp hmm
              rw [e]; exact cls_sub hs
            have ntk : t ≠ kb := fun e => by have := dn2.at_; rw [← e, ht] at this; cases this
            have em : ((mp + 1 : Nat) : Int) - 1 = ((mp : Nat) : Int) := by omega
            refine ⟨rfl, _, rfl, _, rfl, _, rfl, _, rfl, _, _, rfl, rfl, kb, lo, t, mp, R, d, O, full, lt, ?_, c2, la2.but out_mono c1 nt2 nlk, c1 _ _ ntk ht, lo1, hsub2, hf, by omega, by omega, hO, ro, hR, hpos, fun H4 b b4 kn4 hb => ?_⟩
            · show [V.ref kb, V.ref lo, V.ref t, V.int (((mp + 1 : Nat) : Int) - 1)] = _
              rw [em]
            · refine hNy H4 b ⟨c1.trans b4, kn4⟩ (b4 _ _ nDk hDw) ?_
              show (ps.take (j + 1)).map _ = (ps.take j).map _ ++ _
              rw [take_one_more hlt, List.map_append, canB_eq hb]
              rfl
          · rintro H3 ⟨c1, c2⟩ hDw
            rw [pl, List.take_length] at hDw
            refine ⟨D, ps.map (canB O R mp), rfl, SqL.of hDw, _, rfl, ?_⟩
            have b3 : But kb H H3 := b2.trans c1
            have hall : ((ps.map (canB O R mp)).all id) = true ↔ Via O R i mp lot := by
              rw [parts_via pts sp, List.all_eq_true]
              constructor
              · intro h p hp
                exact canB_iff.mp (h _ (List.mem_map.mpr ⟨p, hp, rfl⟩))
              · intro h b hb
                obtain ⟨p, hp, rfl⟩ := List.mem_map.mp hb
                exact canB_iff.mpr (h p hp)
            cases hA : (ps.map (canB O R mp)).all id with
            | true =>
              have via := hall.mp hA
              refine iteT ?_
              exact can_tail (K := K) c2 hf hs hm9 (b3 _ _ nak ha) (g := true) ⟨fun _ => (can_iff h1).mpr ⟨i, hi, via⟩, fun _ => rfl⟩ fun H' b b' k' hb => q H' b (b3.trans b') k' hb
            | false =>
              refine iteF ⟨_, _, _, rfl, b3, c2, fun r hr => ?_⟩
              rcases Nat.lt_succ_iff_lt_or_eq.mp hr with z | z
              · exact nv r z
              · subst z
                intro via
                have := hall.mpr via
                rw [hA] at this
                cases this
        · have few : ¬ 1 < ps.length := fun z => sp ((parts_many pts).mp z)
          refine iteDF (by omega) (iteF ⟨_, _, _, rfl, b2, kn2, fun r hr => ?_⟩)
          rcases Nat.lt_succ_iff_lt_or_eq.mp hr with z | z
          · exact nv r z
          · subst z
            exact fun via => sp via.1
      · rintro σ H1 ⟨v5, v6, v7, rfl, b1, kn1, nv⟩
        rw [Int.toNat_natCast] at nv
        refine can_tail (K := K) kn1 hf hs hm9 (b1 _ _ nak ha) (g := false) ⟨(fun z => nomatch z), fun z => ?_⟩ fun H' b b' k' hb => q H' b (b1.trans b') k' hb
        obtain ⟨r, hr, via⟩ := (can_iff h1).mp z
        exact absurd via (nv r hr)
def sp__law_due : Sp := fun vs H Q _ => ∃ (lo : Addr) (R d : Nat) (O : List Tbl), vs = [.ref lo] ∧ LA OutR H lo O ∧ O.Nodup ∧ (∀ t ∈ O, t.length = R) ∧ RowsOk O d ∧ R ≤ 1024 ∧ 0 < O.length ∧ O.length ≤ 9 ∧
  ∀ H' (v : Nat), Same H H' → Least O R (upTo O.length) v → Q (.int v) H'
theorem cal__law_due (T : Txt w K mg CN CT dS) : Cal P w K mg base "_law_due" ["_law_nets"] 13 sp__law_due := by
  have g__law_can := cal__law_can (P := P) (base := base) T
  refine cal_mk T.f__law_due (fun F => F.ok sc__law_due (fun vs H Q E h => ?_) (fun cdv A outer s H vs Q E hr h => ?_)) (fun F => F.binds fun _ _ _ _ _ _ us hl => match us, hl with | [_], _ => rfl)
  · obtain ⟨lo, R, d, O, rfl, _⟩ := h
    rfl
  obtain ⟨lo, R, d, O, rfl, la, nd, hO, ro, hR, hpos, h9, q⟩ := h
  have g__law_can := g__law_can 10
  refine ⟨_, (pss_cons (ps_set (i := 1) sc__law_due.nd rfl (Or.inl rfl) pe_dnewN)
      (pss_cons (ps_set (i := 2) sc__law_due.nd rfl (Or.inl rfl) (pe_tupRg rfl (by rfl) T.tuple_ (prg_1 (by rfl) T.range (pe_callB (r := rLenQ K) call_lenQ (by rfl) T.len (by decide +kernel) (pa_cons (pv 0) pa_nil)))))
      (pss_cons (ps_for PassesOwn.never rfl (pi_range1 (by rfl) T.range (pa_cons (pe_callB (r := rLenQ K) call_lenQ (by rfl) T.len (by decide +kernel) (pa_cons (pv 0) pa_nil)) pa_nil)) (pg_name (i := 3) sc__law_due.nd rfl (Or.inl rfl)) 
        (pss_one (ps_if (pt_val (pe_fn g__law_can (hr.mono (by decide)) (by rfl) (pa_cons (pv 1) (pa_cons (pv 0) (pa_cons (pv 2) (pa_cons (pv 3) pa_nil)))))) 
          (pss_one (ps_ret (pv 3))) pss_nil)))
      (pss_one (ps_ret (pe_callB (r := rLenQ K) call_lenQ (by rfl) T.len (by decide +kernel) (pa_cons (pv 0) pa_nil))))))), ?_⟩
  obtain ⟨ov, ho, po⟩ := id la
  have ol : ov.length = O.length := Paired.length po
  intro kb hkb
  have s0 := same_new (o := DNO P w kb []) hkb
  refine ⟨_, rfl, lo, ov, rfl, .inl (SqL.of (s0 _ _ ho)), _, rfl, ?_⟩
  rw [ol]
  refine ⟨RgOk.of_le (by omega) (by omega) (by omega) (by omega), fun a ha => ?_⟩
  rw [rgV_upTo]
  have s1 := same_new (o := .tup ((upTo O.length).map V.int)) ha
  have s01 := s0.trans s1
  have kn : KnownC P w O R (upTo O.length) (upd (upd H kb (DNO P w kb [])) a (.tup ((upTo O.length).map V.int))) kb := ⟨[], ⟨s1 _ _ upd_same, fun _ h => nomatch h⟩, List.nodup_nil, fun _ h => nomatch h⟩
  refine ⟨_, rfl, lo, ov, rfl, .inl (SqL.of (s01 _ _ ho)), _, rfl, by omega, by omega, ?_⟩
  rw [ol]
  have nak : a ≠ kb := (ne_of_none (upd_same (H := H) (a := kb) (o := DNO P w kb [])) ha).symm
  have lot := lot_upTo hpos
  refine for_it walk_range (fun i σ H1 => ∃ (v3 : Option V), σ = [some (.ref lo), some (.ref kb), some (.ref a), v3] ∧ Same H H1 ∧ KnownC P w O R (upTo O.length) H1 kb ∧ H1 a = some (.tup ((upTo O.length).map V.int)) ∧ ∀ j, j < i → ¬ Can O R j (upTo O.length)) ⟨_, rfl, s01, kn, upd_same, fun r h => absurd h (Nat.not_lt_zero _)⟩ (fun _ _ _ _ _ => trivial) ?_ ?_
  · rintro i z σ H1 H1' hi ⟨v3, rfl, s1, kn1, ha1, nc⟩ ⟨rfl, hz0⟩
    have hz0 : z = .int (0 + (i : Nat)) := hz0
    rw [Int.zero_add] at hz0
    subst hz0
    have hi : i < O.length := by omega
    refine ⟨_, rfl, _, rfl, _, rfl, _, rfl, kb, lo, a, i, R, d, O, upTo O.length, upTo O.length, rfl, kn1, LA.same out_mono s1 la, ha1, lot, List.Sublist.refl _, by rw [upTo_len]; exact h9, by omega, by omega, hO, ro, hR, hpos, fun H2 b b2 kn2 hb => ⟨b, rfl, ?_⟩⟩
    have s2 : Same H H2 := ((But.of s1).trans b2).same hkb
    cases b with
    | true => exact iteT ⟨_, rfl, q H2 i s2 ⟨hb.mp rfl, nc⟩⟩
    | false =>
      refine iteF ⟨_, rfl, s2, kn2, b2 _ _ nak ha1, fun j hj => ?_⟩
      rcases Nat.lt_succ_iff_lt_or_eq.mp hj with z | z
      · exact nc j z
      · subst z
        exact fun c => nomatch hb.mpr c
  · rintro σ H1 ⟨v3, rfl, s1, kn1, ha1, nc⟩
    rw [Int.toNat_natCast] at nc
    exact absurd (can_all nd hO (O.length - 1) (by rw [upTo_len]; omega) lot) (nc _ (by omega))
end
end Fv
namespace Fv
open PySem L2
/-! ### what the law asks -/
theorem tbl_eq_iff {rows : List (List Int)} {s t : List Stp} : tbl rows s = tbl rows t ↔ ∀ r ∈ rows, run s r = run t r := by
  unfold tbl
  exact List.map_inj_left
theorem shows_nil {rows : List (List Int)} {steps : List Stp} {b : Nat × Nat} : (shows rows steps b).length = 0 ↔ ∀ r ∈ rows, run steps r = run (bent steps b.1 b.2) r := by
  unfold shows
  rw [List.length_eq_zero_iff, List.filter_eq_nil_iff]
  constructor
  · intro h r hr
    have := h r hr
    simpa using this
  · intro h r hr
    have := h r hr
    simp [this]
theorem harm_iff {rows : List (List Int)} {steps : List Stp} : (nets rows steps).length = 1 ↔ ((bends steps).filter (noHarm rows steps)).length = (bends steps).length := by
  unfold nets tables
  rw [dedup_one, List.length_filter_eq_length_iff]
  constructor
  · intro h b hb
    refine decide_eq_true (shows_nil.mpr fun r hr => ?_)
    exact (tbl_eq_iff.mp (h _ (List.mem_map.mpr ⟨b, hb, rfl⟩)) r hr).symm
  · intro h y hy
    obtain ⟨b, hb, rfl⟩ := List.mem_map.mp hy
    exact tbl_eq_iff.mpr fun r hr => (shows_nil.mp (of_decide_eq_true (h b hb)) r hr).symm
theorem zero_iff {O : List Tbl} {R v : Nat} (h : Least O R (upTo O.length) v) : v = 0 ↔ O.length = 1 := by
  constructor
  · rintro rfl
    have := h.1
    rw [show Can O R 0 (upTo O.length) = ((upTo O.length).length = 1) from rfl, upTo_len] at this
    exact this
  · intro e
    have := least_le h (show Can O R 0 (upTo O.length) by show (upTo O.length).length = 1; rw [upTo_len]; exact e)
    omega
theorem nets_ok {L n : Nat} {steps : List Stp} (g : Good L n steps) : RowsOk (nets (rowsM (lets L) n) steps) (afters n steps) := by
  refine ⟨(okSteps_afters g.ok g.n1 (Nat.le_trans g.n2 (by decide))).1, fun t ht r hr => ?_⟩
  have ht := mem_dedup.mp ht
  rw [tables_eq] at ht
  obtain ⟨s, hs, rfl⟩ := List.mem_map.mp ht
  obtain ⟨r0, hr0, rfl⟩ := List.mem_map.mp hr
  obtain ⟨l0, m0⟩ := rowsM_row hr0
  have oks : okSteps L n s ∧ afters n s = afters n steps := by
    rcases List.mem_cons.mp hs with rfl | hs
    · exact ⟨g.ok, rfl⟩
    · obtain ⟨b, hb, rfl⟩ := List.mem_map.mp hs
      exact ok_bent g.ok hb
  refine ⟨by rw [run_len (letters := L) (by rw [l0]; exact oks.1), l0]; exact oks.2, fun x hx => ?_⟩
  have := mem_lets (m0 x (run_mem hx))
  have := g.L2
  omega
/-- the law's third net -/
def o3 : List (List Int × Nat) := [([0, 1, 0], 1), ([1, 0, 1], 1), ([1, 1, 0], 2)]
theorem good3 : Good 2 3 [.chs 0 3 0 o3] := by
  refine ⟨by decide, by decide, by decide, by decide, by decide, ⟨⟨.inr rfl, by decide, by decide, by decide, ?_, ?_⟩, trivial⟩, by decide, by decide⟩
  · intro q hq
    simp only [o3, List.mem_cons, List.not_mem_nil, or_false] at hq
    rcases hq with rfl | rfl | rfl
    · exact ⟨rfl, by decide, by decide⟩
    · exact ⟨rfl, by decide, by decide⟩
    · exact ⟨rfl, by decide, by decide⟩
  · intro i x y hx hy
    match i, hx, hy with
    | 0, hx, hy =>
      cases hx; cases hy
      rfl
    | 1, hx, hy =>
      cases hx; cases hy
      rfl
    | i + 2, hx, hy => simp [o3] at hy
section
variable {P : Program} {w : World} {K : PySem.W.Frag} {mg : Str → Option Value} {base : Heap} {CN CT dS : Addr}
def lawMain (K : PySem.W.Frag) (CN : Addr) : L2.TS :=
              (tSeq
                (tAsg (tMake CN (sp_Net_init CN) [] E0 (tCons (tVar 3) (tCons (tVar 4) (tCons (tVar 5) tNil))))
                  (gName 6))
                (tSeq (tAsg (tCall sp__law_all [] E0 (tCons (tVar 3) (tCons (tVar 4) (tCons (tVar 5) tNil)))) (gName 7))
                  (tSeq (tAsg (tCall (sp_tell_bends CN) [] E0 (tCons (tVar 6) tNil)) (gName 8))
                    (tSeq
                      (tIfS
                        (tOr (tNot (tB (tCB (rIsi K) (tCons (tVar 8) (tCons (tC (V.ty "int")) tNil)))))
                          (tOr (tB (tCB (rIsi K) (tCons (tVar 8) (tCons (tC (V.ty "bool")) tNil))))
                            (tTest (tOp rNe (tVar 8) (tCall sp__law_due [] E0 (tCons (tVar 7) tNil))))))
                        (tRet (tC (V.bl false))) tNext)
                      (tIfS
                        (tOr
                          (tTest
                            (tOp rNe (tOp rEq (tVar 8) (tC (V.int 0)))
                              (tOp rEq (tCB (rLenQ K) (tCons (tCall (sp_harmless CN) [] E0 (tCons (tVar 6) tNil)) tNil))
                                (tCB (rLenQ K) (tCons (tCall sp__law_bends [] E0 (tCons (tVar 5) tNil)) tNil)))))
                          (tTest
                            (tOp (rI0 fun i j => V.bl (decide (j ≤ i))) (tVar 8)
                              (tCB (rLenQ K) (tCons (tVar 7) tNil)))))
                        (tRet (tC (V.bl false))) tNext)))))
theorem law_main {D : Ends} {H : Hp} {l h c ls : Addr} {L n : Nat} {steps : List Stp} {v2 v6 v7 v8 : Option V} (r : HandR H h c) (la : LA StpR H ls steps) (g : Good L n steps)
    (q : ∀ H' v3 v4 v5 v6 v7 v8, HandR H' h c → D.nx [some (.ref l), some (.ref h), v2, v3, v4, v5, v6, v7, v8] H') : lawMain K CN D [some (.ref l), some (.ref h), v2, some (.int (L : Nat)), some (.int (n : Nat)), some (.ref ls), v6, v7, v8] H := by
  have n5 := g.n2
  have sz8 := g.sz
  have rl := rowsM_len_le (n := n) (lets_len4 g.L2) g.n2
  refine ⟨_, rfl, _, rfl, _, rfl, fun x dx nx ndx ne => ?_⟩
  have sm : Same H (upd (upd H dx (.own x)) x (.ins CN dx [])) := (same_new ndx).trans (same_new (by rw [upd_ne (Ne.symm ne)]; exact nx))
  refine ⟨x, dx, ls, L, n, steps, rfl, upd_same, LA.same stp_mono sm la, g.ok, g.L1, g.L2, g.n1, by omega, by omega, fun H5 ol hol b no => ⟨rfl, ?_⟩⟩
  have s5 : Same H H5 := make_same nx ndx b
  have nb : NetB CN H5 x L n steps := ⟨⟨ol, no⟩, g.ok, g.L1, g.L2, g.n1, g.n2, by omega⟩
  have la5 := LA.same stp_mono s5 la
  refine ⟨_, rfl, _, rfl, _, rfl, L, n, ls, steps, rfl, la5, g, fun H6 lo s6 lo6 => ?_⟩
  have nb6 := nb.same s6
  refine ⟨_, rfl, x, L, n, steps, rfl, nb6, g.pw, g.bz, fun H7 v s7 lv => ?_⟩
  have npos := nets_pos (rowsM (lets L) n) steps
  have nle := nets_le (rowsM (lets L) n) steps
  have bz := g.bz
  have harm := harm_iff (rows := rowsM (lets L) n) (steps := steps)
  have nok := nets_ok g
  have nrow := nets_rows (rows := rowsM (lets L) n) (steps := steps)
  have nnd : (nets (rowsM (lets L) n) steps).Nodup := nodup_dedup _
  have lo7 := LA.same out_mono s7 lo6
  refine ⟨_, rfl, _, _, _, _, _, rfl, .ty _, .base (.int _), kit_ty kit_ii, true, rfl, iteF ?_⟩
  refine ⟨_, rfl, _, _, _, _, _, rfl, .ty _, .base (.int _), kit_ty kit_ib, false, rfl, iteF ?_⟩
  refine ⟨_, rfl, _, rfl, lo, (rowsM (lets L) n).length, afters n steps, _, rfl, lo7, nnd, nrow, nok, rl, npos, by omega, fun H8 u s8 lu => ⟨rfl, _, rfl, ?_⟩⟩
  have ev : u = v := least_uniq lu lv
  subst ev
  refine iteNE rfl ?_
  have s58 := s6.trans (s7.trans s8)
  refine ⟨_, rfl, rfl, _, rfl, x, L, n, steps, rfl, nb.same s58, fun H9 lh s9 ⟨vh, eh, ph⟩ => ⟨lh, vh, rfl, .inl (SqL.of eh), _, rfl, ls, steps, rfl, LA.same stp_mono (s58.trans s9) la5, by omega, wide3 g.ok, fun H10 lb s10 fb ⟨vb, eb, pb⟩ => ⟨lb, vb, rfl, .inl (SqL.of eb), rfl, rfl, _, rfl, ?_⟩⟩⟩
  have lh1 : vh.length = ((bends steps).filter (noHarm (rowsM (lets L) n) steps)).length := Paired.length ph
  have lb1 : vb.length = (bends steps).length := Paired.length pb
  have z := zero_iff lv
  have e1 : decide (V.int ((u : Nat) : Int) = V.int 0) = decide (V.int ((vh.length : Nat) : Int) = V.int ((vb.length : Nat) : Int)) := by
    refine decide_eq_decide.mpr ⟨fun h => ?_, fun h => ?_⟩
    · injection h with h
      have : u = 0 := by omega
      rw [lh1, lb1, harm.mp (z.mp this)]
    · injection h with h
      have h : vh.length = vb.length := by omega
      rw [lh1, lb1] at h
      rw [z.mpr (harm.mpr h)]
      rfl
  refine iteNE (by rw [e1]) ?_
  have s7A := s8.trans (s9.trans s10)
  obtain ⟨ov, eo, po⟩ := LA.same out_mono s7A lo7
  have ol : ov.length = (nets (rowsM (lets L) n) steps).length := Paired.length po
  have vle : u ≤ (nets (rowsM (lets L) n) steps).length - 1 := least_le lv (can_all nnd nrow _ (by rw [upTo_len]; omega) (lot_upTo npos))
  refine ⟨_, rfl, _, rfl, lo, ov, rfl, .inl (SqL.of eo), _, _, rfl, rfl, _, rfl, iteDF (by omega) ?_⟩
  exact q _ _ _ _ _ _ _ (r.same (s5.trans (s6.trans (s7.trans s7A))))
def lawMid (K : PySem.W.Frag) (CN : Addr) : L2.TS :=
            (tSeq
              (tIfS
                (tAnd (tTest (tOp (rI0 fun i j => V.bl (decide (j < i))) (tVar 4) (tC (V.int 4))))
                  (tTest
                    (tOp (rI0 fun i j => V.bl (decide (j < i)))
                      (tCall sp__law_draw [] E0 (tCons (tVar 1) (tCons (tC (V.int 3)) tNil))) (tC (V.int 0)))))
                (tPar3 3 4 5
                  (tCons (tC (V.int 2))
                    (tCons (tC (V.int 3))
                      (tCons
                        (tLst
                          (tCons
                            (tTup
                              (tCons (tC (V.str (Str.ofString "choose")))
                                (tCons (tC (V.int 0))
                                  (tCons (tC (V.int 3))
                                    (tCons (tC (V.int 0))
                                      (tCons
                                        (tTupF
                                          (tCons
                                            (tTup
                                              (tCons
                                                (tTup
                                                  (tCons (tC (V.int 0))
                                                    (tCons (tC (V.int 1)) (tCons (tC (V.int 0)) tNil))))
                                                (tCons (tC (V.int 1)) tNil)))
                                            (tCons
                                              (tTup
                                                (tCons
                                                  (tTup
                                                    (tCons (tC (V.int 1))
                                                      (tCons (tC (V.int 0)) (tCons (tC (V.int 1)) tNil))))
                                                  (tCons (tC (V.int 1)) tNil)))
                                              (tCons
                                                (tTup
                                                  (tCons
                                                    (tTup
                                                      (tCons (tC (V.int 1))
                                                        (tCons (tC (V.int 1)) (tCons (tC (V.int 0)) tNil))))
                                                    (tCons (tC (V.int 2)) tNil)))
                                                tNil))))
                                        tNil))))))
                            tNil))
                        tNil))))
                tNext)
              (lawMain K CN))
theorem law_mid {D : Ends} {H : Hp} {l h c ls : Addr} {L n : Nat} {steps : List Stp} {v2 v6 v7 v8 : Option V} (r : HandR H h c) (la : LA StpR H ls steps) (nls : ls ≠ h) (g : Good L n steps)
    (q : ∀ H' v3 v4 v5 v6 v7 v8, HandR H' h c → D.nx [some (.ref l), some (.ref h), v2, v3, v4, v5, v6, v7, v8] H') : lawMid K CN D [some (.ref l), some (.ref h), v2, some (.int (L : Nat)), some (.int (n : Nat)), some (.ref ls), v6, v7, v8] H := by
  refine ⟨_, rfl, _, _, rfl, rfl, _, rfl, ?_⟩
  by_cases h4 : (4 : Int) < (n : Int)
  · refine iteD h4 ?_
    refine ⟨_, rfl, h, c, 3, rfl, r, by decide, by decide, fun H1 d b1 r1 f1 => ⟨_, _, rfl, rfl, _, rfl, ?_⟩⟩
    by_cases hd : (0 : Int) < (d : Int)
    · refine iteD hd ?_
      refine ⟨by show 3 ≤ sizeLine; decide, fun a1 h1 => ⟨by show 2 ≤ sizeLine; decide, fun p1 g1 => ⟨by show 3 ≤ sizeLine; decide, fun a2 h2 => ⟨by show 2 ≤ sizeLine; decide, fun p2 g2 => ⟨by show 3 ≤ sizeLine; decide, fun a3 h3 => ⟨by show 2 ≤ sizeLine; decide, fun p3 g3 => ?_⟩⟩⟩⟩⟩⟩
      refine ⟨by show 3 ≤ sizeLine; decide, fun t ob tob ht => ⟨by show 5 ≤ sizeLine; decide, fun s hs => ⟨by show 1 ≤ sizeLine; decide, fun ls hls => ?_⟩⟩⟩
      have u1 := same_new (o := .tup [.int 0, .int 1, .int 0]) h1
      have w1 := same_new (o := .tup [.ref a1, .int 1]) g1
      have u2 := same_new (o := .tup [.int 1, .int 0, .int 1]) h2
      have w2 := same_new (o := .tup [.ref a2, .int 1]) g2
      have u3 := same_new (o := .tup [.int 1, .int 1, .int 0]) h3
      have w3 := same_new (o := .tup [.ref a3, .int 2]) g3
      have ut := same_new (o := .frz ob (.tup [.ref p1, .ref p2, .ref p3])) ht
      have us := same_new (o := .tup [.str "choose", .int 0, .int 3, .int 0, .ref t]) hs
      have ul := same_new (o := .lst [.ref s]) hls
      have e3 := ut.trans (us.trans ul)
      have d3 := w3.trans e3
      have c3 := u3.trans d3
      have d2 := w2.trans c3
      have c2 := u2.trans d2
      have d1 := w1.trans c2
      refine ⟨_, _, _, rfl, ?_⟩
      refine law_main (L := 2) (n := 3) (steps := [.chs 0 3 0 o3]) (r1.same (u1.trans d1)) ⟨[.ref s], upd_same, .cons ⟨s, _, rfl, ul _ _ upd_same, .ref t, rfl, t, ob, _, rfl, tob, (us.trans ul) _ _ upd_same, ?_⟩ .nil⟩ good3 q
      exact .cons ⟨p1, a1, rfl, c2 _ _ upd_same, d1 _ _ upd_same⟩ (.cons ⟨p2, a2, rfl, c3 _ _ upd_same, d2 _ _ upd_same⟩ (.cons ⟨p3, a3, rfl, e3 _ _ upd_same, d3 _ _ upd_same⟩ .nil))
    · refine iteDF hd ?_
      exact law_main r1 (la.but stp_mono b1 r.nt nls) g q
  · refine iteDF h4 (iteF ?_)
    exact law_main r la g q
def sp_law (K : PySem.W.Frag) : Sp := fun vs H Q _ => ∃ (l : Addr) (ns : List Int), vs = [.ref l] ∧ SqL K H l (ns.map V.int) ∧ ns.length ≤ 1000 ∧ ∀ H', Q (.bl true) H'
theorem ok_law (T : Txt w K mg CN CT dS) {f : Addr} {fd : FuncData} (F : Fun K "law" "law" s_law f fd) : FnOk P w K mg base CX0 16 f fd ["_law_script"] (sp_law K) := by
  have g_Net_init := cal_Net_init (P := P) (base := base) T
  have g__law_all := cal__law_all (P := P) (base := base) T
  have g__law_bends := cal__law_bends (P := P) (base := base) T
  have g__law_draw := cal__law_draw (P := P) (base := base) T
  have g__law_due := cal__law_due (P := P) (base := base) T
  have g__law_hand := cal__law_hand (P := P) (base := base) T
  have g__law_net := cal__law_net (P := P) (base := base) T
  have g__law_parts := cal__law_parts (P := P) (base := base) T
  have g_harmless := cal_harmless (P := P) (base := base) T
  have g_tell_bends := cal_tell_bends (P := P) (base := base) T
  refine F.ok sc_law (fun vs H Q E h => ?_) (fun cdv A outer s H vs Q E hr h => ?_)
  · obtain ⟨l, ns, rfl, _⟩ := h
    rfl
  obtain ⟨l, ns, rfl, hl, hz, q⟩ := h
  refine ⟨_, (pss_cons (ps_set (i := 1) sc_law.nd rfl (Or.inl rfl) (pe_fn g__law_hand (hr.mono (by decide)) (by rfl) (pa_cons (pv 0) pa_nil)))
      (pss_cons (ps_for PassesOwn.never rfl (pi_range1 (by rfl) T.range (pa_cons pe_int pa_nil)) (pg_name (i := 2) sc_law.nd rfl (Or.inl rfl)) 
        (pss_cons (ps_asg (pe_fn g__law_net (hr.mono (by decide)) (by rfl) (pa_cons (pv 1) (pa_cons pe_int (pa_cons pe_int pa_nil)))) (pg_tup rfl (pgs_cons (pg_name (i := 3) sc_law.nd rfl (Or.inl rfl)) (pgs_cons (pg_name (i := 4) sc_law.nd rfl (Or.inl rfl)) (pgs_cons (pg_name (i := 5) sc_law.nd rfl (Or.inl rfl)) pgs_nil)))))
        (pss_cons (ps_if (pt_cmpR op_eq (pe_fn g__law_draw (hr.mono (by decide)) (by rfl) (pa_cons (pv 1) (pa_cons pe_int pa_nil))) pe_int (nomark _)) 
          (pss_one (ps_par3 (i := 3) (j := 4) (l := 5) rfl sc_law.nd rfl rfl rfl (by decide) (by decide) (by decide) rfl rfl rfl (pa_cons pe_int (pa_cons pe_int (pa_cons (pe_fn g__law_parts (hr.mono (by decide)) (by rfl) (pa_cons (pv 1) pa_nil)) pa_nil))) (by rfl))) pss_nil)
        (pss_cons (ps_if (PW.pt (pw_and (pt_cmpR op_gt (pv 4) pe_int (nomark _)) (pw_and1 (pt_cmpR op_gt (pe_fn g__law_draw (hr.mono (by decide)) (by rfl) (pa_cons (pv 1) (pa_cons pe_int pa_nil))) pe_int (nomark _))))) 
          (pss_one (ps_par3 (i := 3) (j := 4) (l := 5) rfl sc_law.nd rfl rfl rfl (by decide) (by decide) (by decide) rfl rfl rfl (pa_cons pe_int (pa_cons pe_int (pa_cons (pe_lst (pa_cons (pe_tup (pa_cons pe_str (pa_cons pe_int (pa_cons pe_int (pa_cons pe_int (pa_cons (pe_tupF (pa_cons (pe_tup (pa_cons (pe_tup (pa_cons pe_int (pa_cons pe_int (pa_cons pe_int pa_nil)))) (pa_cons pe_int pa_nil))) (pa_cons (pe_tup (pa_cons (pe_tup (pa_cons pe_int (pa_cons pe_int (pa_cons pe_int pa_nil)))) (pa_cons pe_int pa_nil))) (pa_cons (pe_tup (pa_cons (pe_tup (pa_cons pe_int (pa_cons pe_int (pa_cons pe_int pa_nil)))) (pa_cons pe_int pa_nil))) pa_nil)))) pa_nil)))))) pa_nil)) pa_nil))) (by rfl))) pss_nil)
        (pss_cons (ps_set (i := 6) sc_law.nd rfl (Or.inl rfl) (pe_mk g_Net_init (hr.mono (by decide)) (by rfl) (pa_cons (pv 3) (pa_cons (pv 4) (pa_cons (pv 5) pa_nil)))))
        (pss_cons (ps_set (i := 7) sc_law.nd rfl (Or.inl rfl) (pe_fn g__law_all (hr.mono (by decide)) (by rfl) (pa_cons (pv 3) (pa_cons (pv 4) (pa_cons (pv 5) pa_nil)))))
        (pss_cons (ps_set (i := 8) sc_law.nd rfl (Or.inl rfl) (pe_fn g_tell_bends (hr.mono (by decide)) (by rfl) (pa_cons (pv 6) pa_nil)))
        (pss_cons (ps_if (PW.pt (pw_or (pt_not (pt_val (pe_callB (r := rIsi K) call_isi (by rfl) T.isinstance (by decide +kernel) (pa_cons (pv 8) (pa_cons (pe_ty "int" T.int_) pa_nil))))) (pw_or (pt_val (pe_callB (r := rIsi K) call_isi (by rfl) T.isinstance (by decide +kernel) (pa_cons (pv 8) (pa_cons (pe_ty "bool" T.bool_) pa_nil)))) (pw_or1 (pt_cmpR op_ne (pv 8) (pe_fn g__law_due (hr.mono (by decide)) (by rfl) (pa_cons (pv 7) pa_nil)) (nomark _)))))) 
          (pss_one (ps_ret pe_bl)) pss_nil)
        (pss_one (ps_if (PW.pt (pw_or (pt_cmpR op_ne (pe_cmpR op_eq (pv 8) pe_int (nomark _)) (pe_cmpR op_eq (pe_callB (r := rLenQ K) call_lenQ (by rfl) T.len (by decide +kernel) (pa_cons (pe_fn g_harmless (hr.mono (by decide)) (by rfl) (pa_cons (pv 6) pa_nil)) pa_nil)) (pe_callB (r := rLenQ K) call_lenQ (by rfl) T.len (by decide +kernel) (pa_cons (pe_fn g__law_bends (hr.mono (by decide)) (by rfl) (pa_cons (pv 5) pa_nil)) pa_nil)) (nomark _)) (nomark _)) (pw_or1 (pt_cmpR op_ge (pv 8) (pe_callB (r := rLenQ K) call_lenQ (by rfl) T.len (by decide +kernel) (pa_cons (pv 7) pa_nil)) (nomark _))))) 
          (pss_one (ps_ret pe_bl)) pss_nil))))))))))
      (pss_one (ps_ret pe_bl)))), ?_⟩
  refine ⟨_, rfl, l, ns, rfl, hl, hz, fun H1 h c s1 r1 => ?_⟩
  refine ⟨_, rfl, by decide, by decide, ?_⟩
  refine for_it walk_range (fun i σ H1 => ∃ (v2 v3 v4 v5 v6 v7 v8 : Option V), σ = [some (.ref l), some (.ref h), v2, v3, v4, v5, v6, v7, v8] ∧ HandR H1 h c) ⟨_, _, _, _, _, _, _, rfl, r1⟩ (fun _ _ _ _ _ => trivial) ?_ ?_
  · rintro i z σ H2 H2' hi ⟨v2, v3, v4, v5, v6, v7, v8, rfl, r2⟩ ⟨rfl, hz0⟩
    refine ⟨_, rfl, h, c, rfl, r2, fun H3 t ls L n steps b3 r3 ht la nls g => ?_⟩
    refine ⟨t, _, rfl, SqT.of ht, rfl, _, _, rfl, _, _, rfl, _, _, rfl, rfl, ?_⟩
    refine ⟨_, rfl, h, c, 4, rfl, r3, by decide, by decide, fun H4 d b4 r4 f4 => ⟨rfl, _, rfl, ?_⟩⟩
    have fin : ∀ (v2 : Option V) (H' : Hp) (v3 v4 v5 v6 v7 v8 : Option V), HandR H' h c → ∃ (u2 u3 u4 u5 u6 u7 u8 : Option V), [some (V.ref l), some (V.ref h), v2, v3, v4, v5, v6, v7, v8] = [some (.ref l), some (.ref h), u2, u3, u4, u5, u6, u7, u8] ∧ HandR H' h c := fun _ _ _ _ _ _ _ _ r => ⟨_, _, _, _, _, _, _, rfl, r⟩
    by_cases hd : V.int ((d : Nat) : Int) = V.int 0
    · refine iteD hd ?_
      refine ⟨_, rfl, h, c, rfl, r4, fun H5 lp ps b5 r5 lap nlp gp => ⟨_, _, _, rfl, ?_⟩⟩
      exact law_mid (K := K) (L := 2) (n := 3) r5 lap nlp gp (fin _)
    · refine iteDF hd ?_
      exact law_mid (K := K) r4 (la.but stp_mono b4 r3.nt nls) nls g (fin _)
  · rintro σ H2 ⟨v2, v3, v4, v5, v6, v7, v8, rfl, r2⟩
    exact q _
end
end Fv
namespace Fv
open PySem PySem.Spec PyProof.Rows L2
/-! ### the head: facts by names -/
abbrev dd (p : Str × Option Str) (n q : Str) (st : Stmt) : He.DefD := ⟨p, n, q, defArgs st, defBody st, defScope st, [], []⟩
def hfn0 : List He.DefD := [dd ("is_integer", none) "is_integer" "is_integer" s_is_integer, dd ("is_between", none) "is_between" "is_between" s_is_between, dd ("is_index", none) "is_index" "is_index" s_is_index, dd ("power_of", none) "power_of" "power_of" s_power_of, dd ("rows_of", none) "rows_of" "rows_of" s_rows_of, dd ("check_listed", none) "check_listed" "check_listed" s_check_listed, dd ("is_exchange", none) "is_exchange" "is_exchange" s_is_exchange, dd ("exchanged_by", none) "exchanged_by" "exchanged_by" s_exchanged_by, dd ("is_letters", none) "is_letters" "is_letters" s_is_letters, dd ("are_others", none) "are_others" "are_others" s_are_others, dd ("is_step_form", none) "is_step_form" "is_step_form" s_is_step_form, dd ("lanes_after", none) "lanes_after" "lanes_after" s_lanes_after, dd ("can_be", none) "can_be" "can_be" s_can_be, dd ("Net", some "__init__") "__init__" "Net.__init__" s_Net_init, dd ("Net", some "keep") "keep" "Net.keep" s_Net_keep, dd ("place_by", none) "place_by" "place_by" s_place_by, dd ("work", none) "work" "work" s_work, dd ("sources", none) "sources" "sources" s_sources, dd ("run_of", none) "run_of" "run_of" s_run_of, dd ("check_all", none) "check_all" "check_all" s_check_all]
def hfn1 : List He.DefD := [dd ("all_ins", none) "all_ins" "all_ins" s_all_ins, dd ("bends_of", none) "bends_of" "bends_of" s_bends_of, dd ("bent_of", none) "bent_of" "bent_of" s_bent_of, dd ("shown_of", none) "shown_of" "shown_of" s_shown_of, dd ("harmless", none) "harmless" "harmless" s_harmless, dd ("Teller", some "__init__") "__init__" "Teller.__init__" s_Teller_init, dd ("Teller", some "parts") "parts" "Teller.parts" s_Teller_parts, dd ("Teller", some "fewest") "fewest" "Teller.fewest" s_Teller_fewest, dd ("tell_bends", none) "tell_bends" "tell_bends" s_tell_bends, dd ("_law_hand", none) "_law_hand" "_law_hand" s__law_hand, dd ("_law_draw", none) "_law_draw" "_law_draw" s__law_draw, dd ("_law_some", none) "_law_some" "_law_some" s__law_some, dd ("_law_rows", none) "_law_rows" "_law_rows" s__law_rows, dd ("_law_exchanged", none) "_law_exchanged" "_law_exchanged" s__law_exchanged, dd ("_law_exchanges", none) "_law_exchanges" "_law_exchanges" s__law_exchanges, dd ("_law_step", none) "_law_step" "_law_step" s__law_step, dd ("_law_worked", none) "_law_worked" "_law_worked" s__law_worked, dd ("_law_led", none) "_law_led" "_law_led" s__law_led, dd ("_law_net", none) "_law_net" "_law_net" s__law_net, dd ("_law_bent", none) "_law_bent" "_law_bent" s__law_bent]
def hfn2 : List He.DefD := [dd ("_law_bends", none) "_law_bends" "_law_bends" s__law_bends, dd ("_law_all", none) "_law_all" "_law_all" s__law_all, dd ("_law_parted", none) "_law_parted" "_law_parted" s__law_parted, dd ("_law_can", none) "_law_can" "_law_can" s__law_can, dd ("_law_due", none) "_law_due" "_law_due" s__law_due, dd ("_law_parts", none) "_law_parts" "_law_parts" s__law_parts, dd ("law", none) "law" "law" s_law]
def hfn : List He.DefD := hfn0 ++ (hfn1 ++ (hfn2))
def hfa0 : List He.Fa := [.glo "is_integer", .glo "is_between", .glo "is_index", .glo "power_of", .glo "rows_of", .glo "check_listed", .glo "is_exchange", .glo "exchanged_by", .glo "is_letters", .glo "are_others", .glo "is_step_form", .glo "lanes_after", .glo "can_be", .glo "place_by", .glo "work", .glo "sources", .glo "run_of", .glo "check_all", .glo "all_ins", .glo "bends_of", .glo "bent_of", .glo "shown_of", .glo "harmless", .glo "tell_bends", .glo "_law_hand", .glo "_law_draw", .glo "_law_some", .glo "_law_rows", .glo "_law_exchanged", .glo "_law_exchanges"]
def hfa1 : List He.Fa := [.glo "_law_step", .glo "_law_worked", .glo "_law_led", .glo "_law_net", .glo "_law_bent", .glo "_law_bends", .glo "_law_all", .glo "_law_parted", .glo "_law_can", .glo "_law_due", .glo "_law_parts", .glo "law", .glo "Net", .glo "Teller", .glo "SIZES", .free "len", .free "isinstance", .free "int", .free "bool", .free "tuple", .free "list", .free "str", .free "range", .free "all", .free "zip", .free "dict", .free "enumerate", .free "min", .free "max", .free "abs"]
def hfa2 : List He.Fa := [.free "set", .free "sorted", .int "MOST_LETTERS" 4, .int "MOST_LANES" 1000, .int "MOST_ROWS" 4096, .int "MOST_LISTED" 12, .int "MOST_OTHERS" 64, .int "MOST_TESTED" 32, .int "MOST_TOLD" 8, .cls "Net", .mkr "Net", .cls "Teller", .mkr "Teller", .noat "Net" "kept_letters", .noat "Net" "kept_lanes", .noat "Net" "kept_steps", .noat "Net" "kept_outs", .noat "Net" "kept_others", .noat "Teller" "outs", .noat "Teller" "rows", .noat "Teller" "known", .meth "Net" "keep", .meth "Teller" "parts", .meth "Teller" "fewest"]
def hfa : List He.Fa := hfa0 ++ (hfa1 ++ (hfa2))
def hkv : List (Str × He.Dv) := [("double", .int 2), ("strike", .int 2), ("choose", .int 5), ("fly", .int 4)]
def hks : List Str := ["double", "strike", "choose", "fly"]
theorem fun_of {K : PySem.W.Frag} {x qual : Str} {st : Stmt} {f : Addr} {fd : FuncData} (F : FunD K x qual (defArgs st) (defBody st) (defScope st) [] [] f fd) : Fun K x qual st f fd := by
  obtain ⟨oc, od, dV, kV, doc, pm, an, cdv, ct, osl, e, lk, hcd, hD, hK⟩ := F.ex
  rcases hD with ⟨_, rfl⟩ | ⟨z, _⟩
  · exact ⟨⟨oc, od, kV, doc, pm, an, cdv, ct, osl, e, lk, hcd⟩, F.kp⟩
  · exact absurd rfl z
theorem funAt_of {K : PySem.W.Frag} {mg : Str → Option Value} {x : Str} {st : Stmt} (F : ∃ fd, FunD K x x (defArgs st) (defBody st) (defScope st) [] [] (He.ga K x) fd) (m : mg x = some (.ref (He.ga K x))) : FunAt K mg x st := let ⟨fd, F⟩ := F; ⟨_, fd, fun_of F, m⟩
theorem methAt_of {K : PySem.W.Frag} {C : Addr} {m q : Str} {st : Stmt} {f : Addr} (F : ∃ fd, FunD K m q (defArgs st) (defBody st) (defScope st) [] [] f fd) (h : Meth K C m f) : MethAt K C m q st := let ⟨fd, F⟩ := F; ⟨_, fd, fun_of F, h⟩
theorem initAt_of {K : PySem.W.Frag} {C : Addr} {q : Str} {st : Stmt} {f : Addr} (F : ∃ fd, FunD K "__init__" q (defArgs st) (defBody st) (defScope st) [] [] f fd) (h : Mk K C f) : InitAt K C q st := let ⟨fd, F⟩ := F; ⟨_, fd, fun_of F, h⟩
theorem kd_at {K : PySem.W.Frag} {w : World} {a : Addr} {es : Array DictEntry} {n : Nat} {kvs : List (Str × He.Dv)} (kd : KDict K w a es n) (h : He.valsB K a kvs = true) {q : Str × He.Dv} (hq : q ∈ kvs) : KDct K w a q.1 (q.2.v K) := by
  obtain ⟨u, e, r⟩ := He.valsB_ok h hq
  exact ⟨es, n, u, kd.at_, kd.lit, e, r⟩
theorem hmem {z : Str} {i : Int} (h : (z = "double" ∧ i = 2) ∨ (z = "strike" ∧ i = 2) ∨ (z = "choose" ∧ i = 5) ∨ (z = "fly" ∧ i = 4)) : (z, He.Dv.int i) ∈ hkv := by
  rcases h with ⟨rfl, rfl⟩ | ⟨rfl, rfl⟩ | ⟨rfl, rfl⟩ | ⟨rfl, rfl⟩
  · exact List.mem_cons_self
  · exact List.mem_cons_of_mem _ List.mem_cons_self
  · exact List.mem_cons_of_mem _ (List.mem_cons_of_mem _ List.mem_cons_self)
  · exact List.mem_cons_of_mem _ (List.mem_cons_of_mem _ (List.mem_cons_of_mem _ List.mem_cons_self))
theorem txt_of {w : World} {K : PySem.W.Frag} {h : Heap} {mg : Str → Option Value} (X : K.In h) (G : h.Ns mainGlobals mg) (c : He.SaysD hfa hfn K) {es : Array DictEntry} {n : Nat} (kd : KDict K w (He.ga K "SIZES") es n) (hv : He.valsB K (He.ga K "SIZES") hkv = true) :
    Txt w K mg (He.ga K "Net") (He.ga K "Teller") (He.ga K "SIZES") where
  len := He.free_ok X G (c.fact 45 (f := .free "len") rfl)
  isinstance := He.free_ok X G (c.fact 46 (f := .free "isinstance") rfl)
  int_ := He.free_ok X G (c.fact 47 (f := .free "int") rfl)
  bool_ := He.free_ok X G (c.fact 48 (f := .free "bool") rfl)
  tuple_ := He.free_ok X G (c.fact 49 (f := .free "tuple") rfl)
  list_ := He.free_ok X G (c.fact 50 (f := .free "list") rfl)
  str_ := He.free_ok X G (c.fact 51 (f := .free "str") rfl)
  range := He.free_ok X G (c.fact 52 (f := .free "range") rfl)
  all := He.free_ok X G (c.fact 53 (f := .free "all") rfl)
  zip := He.free_ok X G (c.fact 54 (f := .free "zip") rfl)
  dict := He.free_ok X G (c.fact 55 (f := .free "dict") rfl)
  enumerate := He.free_ok X G (c.fact 56 (f := .free "enumerate") rfl)
  min := He.free_ok X G (c.fact 57 (f := .free "min") rfl)
  max := He.free_ok X G (c.fact 58 (f := .free "max") rfl)
  abs := He.free_ok X G (c.fact 59 (f := .free "abs") rfl)
  set := He.free_ok X G (c.fact 60 (f := .free "set") rfl)
  sorted := He.free_ok X G (c.fact 61 (f := .free "sorted") rfl)
  c_MOST_LETTERS := He.int_ok X G (c.fact 62 (f := .int "MOST_LETTERS" 4) rfl)
  c_MOST_LANES := He.int_ok X G (c.fact 63 (f := .int "MOST_LANES" 1000) rfl)
  c_MOST_ROWS := He.int_ok X G (c.fact 64 (f := .int "MOST_ROWS" 4096) rfl)
  c_MOST_LISTED := He.int_ok X G (c.fact 65 (f := .int "MOST_LISTED" 12) rfl)
  c_MOST_OTHERS := He.int_ok X G (c.fact 66 (f := .int "MOST_OTHERS" 64) rfl)
  c_MOST_TESTED := He.int_ok X G (c.fact 67 (f := .int "MOST_TESTED" 32) rfl)
  c_MOST_TOLD := He.int_ok X G (c.fact 68 (f := .int "MOST_TOLD" 8) rfl)
  c_SIZES := He.glo_ok X G (c.fact 44 (f := .glo "SIZES") rfl)
  loS := kd.low
  zD := kd_at kd hv (q := ("double", .int 2)) (hmem (by simp))
  zS := kd_at kd hv (q := ("strike", .int 2)) (hmem (by simp))
  zC := kd_at kd hv (q := ("choose", .int 5)) (hmem (by simp))
  zF := kd_at kd hv (q := ("fly", .int 4)) (hmem (by simp))
  f_is_integer := funAt_of (c.def_ 0 (d := dd ("is_integer", none) "is_integer" "is_integer" s_is_integer) rfl) (He.glo_ok X G (c.fact 0 (f := .glo "is_integer") rfl))
  f_is_between := funAt_of (c.def_ 1 (d := dd ("is_between", none) "is_between" "is_between" s_is_between) rfl) (He.glo_ok X G (c.fact 1 (f := .glo "is_between") rfl))
  f_is_index := funAt_of (c.def_ 2 (d := dd ("is_index", none) "is_index" "is_index" s_is_index) rfl) (He.glo_ok X G (c.fact 2 (f := .glo "is_index") rfl))
  f_power_of := funAt_of (c.def_ 3 (d := dd ("power_of", none) "power_of" "power_of" s_power_of) rfl) (He.glo_ok X G (c.fact 3 (f := .glo "power_of") rfl))
  f_rows_of := funAt_of (c.def_ 4 (d := dd ("rows_of", none) "rows_of" "rows_of" s_rows_of) rfl) (He.glo_ok X G (c.fact 4 (f := .glo "rows_of") rfl))
  f_check_listed := funAt_of (c.def_ 5 (d := dd ("check_listed", none) "check_listed" "check_listed" s_check_listed) rfl) (He.glo_ok X G (c.fact 5 (f := .glo "check_listed") rfl))
  f_is_exchange := funAt_of (c.def_ 6 (d := dd ("is_exchange", none) "is_exchange" "is_exchange" s_is_exchange) rfl) (He.glo_ok X G (c.fact 6 (f := .glo "is_exchange") rfl))
  f_exchanged_by := funAt_of (c.def_ 7 (d := dd ("exchanged_by", none) "exchanged_by" "exchanged_by" s_exchanged_by) rfl) (He.glo_ok X G (c.fact 7 (f := .glo "exchanged_by") rfl))
  f_is_letters := funAt_of (c.def_ 8 (d := dd ("is_letters", none) "is_letters" "is_letters" s_is_letters) rfl) (He.glo_ok X G (c.fact 8 (f := .glo "is_letters") rfl))
  f_are_others := funAt_of (c.def_ 9 (d := dd ("are_others", none) "are_others" "are_others" s_are_others) rfl) (He.glo_ok X G (c.fact 9 (f := .glo "are_others") rfl))
  f_is_step_form := funAt_of (c.def_ 10 (d := dd ("is_step_form", none) "is_step_form" "is_step_form" s_is_step_form) rfl) (He.glo_ok X G (c.fact 10 (f := .glo "is_step_form") rfl))
  f_lanes_after := funAt_of (c.def_ 11 (d := dd ("lanes_after", none) "lanes_after" "lanes_after" s_lanes_after) rfl) (He.glo_ok X G (c.fact 11 (f := .glo "lanes_after") rfl))
  f_can_be := funAt_of (c.def_ 12 (d := dd ("can_be", none) "can_be" "can_be" s_can_be) rfl) (He.glo_ok X G (c.fact 12 (f := .glo "can_be") rfl))
  f_place_by := funAt_of (c.def_ 15 (d := dd ("place_by", none) "place_by" "place_by" s_place_by) rfl) (He.glo_ok X G (c.fact 13 (f := .glo "place_by") rfl))
  f_work := funAt_of (c.def_ 16 (d := dd ("work", none) "work" "work" s_work) rfl) (He.glo_ok X G (c.fact 14 (f := .glo "work") rfl))
  f_sources := funAt_of (c.def_ 17 (d := dd ("sources", none) "sources" "sources" s_sources) rfl) (He.glo_ok X G (c.fact 15 (f := .glo "sources") rfl))
  f_run_of := funAt_of (c.def_ 18 (d := dd ("run_of", none) "run_of" "run_of" s_run_of) rfl) (He.glo_ok X G (c.fact 16 (f := .glo "run_of") rfl))
  f_check_all := funAt_of (c.def_ 19 (d := dd ("check_all", none) "check_all" "check_all" s_check_all) rfl) (He.glo_ok X G (c.fact 17 (f := .glo "check_all") rfl))
  f_all_ins := funAt_of (c.def_ 20 (d := dd ("all_ins", none) "all_ins" "all_ins" s_all_ins) rfl) (He.glo_ok X G (c.fact 18 (f := .glo "all_ins") rfl))
  f_bends_of := funAt_of (c.def_ 21 (d := dd ("bends_of", none) "bends_of" "bends_of" s_bends_of) rfl) (He.glo_ok X G (c.fact 19 (f := .glo "bends_of") rfl))
  f_bent_of := funAt_of (c.def_ 22 (d := dd ("bent_of", none) "bent_of" "bent_of" s_bent_of) rfl) (He.glo_ok X G (c.fact 20 (f := .glo "bent_of") rfl))
  f_shown_of := funAt_of (c.def_ 23 (d := dd ("shown_of", none) "shown_of" "shown_of" s_shown_of) rfl) (He.glo_ok X G (c.fact 21 (f := .glo "shown_of") rfl))
  f_harmless := funAt_of (c.def_ 24 (d := dd ("harmless", none) "harmless" "harmless" s_harmless) rfl) (He.glo_ok X G (c.fact 22 (f := .glo "harmless") rfl))
  f_tell_bends := funAt_of (c.def_ 28 (d := dd ("tell_bends", none) "tell_bends" "tell_bends" s_tell_bends) rfl) (He.glo_ok X G (c.fact 23 (f := .glo "tell_bends") rfl))
  f__law_hand := funAt_of (c.def_ 29 (d := dd ("_law_hand", none) "_law_hand" "_law_hand" s__law_hand) rfl) (He.glo_ok X G (c.fact 24 (f := .glo "_law_hand") rfl))
  f__law_draw := funAt_of (c.def_ 30 (d := dd ("_law_draw", none) "_law_draw" "_law_draw" s__law_draw) rfl) (He.glo_ok X G (c.fact 25 (f := .glo "_law_draw") rfl))
  f__law_some := funAt_of (c.def_ 31 (d := dd ("_law_some", none) "_law_some" "_law_some" s__law_some) rfl) (He.glo_ok X G (c.fact 26 (f := .glo "_law_some") rfl))
  f__law_rows := funAt_of (c.def_ 32 (d := dd ("_law_rows", none) "_law_rows" "_law_rows" s__law_rows) rfl) (He.glo_ok X G (c.fact 27 (f := .glo "_law_rows") rfl))
  f__law_exchanged := funAt_of (c.def_ 33 (d := dd ("_law_exchanged", none) "_law_exchanged" "_law_exchanged" s__law_exchanged) rfl) (He.glo_ok X G (c.fact 28 (f := .glo "_law_exchanged") rfl))
  f__law_exchanges := funAt_of (c.def_ 34 (d := dd ("_law_exchanges", none) "_law_exchanges" "_law_exchanges" s__law_exchanges) rfl) (He.glo_ok X G (c.fact 29 (f := .glo "_law_exchanges") rfl))
  f__law_step := funAt_of (c.def_ 35 (d := dd ("_law_step", none) "_law_step" "_law_step" s__law_step) rfl) (He.glo_ok X G (c.fact 30 (f := .glo "_law_step") rfl))
  f__law_worked := funAt_of (c.def_ 36 (d := dd ("_law_worked", none) "_law_worked" "_law_worked" s__law_worked) rfl) (He.glo_ok X G (c.fact 31 (f := .glo "_law_worked") rfl))
  f__law_led := funAt_of (c.def_ 37 (d := dd ("_law_led", none) "_law_led" "_law_led" s__law_led) rfl) (He.glo_ok X G (c.fact 32 (f := .glo "_law_led") rfl))
  f__law_net := funAt_of (c.def_ 38 (d := dd ("_law_net", none) "_law_net" "_law_net" s__law_net) rfl) (He.glo_ok X G (c.fact 33 (f := .glo "_law_net") rfl))
  f__law_bent := funAt_of (c.def_ 39 (d := dd ("_law_bent", none) "_law_bent" "_law_bent" s__law_bent) rfl) (He.glo_ok X G (c.fact 34 (f := .glo "_law_bent") rfl))
  f__law_bends := funAt_of (c.def_ 40 (d := dd ("_law_bends", none) "_law_bends" "_law_bends" s__law_bends) rfl) (He.glo_ok X G (c.fact 35 (f := .glo "_law_bends") rfl))
  f__law_all := funAt_of (c.def_ 41 (d := dd ("_law_all", none) "_law_all" "_law_all" s__law_all) rfl) (He.glo_ok X G (c.fact 36 (f := .glo "_law_all") rfl))
  f__law_parted := funAt_of (c.def_ 42 (d := dd ("_law_parted", none) "_law_parted" "_law_parted" s__law_parted) rfl) (He.glo_ok X G (c.fact 37 (f := .glo "_law_parted") rfl))
  f__law_can := funAt_of (c.def_ 43 (d := dd ("_law_can", none) "_law_can" "_law_can" s__law_can) rfl) (He.glo_ok X G (c.fact 38 (f := .glo "_law_can") rfl))
  f__law_due := funAt_of (c.def_ 44 (d := dd ("_law_due", none) "_law_due" "_law_due" s__law_due) rfl) (He.glo_ok X G (c.fact 39 (f := .glo "_law_due") rfl))
  f__law_parts := funAt_of (c.def_ 45 (d := dd ("_law_parts", none) "_law_parts" "_law_parts" s__law_parts) rfl) (He.glo_ok X G (c.fact 40 (f := .glo "_law_parts") rfl))
  clN := He.cls_ok (c.fact 69 (f := .cls "Net") rfl)
  mgN := He.glo_ok X G (c.fact 42 (f := .glo "Net") rfl)
  iN := initAt_of (c.def_ 13 (d := dd ("Net", some "__init__") "__init__" "Net.__init__" s_Net_init) rfl) (He.mkr_ok (c.fact 70 (f := .mkr "Net") rfl))
  mN_keep := methAt_of (c.def_ 14 (d := dd ("Net", some "keep") "keep" "Net.keep" s_Net_keep) rfl) (He.meth_ok (c.fact 81 (f := .meth "Net" "keep") rfl))
  aN1 := He.noat_ok (c.fact 73 (f := .noat "Net" "kept_letters") rfl)
  aN2 := He.noat_ok (c.fact 74 (f := .noat "Net" "kept_lanes") rfl)
  aN3 := He.noat_ok (c.fact 75 (f := .noat "Net" "kept_steps") rfl)
  aN4 := He.noat_ok (c.fact 76 (f := .noat "Net" "kept_outs") rfl)
  aN5 := He.noat_ok (c.fact 77 (f := .noat "Net" "kept_others") rfl)
  clT := He.cls_ok (c.fact 71 (f := .cls "Teller") rfl)
  mgT := He.glo_ok X G (c.fact 43 (f := .glo "Teller") rfl)
  iT := initAt_of (c.def_ 25 (d := dd ("Teller", some "__init__") "__init__" "Teller.__init__" s_Teller_init) rfl) (He.mkr_ok (c.fact 72 (f := .mkr "Teller") rfl))
  mT_parts := methAt_of (c.def_ 26 (d := dd ("Teller", some "parts") "parts" "Teller.parts" s_Teller_parts) rfl) (He.meth_ok (c.fact 82 (f := .meth "Teller" "parts") rfl))
  mT_fewest := methAt_of (c.def_ 27 (d := dd ("Teller", some "fewest") "fewest" "Teller.fewest" s_Teller_fewest) rfl) (He.meth_ok (c.fact 83 (f := .meth "Teller" "fewest") rfl))
  aT1 := He.noat_ok (c.fact 78 (f := .noat "Teller" "outs") rfl)
  aT2 := He.noat_ok (c.fact 79 (f := .noat "Teller" "rows") rfl)
  aT3 := He.noat_ok (c.fact 80 (f := .noat "Teller" "known") rfl)
theorem all_mk {l : PySem.W.OpenLaw} {w : World} {K : PySem.W.Frag} {h : Heap} {mg : Str → Option Value} {fa : Addr} (X : K.In h) (G : h.Ns mainGlobals mg) (hfa' : mg "law" = some (.ref fa)) (c : He.obsD hfa hfn K = He.valD hfn) (kd : He.dicW K (He.ga K "SIZES") = some (He.keysIn w.params hks)) (hv : He.valsB K (He.ga K "SIZES") hkv = true) :
    ∃ fd : FuncData, (∀ (s : Shared) (v : Value), BindsTo s fd ⟨[v], []⟩ [("_law_script", v)]) ∧ ∀ base : Heap, K.In base → base.Ns mainGlobals mg → FnOk l.prog w K mg base CX0 16 fa fd ["_law_script"] (sp_law K) := by
  have c : He.SaysD hfa hfn K := c
  obtain ⟨es, n, kd⟩ := He.dicW_ok kd
  obtain ⟨fd, F⟩ := c.def_ 46 (d := dd ("law", none) "law" "law" s_law) rfl
  have e := hfa'.symm.trans (He.glo_ok X G (c.fact 41 (f := .glo "law") rfl))
  cases e
  have b := FunD.bindsA (ps := ["_law_script"]) F fun _ _ _ _ _ _ us hl => match us, hl with | [_], _ => rfl
  have T := txt_of X G c kd hv
  exact ⟨fd, fun s v => b s [v] rfl, fun base _ _ => ok_law (P := l.prog) (base := base) T (fun_of F)⟩
theorem walk {l : PySem.W.OpenLaw} {q : Program} {loose : List Str} {XP : (Str → Option Value) → Heap → Prop} {YP : World → Heap → Prop} {d : DefRec} {K : Params → PySem.W.Frag} (hn : l.most = some 63) (hdf : d.params.defaults = [])
    (hY : ∀ (w : World) (h : Heap), YP w h → (K w.params).In h)
    (F : ∀ (w : World) (mg : Str → Option Value) (fa : Addr) (h : Heap), (K w.params).In h → h.Ns mainGlobals mg → mg d.name = some (.ref fa) →
      ∃ fd : FuncData, (∀ (s : Shared) (u : Value), BindsTo s fd ⟨[u], []⟩ [("_law_script", u)]) ∧ ∀ base : Heap, (K w.params).In base → base.Ns mainGlobals mg → FnOk l.prog w (K w.params) mg base CX0 16 fa fd ["_law_script"] (sp_law (K w.params))) :
    PySem.W.WalkO q loose XP YP l.row.toRowW d [] (fun f vs => PySem.call f vs) :=
  L2.walk_of (n := 63) (k := 16) (x := "_law_script") (CX := fun _ => CX0) (sp := fun w => sp_law (K w.params)) hn (by decide) hdf ⟨rfl, by decide, by decide⟩ hY F (fun _ _ a ns hl _ hS => ⟨a, ns, rfl, hS, Nat.le_trans hl (by decide), fun _ => rfl⟩) fun _ _ _ _ _ z => z
end Fv
open PySem PySem.W PyProof.Rows in
set_option maxRecDepth 100000 in
set_option maxHeartbeats 0 in
theorem PySem.Challenge.cw_flyovers_k86_whole_bends_told_by_runs_holds : PySem.Challenge.rw_flyovers_k86_whole_bends_told_by_runs.Holds := by
  w_on; o_law; k_head; (case hw => w_witness2)
  k_fill
  refine Fv.walk (l := PySem.Challenge.rw_flyovers_k86_whole_bends_told_by_runs) rfl rfl (fun w h Y => PySem.W.kIn_of Y) ?F
  case F =>
    intro w mg fa h KX G hmg
    refine' Fv.all_mk KX G hmg ?c ?d ?v
    (case c => kernel_rfl)
    (case d => kernel_rfl)
    (case v => kernel_rfl)
