import PyProof.Rows.All
import Wide.All
import OpenK.AllK
import Wide.FinOn
import HandS.ForMost
import HandS.Strs
import HandS.Style
import KE.GoesEnum
import HandS.Deep
import KE.SortData
import KE.DataMinMax
import PyProof.Rows.SortShellAny
import HandS.IsInst
import HandS.Conv
import HandS.More
import PySem.Challenge.RW_overtake_k84_whole_runs_and_pairs
set_option Elab.async false
set_option linter.all false
set_option maxRecDepth 100000
/-! The plain part: lines, runs, and what the law asks of them. No program in sight. -/
namespace OV

/-- all people of so many, by name -/
def ppl (n : Nat) : List Int := (List.range n).map Int.ofNat
structure Line (L : List Int) : Prop where
  lo : 1 ≤ L.length
  hi : L.length ≤ 8
  pm : L.Perm (ppl L.length)

/-- the place of a person -/
def plc (L : List Int) (p : Int) : Nat := L.idxOf p
def ahd (L : List Int) (p : Int) : List Int := L.take (plc L p)
def shr (L : List Int) (p : Int) : List Int := (ahd L p).filter fun x => decide (x < p)
def tal (L : List Int) (p : Int) : List Int := (ahd L p).filter fun x => decide (p < x)
/-- the runs that the loop still finds in R (read from the front), now the one that is open -/
def go (p : Int) : List Int → List Int → List (List Int)
  | [], now => if now = [] then [] else [now]
  | x :: r, now => if x < p then go p r (x :: now) else if now = [] then go p r [] else now :: go p r []
def rns (L : List Int) (p : Int) : List (List Int) := go p (ahd L p).reverse []
def lst (r : List Int) : Int := r.getLastD 0
/-- who stands behind a run, none for the person -/
def par (L : List Int) (p : Int) (r : List Int) : Option Int := if L[plc L (lst r) + 1]? = some p then none else L[plc L (lst r) + 1]?

theorem go_lt {p x : Int} {r now : List Int} (h : x < p) : go p (x :: r) now = go p r (x :: now) := by
  show (if x < p then _ else _) = _
  rw [if_pos h]
theorem go_ge_nil {p x : Int} {r : List Int} (h : ¬ x < p) : go p (x :: r) [] = go p r [] := by
  show (if x < p then _ else if ([] : List Int) = [] then _ else _) = _
  rw [if_neg h, if_pos rfl]
theorem go_ge {p x : Int} {r now : List Int} (h : ¬ x < p) (hn : now ≠ []) : go p (x :: r) now = now :: go p r [] := by
  show (if x < p then _ else if now = [] then _ else _) = _
  rw [if_neg h, if_neg hn]
theorem go_nil_nil {p : Int} : go p [] [] = [] := by
  show (if ([] : List Int) = [] then _ else _) = _
  rw [if_pos rfl]
theorem go_nil {p : Int} {now : List Int} (hn : now ≠ []) : go p [] now = [now] := by
  show (if now = [] then _ else _) = _
  rw [if_neg hn]

/-! ### all of the runs together are the shorter ones ahead -/
theorem go_join (p : Int) : ∀ (R now acc : List Int), (go p R now).foldl (fun a r => r ++ a) acc = (R.filter fun x => decide (x < p)).reverse ++ now ++ acc
  | [], now, acc => by
    by_cases hn : now = []
    · subst hn
      rw [go_nil_nil]
      rfl
    · rw [go_nil hn]
      rfl
  | x :: r, now, acc => by
    by_cases hx : x < p
    · rw [go_lt hx, go_join p r (x :: now) acc, List.filter_cons_of_pos (by simpa using hx), List.reverse_cons]
      simp
    · by_cases hn : now = []
      · subst hn
        rw [go_ge_nil hx, go_join p r [] acc, List.filter_cons_of_neg (by simpa using hx)]
      · rw [go_ge hx hn, List.foldl_cons, go_join p r [] (now ++ acc), List.filter_cons_of_neg (by simpa using hx)]
        simp
theorem rns_join (L : List Int) (p : Int) : (rns L p).foldl (fun a r => r ++ a) [] = shr L p := by
  unfold rns shr
  rw [go_join, List.filter_reverse, List.reverse_reverse, List.append_nil, List.append_nil]
theorem join_len : ∀ (rs : List (List Int)) (acc : List Int), (rs.foldl (fun a r => r ++ a) acc).length = (rs.map List.length).sum + acc.length
  | [], acc => by simp
  | r :: rs, acc => by
    rw [List.foldl_cons, join_len rs, List.map_cons, List.sum_cons, List.length_append]
    omega
theorem rns_len (L : List Int) (p : Int) : ((rns L p).map List.length).sum = (shr L p).length := by
  have h := join_len (rns L p) []
  rw [rns_join] at h
  simpa using h.symm

/-! ### where a run ends -/
theorem go_at (p : Int) : ∀ (R now : List Int) (c : Int) (C : List Int), ¬ c < p → (∀ x ∈ now, x < p) → ∀ (j : Nat) (r : List Int), (go p R now)[j]? = some r →
    r ≠ [] ∧ (∀ x ∈ r, x < p) ∧ ∃ A b D, R.reverse ++ now ++ c :: C = A ++ r ++ b :: D ∧ ¬ b < p ∧ ((j = 0 ∧ b = c) ∨ b ∈ R)
  | [], now, c, C, hc, hnow, j, r, h => by
    by_cases hn : now = []
    · subst hn
      rw [go_nil_nil] at h
      simp at h
    · rw [go_nil hn] at h
      cases j with
      | zero =>
        have e : now = r := Option.some.inj h
        subst e
        exact ⟨hn, hnow, [], c, C, by simp, hc, .inl ⟨rfl, rfl⟩⟩
      | succ j => simp at h
  | x :: R, now, c, C, hc, hnow, j, r, h => by
    by_cases hx : x < p
    · rw [go_lt hx] at h
      obtain ⟨h1, h2, A, b, D, e, hb, k⟩ := go_at p R (x :: now) c C hc (fun y hy => by
        rcases List.mem_cons.mp hy with z | z
        · rw [z]; exact hx
        · exact hnow y z) j r h
      refine ⟨h1, h2, A, b, D, ?_, hb, ?_⟩
      · rw [← e, List.reverse_cons]
        simp
      · rcases k with k | k
        · exact .inl k
        · exact .inr (List.mem_cons_of_mem _ k)
    · by_cases hn : now = []
      · subst hn
        rw [go_ge_nil hx] at h
        obtain ⟨h1, h2, A, b, D, e, hb, k⟩ := go_at p R [] x (c :: C) hx (fun _ hy => nomatch hy) j r h
        refine ⟨h1, h2, A, b, D, ?_, hb, .inr ?_⟩
        · rw [← e, List.reverse_cons]
          simp
        · rcases k with ⟨_, k⟩ | k
          · rw [k]; exact List.mem_cons_self
          · exact List.mem_cons_of_mem _ k
      · rw [go_ge hx hn] at h
        cases j with
        | zero =>
          have e : now = r := Option.some.inj h
          subst e
          exact ⟨hn, hnow, (x :: R).reverse, c, C, by simp, hc, .inl ⟨rfl, rfl⟩⟩
        | succ j =>
          rw [List.getElem?_cons_succ] at h
          obtain ⟨h1, h2, A, b, D, e, hb, k⟩ := go_at p R [] x (now ++ c :: C) hx (fun _ hy => nomatch hy) j r h
          refine ⟨h1, h2, A, b, D, ?_, hb, .inr ?_⟩
          · rw [← e, List.reverse_cons]
            simp
          · rcases k with ⟨_, k⟩ | k
            · rw [k]; exact List.mem_cons_self
            · exact List.mem_cons_of_mem _ k
theorem go_first (p : Int) : ∀ (R now : List Int), now ≠ [] → ∃ r rs, go p R now = r :: rs ∧ lst r = lst now
  | [], now, hn => ⟨now, [], go_nil hn, rfl⟩
  | x :: R, now, hn => by
    by_cases hx : x < p
    · rw [go_lt hx]
      obtain ⟨r, rs, e, k⟩ := go_first p R (x :: now) (by simp)
      refine ⟨r, rs, e, ?_⟩
      rw [k]
      cases now with
      | nil => exact absurd rfl hn
      | cons y ys => simp [lst]
    · exact ⟨now, _, go_ge hx hn, rfl⟩

/-! ### places -/
theorem plc_at {L : List Int} {p : Int} (h : p ∈ L) : plc L p < L.length ∧ L[plc L p]? = some p := by
  have h1 : plc L p < L.length := List.idxOf_lt_length_of_mem h
  refine ⟨h1, ?_⟩
  rw [List.getElem?_eq_getElem h1]
  exact congrArg some (List.getElem_idxOf h1)
theorem plc_of {L : List Int} (nd : L.Nodup) {i : Nat} {p : Int} (h : L[i]? = some p) : plc L p = i := by
  obtain ⟨h1, e⟩ := List.getElem?_eq_some_iff.mp h
  have hp : p ∈ L := List.mem_of_getElem? h
  obtain ⟨h2, e2⟩ := plc_at hp
  obtain ⟨h3, e3⟩ := List.getElem?_eq_some_iff.mp e2
  exact (List.getElem_inj nd).mp (e3.trans e.symm)
theorem split_at {L : List Int} {p : Int} (h : p ∈ L) : ∃ C, L = ahd L p ++ p :: C := by
  obtain ⟨h1, e⟩ := plc_at h
  obtain ⟨_, e2⟩ := List.getElem?_eq_some_iff.mp e
  refine ⟨L.drop (plc L p + 1), ?_⟩
  have h3 := List.drop_eq_getElem_cons h1
  rw [e2] at h3
  show L = L.take (plc L p) ++ p :: L.drop (plc L p + 1)
  rw [← h3, List.take_append_drop]
theorem not_ahd {L : List Int} {p : Int} (nd : L.Nodup) (h : p ∈ L) : p ∉ ahd L p := by
  obtain ⟨C, e⟩ := split_at h
  rw [e] at nd
  intro hm
  exact (List.nodup_append.mp nd).2.2 p hm p List.mem_cons_self rfl
theorem ahd_len {L : List Int} {p : Int} (h : p ∈ L) : (ahd L p).length = plc L p := by
  unfold ahd
  rw [List.length_take]
  have := (plc_at h).1
  omega
theorem ahd_mem {L : List Int} {p x : Int} (h : x ∈ ahd L p) : x ∈ L := List.mem_of_mem_take h
theorem last_at {r : List Int} (h : r ≠ []) : ∃ q, r = q ++ [lst r] := by
  refine ⟨r.dropLast, ?_⟩
  have e : lst r = r.getLast h := by
    unfold lst
    rw [List.getLastD_eq_getLast?, List.getLast?_eq_some_getLast h]
    rfl
  rw [e, List.dropLast_concat_getLast]
structure RunAt (L : List Int) (p : Int) (j : Nat) (r : List Int) (b : Int) : Prop where
  ne : r ≠ []
  low : ∀ x ∈ r, x < p
  inL : lst r ∈ L
  nx : L[plc L (lst r) + 1]? = some b
  ge : ¬ b < p
  plb : plc L b = plc L (lst r) + 1
  own : b = p → j = 0
theorem rns_at {L : List Int} {p : Int} (nd : L.Nodup) (hp : p ∈ L) {j : Nat} {r : List Int} (h : (rns L p)[j]? = some r) : ∃ b, RunAt L p j r b := by
  obtain ⟨C, e⟩ := split_at hp
  obtain ⟨h1, h2, A, b, D, e2, hb, k⟩ := go_at p (ahd L p).reverse [] p C (by omega) (fun _ hy => nomatch hy) j r h
  rw [List.reverse_reverse, List.append_nil, ← e] at e2
  obtain ⟨q, eq⟩ := last_at h1
  have g1 : L[A.length + q.length]? = some (lst r) := by
    rw [e2, eq]
    simp [lst]
  have g2 : L[A.length + q.length + 1]? = some b := by
    have z : L = (A ++ q ++ [lst r]) ++ b :: D := by
      rw [e2]
      conv => lhs; rw [eq]
      simp
    have zl : (A ++ q ++ [lst r]).length = A.length + q.length + 1 := by
      simp
      omega
    rw [z, ← zl, List.getElem?_append_right (Nat.le_refl _), Nat.sub_self]
    rfl
  have p1 := plc_of nd g1
  refine ⟨b, h1, h2, List.mem_of_getElem? g1, ?_, hb, ?_, fun z => ?_⟩
  · rw [p1]; exact g2
  · rw [p1]; exact plc_of nd g2
  · rcases k with k | k
    · exact k.1
    · rw [z] at k
      exact absurd (List.mem_reverse.mp k) (not_ahd nd hp)

/-! ### movers -/
def mvr (L : List Int) : List Int := (List.range (L.length - 1)).filterMap fun i => if L.getD i 0 < L.getD (i + 1) 0 then some (L.getD (i + 1) 0) else none
theorem mvr_mem {L : List Int} {p : Int} (nd : L.Nodup) (hp : p ∈ L) : p ∈ mvr L ↔ ∃ a i, plc L p = i + 1 ∧ L[i]? = some a ∧ a < p := by
  unfold mvr
  rw [List.mem_filterMap]
  constructor
  · rintro ⟨i, hi, h⟩
    have lt := List.mem_range.mp hi
    have i1 : i < L.length := by omega
    have i2 : i + 1 < L.length := by omega
    have e1 : L.getD i 0 = L[i] := by simp [List.getD, List.getElem?_eq_getElem i1]
    have e2 : L.getD (i + 1) 0 = L[i + 1] := by simp [List.getD, List.getElem?_eq_getElem i2]
    rw [e1, e2] at h
    by_cases c : L[i] < L[i + 1]
    · rw [if_pos c] at h
      have e : L[i + 1] = p := Option.some.inj h
      refine ⟨L[i], i, plc_of nd (by rw [List.getElem?_eq_getElem i2, e]), List.getElem?_eq_getElem i1, ?_⟩
      rw [← e]; exact c
    · rw [if_neg c] at h
      cases h
  · rintro ⟨a, i, h1, h2, h3⟩
    obtain ⟨h4, h5⟩ := plc_at hp
    rw [h1] at h4 h5
    refine ⟨i, List.mem_range.mpr (by omega), ?_⟩
    have e1 : L.getD i 0 = a := by simp [List.getD, h2]
    have e2 : L.getD (i + 1) 0 = p := by simp [List.getD, h5]
    rw [e1, e2, if_pos h3]
theorem rns_hd {L : List Int} {p : Int} (hp : p ∈ L) {i : Nat} {a : Int} (h1 : plc L p = i + 1) (h2 : L[i]? = some a) : (ahd L p).reverse = a :: (L.take i).reverse := by
  unfold ahd
  rw [h1, List.take_add_one, h2]
  simp
/-- ready: the nearest run ends right ahead -/
theorem ready_iff {L : List Int} {p : Int} (nd : L.Nodup) (hp : p ∈ L) : p ∈ mvr L ↔ ∃ r rs, rns L p = r :: rs ∧ par L p r = none := by
  rw [mvr_mem nd hp]
  constructor
  · rintro ⟨a, i, h1, h2, h3⟩
    have e : rns L p = go p (L.take i).reverse [a] := by
      unfold rns
      rw [rns_hd hp h1 h2, go_lt h3]
    obtain ⟨r, rs, e2, k⟩ := go_first p (L.take i).reverse [a] (by simp)
    refine ⟨r, rs, e.trans e2, ?_⟩
    have e3 : lst r = a := k
    unfold par
    rw [e3, plc_of nd h2, ← h1, (plc_at hp).2, if_pos rfl]
  · rintro ⟨r, rs, e, h⟩
    obtain ⟨b, R⟩ := rns_at nd hp (j := 0) (r := r) (by rw [e]; rfl)
    unfold par at h
    rw [R.nx] at h
    have hb : b = p := by
      by_cases c : b = p
      · exact c
      · rw [if_neg (by simpa using c)] at h
        cases h
    have e1 : plc L p = plc L (lst r) + 1 := by
      rw [← hb]; exact R.plb
    refine ⟨lst r, plc L (lst r), e1, (plc_at R.inL).2, ?_⟩
    obtain ⟨q, eq⟩ := last_at R.ne
    exact R.low _ (by rw [eq]; simp [lst])
theorem par_some {L : List Int} {p : Int} {j : Nat} {r : List Int} {b : Int} (R : RunAt L p j r b) : par L p r = if b = p then none else some b := by
  unfold par
  rw [R.nx]
  by_cases c : b = p
  · rw [if_pos c, if_pos (by rw [c])]
  · rw [if_neg c, if_neg (by simpa using c)]
/-- runs but not ready: a taller one stands right ahead -/
theorem tal_of {L : List Int} {p : Int} (nd : L.Nodup) (hp : p ∈ L) (h1 : rns L p ≠ []) (h2 : p ∉ mvr L) : tal L p ≠ [] := by
  have hk : plc L p ≠ 0 := by
    intro z
    apply h1
    unfold rns ahd
    rw [z]
    rfl
  obtain ⟨i, hi⟩ : ∃ i, plc L p = i + 1 := ⟨plc L p - 1, by omega⟩
  have hl := (plc_at hp).1
  have i1 : i < L.length := by omega
  have h3 : L[i]? = some L[i] := List.getElem?_eq_getElem i1
  have h4 : ¬ L[i] < p := fun c => h2 ((mvr_mem nd hp).mpr ⟨_, i, hi, h3, c⟩)
  have hm : L[i] ∈ ahd L p := by
    have := rns_hd hp hi h3
    rw [← List.mem_reverse, this]
    exact List.mem_cons_self
  have h5 : L[i] ≠ p := fun c => not_ahd nd hp (by rw [← c]; rw [← c] at hm; exact hm)
  have : L[i] ∈ tal L p := List.mem_filter.mpr ⟨hm, by simp; omega⟩
  intro z
  rw [z] at this
  cases this

/-! ### sums over all people -/
theorem ppl_nodup (n : Nat) : (ppl n).Nodup := by
  unfold ppl
  refine List.Pairwise.map _ (fun a b h => ?_) List.nodup_range
  exact fun e => h (Int.ofNat.inj e)
theorem ppl_mem {n : Nat} {x : Int} : x ∈ ppl n ↔ 0 ≤ x ∧ x < (n : Int) := by
  unfold ppl
  rw [List.mem_map]
  constructor
  · rintro ⟨i, hi, rfl⟩
    have := List.mem_range.mp hi
    constructor
    · exact Int.natCast_nonneg i
    · show (i : Int) < n
      omega
  · rintro ⟨h1, h2⟩
    refine ⟨x.toNat, List.mem_range.mpr (by omega), ?_⟩
    show ((x.toNat : Nat) : Int) = x
    omega
theorem Line.nd {L : List Int} (h : Line L) : L.Nodup := h.pm.nodup_iff.mpr (ppl_nodup _)
theorem Line.mem {L : List Int} (h : Line L) {x : Int} : x ∈ L ↔ 0 ≤ x ∧ x < (L.length : Int) := h.pm.mem_iff.trans ppl_mem
theorem Line.nat {L : List Int} (h : Line L) {q : Nat} (hq : q < L.length) : (q : Int) ∈ L := h.mem.mpr ⟨by omega, by omega⟩

def wrn (L : List Int) : List (Int × Int) := L.flatMap fun p => (shr L p).map fun o => (o, p)
/-- the lengths of all runs of the first k people -/
def lns (L : List Int) (k : Nat) : List Int := (List.range k).flatMap fun (q : Nat) => (rns L (q : Int)).map fun r => (r.length : Int)
def cts (L : List Int) : List Int := (ppl L.length).map fun q => ((rns L q).length : Int)
def grp (L : List Int) (k : Nat) : List (Int × List Int) := (List.range k).flatMap fun (q : Nat) => ((rns L (q : Int)).filter fun r => decide (1 < r.length)).map fun r => ((q : Int), r)
theorem lns_succ (L : List Int) (k : Nat) : lns L (k + 1) = lns L k ++ (rns L (k : Int)).map fun r => (r.length : Int) := by
  unfold lns
  rw [List.range_succ, List.flatMap_append]
  simp
theorem grp_succ (L : List Int) (k : Nat) : grp L (k + 1) = grp L k ++ ((rns L (k : Int)).filter fun r => decide (1 < r.length)).map fun r => ((k : Int), r) := by
  unfold grp
  rw [List.range_succ, List.flatMap_append]
  simp
theorem cast_sum : ∀ l : List (List Int), ((l.map fun r => (r.length : Int))).sum = (((l.map List.length).sum : Nat) : Int)
  | [] => rfl
  | r :: l => by
    rw [List.map_cons, List.sum_cons, cast_sum l, List.map_cons, List.sum_cons]
    omega
theorem lns_sum (L : List Int) : ∀ k, (lns L k).sum = (((List.range k).map fun (q : Nat) => (shr L (q : Int)).length).sum : Nat)
  | 0 => rfl
  | k + 1 => by
    rw [lns_succ, List.sum_append, lns_sum L k, cast_sum, rns_len, List.range_succ, List.map_append, List.sum_append]
    simp
theorem wrn_len (L : List Int) : (wrn L).length = (L.map fun p => (shr L p).length).sum := by
  unfold wrn
  rw [List.length_flatMap]
  congr 1
  refine List.map_congr_left fun p _ => ?_
  rw [List.length_map]
theorem sum_is {L : List Int} (h : Line L) : (lns L L.length).sum = ((wrn L).length : Int) := by
  rw [lns_sum, wrn_len, ((h.pm.map fun p => (shr L p).length).sum_nat)]
  unfold ppl
  rw [List.map_map]
  rfl
theorem lns_len (L : List Int) : ((lns L L.length).length : Int) = (cts L).sum := by
  have : ∀ k, ((lns L k).length : Int) = ((ppl k).map fun q => ((rns L q).length : Int)).sum := by
    intro k
    induction k with
    | zero => rfl
    | succ k ih =>
      rw [lns_succ, List.length_append, List.length_map]
      unfold ppl at ih ⊢
      rw [List.range_succ, List.map_append, List.map_append, List.sum_append, ← ih]
      simp
  exact this _
theorem grp_len (L : List Int) : ∀ k, (grp L k).length = ((lns L k).filter fun z => decide (1 < z)).length
  | 0 => rfl
  | k + 1 => by
    rw [grp_succ, lns_succ, List.length_append, grp_len L k, List.filter_append, List.length_append, List.length_map, List.filter_map, List.length_map]
    congr 2
    refine List.filter_congr fun r _ => ?_
    show decide (1 < r.length) = decide ((1 : Int) < (r.length : Int))
    by_cases c : 1 < r.length
    · rw [decide_eq_true c, decide_eq_true (by omega)]
    · rw [decide_eq_false c, decide_eq_false (by omega)]
theorem grp_mem {L : List Int} {q : Nat} {r : List Int} (hq : q < L.length) (hr : r ∈ rns L (q : Int)) (h1 : 1 < r.length) : ((q : Int), r) ∈ grp L L.length := by
  unfold grp
  rw [List.mem_flatMap]
  refine ⟨q, List.mem_range.mpr hq, List.mem_map.mpr ⟨r, List.mem_filter.mpr ⟨hr, by simpa using h1⟩, rfl⟩⟩
theorem lns_pos {L : List Int} (h : Line L) {y : Int} (hy : y ∈ lns L L.length) : 1 ≤ y := by
  unfold lns at hy
  obtain ⟨q, hq, h2⟩ := List.mem_flatMap.mp hy
  obtain ⟨r, hr, rfl⟩ := List.mem_map.mp h2
  obtain ⟨j, hj, e⟩ := List.getElem_of_mem hr
  obtain ⟨b, R⟩ := rns_at h.nd (h.nat (List.mem_range.mp hq)) (j := j) (r := r) (by rw [List.getElem?_eq_getElem hj, e])
  have := List.length_pos_iff.mpr R.ne
  omega
theorem le_sum {x : Nat} : ∀ {l : List Nat}, x ∈ l → x ≤ l.sum
  | [], h => nomatch h
  | a :: l, h => by
    rw [List.sum_cons]
    rcases List.mem_cons.mp h with eq | tl
    · omega
    · have := le_sum tl
      omega
theorem go_small (p : Int) : ∀ R now : List Int, (go p R now).length ≤ R.length + 1
  | [], now => by
    by_cases hn : now = []
    · subst hn
      rw [go_nil_nil]
      exact Nat.zero_le _
    · rw [go_nil hn]
      exact Nat.le_refl _
  | x :: R, now => by
    rw [List.length_cons]
    by_cases hx : x < p
    · rw [go_lt hx]
      have := go_small p R (x :: now)
      omega
    · by_cases hn : now = []
      · subst hn
        rw [go_ge_nil hx]
        have := go_small p R []
        omega
      · rw [go_ge hx hn, List.length_cons]
        have := go_small p R []
        omega
theorem ahd_small (L : List Int) (p : Int) : (ahd L p).length ≤ L.length := by
  unfold ahd
  rw [List.length_take]
  omega
theorem shr_small (L : List Int) (p : Int) : (shr L p).length ≤ L.length := Nat.le_trans (List.length_filter_le _ _) (ahd_small L p)
theorem run_small {L : List Int} {p : Int} {r : List Int} (hr : r ∈ rns L p) : r.length ≤ L.length := by
  have h := le_sum (List.mem_map.mpr ⟨r, hr, rfl⟩ : r.length ∈ (rns L p).map List.length)
  rw [rns_len] at h
  exact Nat.le_trans h (shr_small L p)
theorem rns_small (L : List Int) (p : Int) : (rns L p).length ≤ L.length + 1 := by
  have h := go_small p (ahd L p).reverse []
  rw [List.length_reverse] at h
  have := ahd_small L p
  unfold rns
  omega
end OV

set_option maxRecDepth 100000
set_option maxHeartbeats 3000000
/-! Rules: the place of an int in a tuple of ints. -/
namespace OV
open PySem PySem.Spec PyProof.Rows L2
section
variable {X : Cx}
theorem flat_ints (ns : List Int) : (ns.map V.int).all flatV = true := by
  refine List.all_eq_true.mpr fun v hv => ?_
  obtain ⟨i, _, rfl⟩ := List.mem_map.mp hv
  rfl
/-- t.index(n): its first place -/
def rTix (K : PySem.W.Frag) : V → List V → Hp → VK → Prop := fun x xs H Q => ∃ (p : Addr) (ns : List Int) (n : Int) (j : Nat), x = .ref p ∧ xs = [.int n] ∧ SqT K H p (ns.map V.int) ∧ ns[j]? = some n ∧
  (∀ m, m < j → ns[m]? ≠ some n) ∧ Q (.int (j : Nat)) H
theorem mt_tix : MtR X "tuple.index" (rTix X.K) := by
  rintro pins s σ H x xs v us Q I rx rs ⟨p, ns, n, j, rfl, rfl, hT, hj, hno, q⟩
  cases rx
  obtain ⟨_, rfl, t, rfl⟩ := vals1 rs
  obtain ⟨its, r, pl, hz⟩ := I.tuple hT
  obtain ⟨⟨c, dd, dt, sl⟩, ho, hc, k, hd⟩ := pl
  simp only at hc hd
  subst hc hd
  have hlen : its.toArray.size = ns.length := by
    rw [List.size_toArray, ← r.length, List.length_map]
  have hjl : j < ns.length := (List.getElem?_eq_some_iff.mp hj).1
  have get : ∀ (m : Nat) (hm : m < its.toArray.size), ∃ i t', ns[m]? = some i ∧ its.toArray[m] = Value.int i t' := by
    intro m hm
    have hm' : m < ns.length := by omega
    obtain ⟨w, hw, t', e⟩ := r.get (i := m) (x := .int ns[m]) (by simp [hm'])
    refine ⟨ns[m], t', List.getElem?_eq_getElem hm', ?_⟩
    have e2 := (List.getElem?_eq_some_iff.mp hw).2
    rw [← e, ← e2]
    simp
  refine call_meets PySem.F.slot_tuple_index ⟨_, ho, rfl⟩ PySem.F.entry_tuple_index (PySem.F.args_tuple_index_2 _ _) (TI.tuple_indexAt p its.toArray k dd sl (.int n t) (eqU (.int n)) j (by omega) ?_ ?_)
    ⟨ho, fun w hw => mem_eqAt (x := .int n) ⟨t, rfl⟩ rfl r (flat_ints ns) w (by simpa using hw), .int (j : Nat), H, I.tok _, ⟨_, rfl⟩, q⟩
  · obtain ⟨i, t', h1, h2⟩ := get j (by omega)
    rw [hj] at h1
    cases h1
    rw [h2]
    exact beq_self_eq_true n
  · intro m hm hmj
    obtain ⟨i, t', h1, h2⟩ := get m hm
    rw [h2]
    exact beq_eq_false_iff_ne.mpr fun e : i = n => hno m hmj (e ▸ h1)
end
end OV

set_option maxRecDepth 100000
set_option maxHeartbeats 3000000
/-! Rule: t[::-1] of a tuple. -/
namespace OV
open PySem PySem.Spec PyProof.Rows L2
section
variable {prog : Program} {w : World} {A : Around} {E : Value → Shared → Prop} {s : Shared}
theorem back_ends (n : Nat) : Builtin.Slice.sliceAdjust none none (-1) (n : Int) = ((n : Int) - 1, -1) := by
  simp [Builtin.Slice.sliceAdjust]
theorem back_many (n : Nat) : Builtin.Slice.slicePlaces ((n : Int) - 1) (-1) (-1) = n := by
  show ((if (0 : Int) < -1 then _ else _ : Int)).toNat = n
  have up : ¬ (0 < (-1 : Int)) := by decide
  by_cases some_ : -1 < (n : Int) - 1
  · rw [if_neg up, if_pos some_, show (- -1 : Int) = 1 by decide, Int.ediv_one]
    omega
  · rw [if_neg up, if_neg some_]
    omega
theorem fm_congr {α β : Type} {f g : α → Option β} : ∀ {l : List α}, (∀ x ∈ l, f x = g x) → l.filterMap f = l.filterMap g
  | [], _ => rfl
  | a :: l, h => by
    rw [List.filterMap_cons, List.filterMap_cons, h a List.mem_cons_self, fm_congr fun x hx => h x (List.mem_cons_of_mem _ hx)]
theorem back_pick (its : Array Value) : ((List.range its.size).filterMap fun (k : Nat) => its[(((its.size : Int) - 1) + (k : Int) * (-1)).toNat]?).toArray = its.toList.reverse.toArray := by
  congr 1
  rw [← PySem.W.krv_all its, ← List.filterMap_reverse, ← PySem.W.krv_range, List.filterMap_map]
  refine fm_congr fun k hk => ?_
  have := List.mem_range.mp hk
  show its[_]? = its[its.size - 1 - k]?
  congr 1
  omega
theorem back_applied {sl : Addr} {vs : Value} {n : Nat} {Q : Int × Int × Nat → Shared → Prop} (hs : s.heap.IsSliceOf sl .none .none vs) (ps : IsPart vs (some (-1)))
    (h : Q ((n : Int) - 1, -1, n) s) : wpAny (model prog w) A (Builtin.Slice.sliceApplied (.ref sl) (pure (n : Int))) Q E s := by
  obtain ⟨so, sAt, sCls, sDat⟩ := id hs
  unfold Builtin.Slice.sliceApplied
  unfold Builtin.Slice.sliceFields
  refine wpAny_bind (wpAny_bind (wpAny_field sAt sDat (x := .none) rfl (wpAny_bind (wpAny_field sAt sDat (x := .none) rfl (wpAny_bind (wpAny_field sAt sDat (x := vs) rfl (wpAny_pure ?_)))))))
  refine wpAny_bind (HT.slicePart_ ps ?_)
  show wpAny _ _ (if ((-1 : Int) == 0) = true then _ else _) _ _ s
  rw [if_neg (by decide)]
  refine wpAny_bind (slicePart_none (wpAny_bind (slicePart_none (wpAny_bind (wpAny_pure ?_)))))
  show wpAny _ _ (match Builtin.Slice.sliceAdjust none none (-1) (n : Int) with | (lo, hi) => pure (lo, (-1 : Int), Builtin.Slice.slicePlaces lo hi (-1))) _ _ s
  rw [back_ends n]
  show wpAny _ _ (pure ((n : Int) - 1, (-1 : Int), Builtin.Slice.slicePlaces ((n : Int) - 1) (-1) (-1))) _ _ s
  rw [back_many]
  exact wpAny_pure h
theorem back_item {t sl : Addr} {its : Array Value} {vs : Value} {Q : Value → Shared → Prop} (isT : IsTup s.heap t its) (hs : s.heap.IsSliceOf sl .none .none vs) (ps : IsPart vs (some (-1)))
    (hsz : its.size ≤ sizeLine) (h : Q (.ref s.heap.objs.size) { s with heap := s.heap.push { cls := .type "tuple", data := .seq its.toList.reverse.toArray } }) :
    wpAny (model prog w) A (getItem (.ref t) (.ref sl)) Q E s := by
  have hz : sizeOk (.seq its.toList.reverse.toArray) := by
    show its.toList.reverse.toArray.size ≤ sizeLine
    rw [List.size_toArray, List.length_reverse, Array.length_toList]
    exact hsz
  obtain ⟨so, sAt, sCls, sDat⟩ := id hs
  have hT : s.TypeIs (.ref sl) "slice" := ⟨so, sAt, sCls⟩
  unfold getItem
  refine wpAny_holding ?_
  refine wpAny_bind (wpAny_sequenceKey isT.typeIs (by decide) ?_)
  have slot := PyProof.Rows.slot_tuple_getitem
  refine wpAny_bind (wpAny_callSpecial?_slot (name := Str.ofString "__getitem__") isT.typeIs slot (wpAny_call_entry slot isT.typeIs entry_tuple_getitem ?_ (args_tuple_getitem _ _)))
  show wpAny (model prog w) _ (Builtin.Tuple.tupleItemsOf (.ref t) >>= _) _ _ _
  refine wpAny_bind (tupleItemsOf_ isT (wpAny_bind (wpAny_typeOf hT ?_)))
  rw [if_pos (by decide)]
  refine wpAny_bind (back_applied hs ps ?_)
  have hno : ¬ ((((its.size : Int) - 1) == 0 && (-1 : Int) == 1 && its.size == its.size) = true) := by simp
  show wpAny _ _ (if (((its.size : Int) - 1) == 0 && (-1 : Int) == 1 && its.size == its.size) = true then _ else _) _ _ s
  rw [if_neg hno, back_pick]
  exact wpAny_bind (m := Builtin.Tuple.tupleExact _) (wpAny_newObj_type (wpAny_pure ⟨_, rfl, wpAny_pure h⟩) hz)
end
section
variable {X : Cx}
def tBack (K : PySem.W.Frag) (te : TE) : TE := fun σ H Q => te σ H fun x H1 => ∃ a xs, x = .ref a ∧ SqT K H1 a xs ∧ ∀ p, H1 p = none → Q (.ref p) (upd H1 p (.tup xs.reverse))
theorem pe_back {e : Expr} {te : TE} {k : Nat} {p1 p2 p3 pos : Pos} (he : PE X e te) :
    PE X (.Subscript e (.Slice none none (some (.UnaryOp .USub (.Constant (.int 1) k p1) p2)) p3) pos) (tBack X.K te) := by
  refine ⟨fun pins s σ H Q I h => Subscript_ (thn (he.run pins s σ H _ I h) ?_)⟩
  rintro v s1 ⟨x, H1, I1, r1, a, xs, rfl, hx, q⟩
  cases r1
  refine wpAny_Slice (thn (po_none.run pins s1 σ H1 (fun o H2 => o = none ∧ H2 = H1) I1 ⟨rfl, rfl⟩) ?_)
  rintro vl s2 ⟨l, H2, I2, pl, rfl, rfl⟩
  refine thn (po_none.run pins s2 σ H2 (fun o H3 => o = none ∧ H3 = H2) I2 ⟨rfl, rfl⟩) ?_
  rintro vu s3 ⟨u, H3, I3, pu, rfl, rfl⟩
  refine thn ((po_some (pe_un un_neg pe_int)).run pins s3 σ H3 (fun o H4 => o = some (-1) ∧ H4 = H3) I3 ⟨1, rfl, -1, rfl, rfl, rfl⟩) ?_
  rintro vs s4 ⟨o, H4, I4, ps, rfl, rfl⟩
  cases pl
  cases pu
  have I5 : Inv X pins σ H4 { s4 with heap := s4.heap.push { cls := .type "slice", data := .fields #[.none, .none, vs] } } := I4.kept (t' := s4.toks) fun b ob z => Heap.get?_push_of_some _ z
  obtain ⟨its, r, ht, hz⟩ := I5.tuple hx
  have hlen := r.length
  show wpAny (model X.prog X.w) X.A (subscriptTail e (.Slice none none (some (.UnaryOp .USub (.Constant (.int 1) k p1) p2)) p3) (.ref a) (.ref s4.heap.objs.size)) (EP X pins σ Q) X.xe { s4 with heap := s4.heap.push { cls := .type "slice", data := .fields #[.none, .none, vs] } }
  refine tail_any (ops := [.ref a, .ref s4.heap.objs.size]) ht.typeIs PyProof.Rows.slot_tuple_getitem.lookup ?_ (by with_unfolding_all rfl)
  refine back_item ht (Heap.IsSliceOf.new _ .none .none vs) ps (by rw [List.size_toArray]; omega) ?_
  refine ⟨.ref _, _, I5.laid (t' := s4.toks) (o := .tup xs.reverse) (fun b ob z => Heap.get?_push_of_some _ z) (Nat.le_refl _) ?_, rfl, q _ (I5.hok.fresh (Nat.le_refl _))⟩
  exact ⟨by rw [List.length_reverse]; exact hz, _, r.reverse, IsTup.new _ _⟩
end
end OV

set_option maxRecDepth 100000
set_option maxHeartbeats 3000000
/-! Rule: for i, x in enumerate(t), t a tuple. -/
namespace OV
open PySem PySem.Spec PyProof.Rows L2

theorem meets_enumT (t : Addr) (its : Array Value) :
    Meets (Builtin.«enumerate.__new__» ⟨[.type "enumerate", .ref t], []⟩) (fun _ R s => s.heap.IsTuple t its ∧
      R (.ok (.ret (.ref (s.heap.push { cls := .type "tuple_iterator", data := .fields #[.ref t, .int 0 0] }).objs.size)))
        { s with heap := (s.heap.push { cls := .type "tuple_iterator", data := .fields #[.ref t, .int 0 0] }).push { cls := .type "enumerate", data := .fields #[.none, .bool false, .ref s.heap.objs.size, rawInt 0, .none, .none] } }) :=
  Meets.of_wp (fun prog w A R s ⟨hT, h⟩ => by
    rcases s with ⟨hp, g, d, tk, os⟩
    have hsub := sub_enumerate
    have begin : ∀ {A' : Around} {E : Value → Shared → Prop} {Q : Value → Shared → Prop}, Q (.ref hp.objs.size) ⟨hp.push { cls := .type "tuple_iterator", data := .fields #[.ref t, .int 0 0] }, g, d, tk, os⟩ →
        wpAny (model prog w) A' (pyIter (.ref t)) Q E ⟨hp, g, d, tk, os⟩ := fun q => wpAny_pyIter_tuple hT q
    wp_walk using begin
    refine wpAny_stack_any (fun around => wpAny_pure ?_)
    split
    · rename_i c _ _ _ _ _
      cases (c == Value.type "enumerate") <;> (wp_walk using begin; exact ⟨_, rfl, h⟩)
    · wp_walk using begin
      exact ⟨_, rfl, h⟩)
theorem call_enumT {prog : Program} {w : World} {A : Around} {E : Value → Shared → Prop} {s : Shared} {t : Addr} {its : Array Value} {Q : Value → Shared → Prop} (hT : s.heap.IsTuple t its)
    (h : ∀ h', IsEnum h' (s.heap.objs.size + 1) s.heap.objs.size 0 .none → h'.IsTupleIter s.heap.objs.size t 0 →
      (∀ c x, s.heap.get? c = some x → h'.get? c = some x) → Q (.ref (s.heap.objs.size + 1)) { s with heap := h' }) :
    wpAny (model prog w) A (call (.type "enumerate") [.ref t]) Q E s := by
  refine callType_new F.called_enumerate (by decide) (F.typeCall_enumerate_1 _) (F.newCall_enumerate_1 _) (fun obj => F.args_object_init_2 obj _) F.entry_enumerate_new (meets_enumT t its) ⟨hT, ?_⟩
  have hz : (s.heap.push { cls := .type "tuple_iterator", data := .fields #[.ref t, .int 0 0] }).objs.size = s.heap.objs.size + 1 := Heap.size_push ..
  have new := Heap.get?_push_size (s.heap.push { cls := .type "tuple_iterator", data := .fields #[.ref t, .int 0 0] })
    (show ({ cls := .type "enumerate", data := .fields #[.none, .bool false, .ref s.heap.objs.size, rawInt 0, .none, .none] } : Obj).isFreed = false from rfl)
  show _ ∧ _
  rw [hz] at new ⊢
  exact ⟨⟨_, new, rfl⟩, h _ new ⟨_, Heap.get?_push_of_some _ (Heap.get?_push_size _ rfl), rfl, rfl⟩ fun b o e => Heap.get?_push_of_some _ (Heap.get?_push_of_some _ e)⟩

/-- the tuple at a, each item in a new pair with its place -/
def IteT (K : PySem.W.Frag) (a : Addr) : It :=
  ⟨fun i H => ∃ (xs : List V) (x : V), SqT K H a xs ∧ xs[i]? = some x, fun i H v H' => ∃ T x, v = .ref T ∧ H T = none ∧ H' = upd H T (.tup [.int (i : Nat), x]) ∧ ∀ xs, SqT K H a xs → xs[i]? = some x,
    fun i H => ∃ xs : List V, SqT K H a xs ∧ xs.length = i⟩
/-- by the library's walk of an enumeration (WalksT.enumFrom) over what a tuple's iterator draws -/
theorem turn_enumT {P : Program} {w : World} {K : PySem.W.Frag} {elts : List Expr} {kk : Nat} {tpos : Pos} {a e it : Addr} (hei : e ≠ it) (hea : e ≠ a) (hai : a ≠ it) :
    Turn P w K (.Tuple elts kk tpos) (IteT K a) [e, it] e (fun i h => (∃ old, IsEnum h e it (0 + (i : Int)) old) ∧ h.IsTupleIter it a i) where
  mem := List.mem_cons_self
  obj := by
    rintro i h ⟨⟨old, h1⟩, o, h2, _, h3⟩ b hb
    rcases List.mem_cons.mp hb with z | tl
    · rw [z]
      exact ⟨_, h1, fun v q => nomatch q⟩
    · rw [List.mem_singleton.mp tl]
      exact ⟨o, h2, fun v q => by
        rw [h3] at q
        cases q⟩
  keep := by
    rintro i h h' ⟨⟨old, h1⟩, h2⟩ k
    exact ⟨⟨old, k e List.mem_cons_self _ h1⟩, h2.at fun o q => k it (List.mem_cons_of_mem _ List.mem_cons_self) o q⟩
  item := by
    rintro X rfl rfl rfl calm i pins s σ H E I own ⟨hE, hI⟩ ⟨xs, x, hxs, hx⟩
    obtain ⟨us, rel, isT, _⟩ := I.tuple hxs
    have W := WalksT.enumFrom 0 (Draws.tuple (prog := X.prog) (w := X.w) (A := X.A.in1) (I.ok.hd calm) it a hai us.toArray) e hei (by simp [hei, hea]) List.mem_cons_self
    have lt : i < us.toArray.size := by
      rw [List.size_toArray, ← rel.length]
      exact (List.getElem?_eq_some_iff.mp hx).1
    refine W.item i s _ _ lt ⟨hE, hI, isT⟩ fun T vals h1 tk hv above tup mid k1 => ⟨_, rfl, W.go elts kk tpos i T { s with heap := h1, toks := tk } _ _ mid fun h2 st k2 => ?_⟩
    obtain ⟨t, u, hu, rfl⟩ := hv
    obtain ⟨oT, g1, g2, n, g3⟩ := tup
    have g4 : h2.get? T = some oT := k2 T oT (W.apart i T h1 mid) g1
    obtain ⟨u', hu', ru⟩ := rel.get hx
    have same : u' = u := Option.some.inj (hu'.symm.trans (by simpa using hu))
    rw [same] at ru
    have pair : ObjOk X.prog X.w (upd H T (.tup [.int (i : Nat), x])) h2 T (.tup [.int (i : Nat), x]) := by
      refine ⟨by show 2 ≤ sizeLine; decide, [.int (0 + (i : Int)) t, u], .cons ⟨t, ?_⟩ (.cons ru .nil), oT, g4, g2, n, g3⟩
      rw [Int.zero_add]
    have J := I.turnedNew (t' := tk) (h' := h2) (ch := [e, it]) (fun b o out q => k2 b o out (k1 b o out q)) own above pair
    refine ⟨.ref T, _, J, rfl, ⟨T, x, rfl, I.hok.fresh above, rfl, fun ys hy => ?_⟩, ⟨st.1, st.2.1⟩, fun b hb => ?_⟩
    · rw [I.tuple_inj hy hxs]
      exact hx
    · rw [upd_ne (show b ≠ T from fun z => W.apart i T h1 mid (by rw [← z]; exact hb))]
      exact (own b hb).1
  done := by
    rintro X rfl rfl rfl calm i pins s σ H E I own ⟨hE, hI⟩ ⟨xs, hxs, hx⟩
    obtain ⟨us, rel, isT, _⟩ := I.tuple hxs
    have W := WalksT.enumFrom 0 (Draws.tuple (prog := X.prog) (w := X.w) (A := X.A.in1) (I.ok.hd calm) it a hai us.toArray) e hei (by simp [hei, hea]) List.mem_cons_self
    have all : us.toArray.size = i := by
      rw [List.size_toArray, ← rel.length]
      exact hx
    refine W.done s _ _ (by rw [all]; exact ⟨hE, hI, isT⟩) fun h1 tk k1 => ⟨rfl, ?_⟩
    exact I.turnedL (t' := tk) (ch := [e, it]) k1 own
  self := by
    rintro A i s Q E ⟨⟨old, h1⟩, _⟩ q
    exact wpAny_pyIter_enum h1 q
def iEnumT (K : PySem.W.Frag) (ta : TA) : TI := fun σ H R => ta σ H fun vs H1 => ∃ a xs, vs = [.ref a] ∧ SqT K H1 a xs ∧ R (IteT K a) H1
theorem pi_enumT {X : Cx} {e : Expr} {ta : TA} {p pos tpos : Pos} {elts : List Expr} {kk : Nat} (hg : Gl X "enumerate") (hm : X.mg "enumerate" = none) (ha : PA X [e] ta) (hs : starEach [e] X.env = [(false, eval e X.env)] := by rfl) :
    PI X (.Tuple elts kk tpos) (.Call (.Name "enumerate" p) [e] [] pos) (iEnumT X.K ta) := by
  refine ⟨fun pins s σ H R I h => Call_ (ld_blt I hg hm boot_enumerate (PyProof.Rows.callWith_type1 (thn (ha.run pos pins s σ H _ I h) ?_) hs rfl))⟩
  rintro us s1 ⟨vs, H1, I1, r1, a, xs, rfl, hq, q⟩
  cases r1 with
  | cons r rr =>
    cases rr
    cases r
    obtain ⟨us, rel, isT, _⟩ := I1.tuple hq
    obtain ⟨oa, ha, _⟩ := id isT
    have la : a < s1.heap.objs.size := Heap.lt_size ha
    refine call_enumT (its := us.toArray) isT fun h1 hE hI k1 => wpAny_pyIter_enum hE ?_
    have above : ∀ b ∈ [s1.heap.objs.size + 1, s1.heap.objs.size], s1.heap.objs.size ≤ b := fun b hb => by
      rcases List.mem_cons.mp hb with z | tl
      · rw [z]
        exact Nat.le_succ _
      · rw [List.mem_singleton.mp tl]
        exact Nat.le_refl _
    refine ⟨s1.heap.objs.size + 1, [s1.heap.objs.size + 1, s1.heap.objs.size], _, _, H1, rfl, I1.kept (t' := s1.toks) k1,
      turn_enumT (Nat.succ_ne_self _) (Nat.ne_of_gt (Nat.lt_succ_of_lt la)) (Nat.ne_of_lt la), ⟨⟨.none, hE⟩, hI⟩, fun b hb => I1.fpOk (above b hb) (I1.hok.fresh (above b hb)), q⟩
/-- the loop over it: an invariant of the turn, the slots, the heap -/
theorem for_enumT {K : PySem.W.Frag} {a : Addr} {xs : List V} {g : TG} {tb : TS} {D : Ends} {σ : L2.St} {H : Hp} (Pv : Nat → L2.St → Hp → Prop) (h0 : Pv 0 σ H) (stays : ∀ i σ H, Pv i σ H → SqT K H a xs)
    (turn : ∀ (i : Nat) (x : V) (T : Addr) (σ : L2.St) (H : Hp), xs[i]? = some x → Pv i σ H → H T = none → g (.ref T) σ (upd H T (.tup [.int (i : Nat), x])) fun σ2 H2 => tb { D with nx := Pv (i + 1), ct := Pv (i + 1), bk := D.nx } σ2 H2) (out : ∀ σ H, Pv xs.length σ H → D.nx σ H) :
    ∃ Inv : Nat → Nat → L2.St → Hp → Prop, (∃ m, Inv 0 m σ H) ∧ ∀ i m σ H, Inv i m σ H →
      ((IteT K a).stop i H ∧ D.nx σ H) ∨ ((IteT K a).go i H ∧ ∃ N : L2.St → Hp → Prop, (∀ σ' H', N σ' H' → ∃ m', m' < m ∧ Inv (i + 1) m' σ' H') ∧ ∀ v H', (IteT K a).yld i H v H' → g v σ H' fun σ2 H2 => tb { D with nx := N, ct := N, bk := D.nx } σ2 H2) := by
  refine ⟨fun i m σ H => i + m = xs.length ∧ Pv i σ H, ⟨xs.length, by omega, h0⟩, ?_⟩
  rintro i m σ H ⟨left, p⟩
  have sq := stays i σ H p
  cases m with
  | zero =>
    have z : xs.length = i := by omega
    subst z
    exact .inl ⟨⟨xs, sq, rfl⟩, out σ H p⟩
  | succ m =>
    have lt : i < xs.length := by omega
    have at_ := List.getElem?_eq_getElem lt
    refine .inr ⟨⟨xs, _, sq, at_⟩, Pv (i + 1), fun σ' H' q => ⟨m, Nat.lt_succ_self m, by omega, q⟩, ?_⟩
    rintro v H' ⟨T, x, rfl, new, rfl, only⟩
    exact turn i x T σ H (only xs sq) p new
end OV

set_option maxRecDepth 100000
set_option maxHeartbeats 3000000
/-! Rules: sorted of data, sorted of a tuple of ints, min of pairs, not in a tuple of data. -/
namespace OV
open PySem PySem.Spec PyProof.Rows L2 PySem.W PySem.SeqAt

theorem each_of {K : PySem.W.Frag} {H : Hp} {X : Cx} {pins : List (Addr × Obj)} {σ : L2.St} {s : Shared} (I : L2.Inv X pins σ H s) (hK : X.K = K) :
    ∀ {xs : List V} {us : List Value} {ds : List PyData}, Vals xs us → DpAll K H xs ds →
      EachIs (fun (u : Value) (b : V × PyData) => RelV b.1 u) us (xs.zip ds) ∧ EachIs (fun (u : Value) (b : V × PyData) => ∃ as, Reads s.heap u b.2 as) us (xs.zip ds) ∧ xs.length = ds.length
  | _, _, _, .nil, .nil => ⟨.nil, .nil, rfl⟩
  | _, _, _, .cons r rs, .cons d ds => by
    subst hK
    obtain ⟨h1, h2, h3⟩ := each_of I rfl rs ds
    obtain ⟨as, q⟩ := Dp.reads I _ _ _ d r
    exact ⟨.cons r h1, .cons ⟨as, q⟩ h2, congrArg (· + 1) h3⟩
theorem vals_of_each : ∀ {out : List Value} {bs : List (V × PyData)}, EachIs (fun (u : Value) (b : V × PyData) => RelV b.1 u) out bs → Vals (bs.map Prod.fst) out
  | _, _, .nil => .nil
  | _, _, .cons r rs => .cons r (vals_of_each rs)
/-- sorted(xs) of a list of data that can be compared: some arrangement -/
def rSortD (K : PySem.W.Frag) : List V → Hp → VK → Prop := fun vs H Q => ∃ (a : Addr) (xs : List V) (ds : List PyData), vs = [.ref a] ∧ SqL K H a xs ∧ DpAll K H xs ds ∧ AllAlike ds ∧ Sortable ds ∧ xs.length ≤ 1000 ∧
  (∀ d ∈ ds, d.depth ≤ 60) ∧ ∀ (ys : List V) (p : Addr), ys.Perm xs → H p = none → Q (.ref p) (upd H p (.lst ys))
theorem cr_sortD {X : Cx} (hu : X.A.units + 64 < cLine) : CallR X (.builtin "sorted") (rSortD X.K) := by
  rintro pins s σ H vs us Q I r ⟨a, xs, ds, rfl, hs, hd, hal, hso, hl, hdp, q⟩
  obtain ⟨its, rv, hL, hz⟩ := I.list hs
  rw [Vals.ref1 r]
  obtain ⟨e1, e2, e3⟩ := each_of I rfl rv hd
  have em : (xs.zip ds).map Prod.snd = ds := List.map_snd_zip (by omega)
  have ef : (xs.zip ds).map Prod.fst = xs := List.map_fst_zip (by omega)
  have hlen : (xs.zip ds).length = xs.length := by
    rw [← List.length_map (f := Prod.fst), ef]
  refine PySem.W.sorted_data (enc := Prod.snd) (bs := xs.zip ds) (R := fun (u : Value) (b : V × PyData) => RelV b.1 u) hL.isList e1 e2 (by rw [em]; exact hal) (by rw [em]; exact hso) (by rw [hlen]; exact hz) (fun b hb => ?_) fun out ho hE => ?_
  · have h1 : b.2 ∈ ds := by
      rw [← em]
      exact List.mem_map.mpr ⟨b, hb, rfl⟩
    have := hdp _ h1
    omega
  · have hp : ((xs.zip ds).mergeSort (PySem.W.dataLe false Prod.snd)).Perm (xs.zip ds) := List.mergeSort_perm _ _
    have hy : (((xs.zip ds).mergeSort (PySem.W.dataLe false Prod.snd)).map Prod.fst).Perm xs := by
      have := hp.map Prod.fst
      rw [ef] at this
      exact this
    obtain ⟨ep, made⟩ := PyProof.Rows.sortedAll_at s.heap its out.toArray
    have hz2 : (((xs.zip ds).mergeSort (PySem.W.dataLe false Prod.snd)).map Prod.fst).length ≤ sizeLine := by
      rw [hy.length_eq]
      exact hz
    exact ⟨.ref _, upd H (s.heap.objs.size + 1) (.lst (((xs.zip ds).mergeSort (PySem.W.dataLe false Prod.snd)).map Prod.fst)), I.laid (t' := s.toks) (fun _ _ => PyProof.Rows.sortedAll_old) (Nat.le_succ _)
      ⟨hz2, out, ep, vals_of_each hE, made⟩, rfl, q _ _ hy (I.hok.fresh (Nat.le_succ _))⟩

/-- sorted(t) of a tuple of ints -/
def rSortTI (K : PySem.W.Frag) : List V → Hp → VK → Prop := fun vs H Q => ∃ (a : Addr) (ns : List Int), vs = [.ref a] ∧ SqT K H a (ns.map V.int) ∧
  ∀ (ms : List Int) (p : Addr), ms.Perm ns → ms.Pairwise (· ≤ ·) → H p = none → Q (.ref p) (upd H p (.lst (ms.map V.int)))
theorem cr_sortTI {X : Cx} : CallR X (.builtin "sorted") (rSortTI X.K) := by
  rintro pins s σ H vs us Q I r ⟨a, ns, rfl, hs, q⟩
  obtain ⟨its, rv, hT, hz⟩ := I.tuple hs
  rw [Vals.ref1 r]
  obtain ⟨to_, tAt, tCls, n, tDat⟩ := hT
  have hi : IntsAre its ns := rv.ints
  have hn : its.length ≤ sizeLine := by
    rw [← rv.length]
    exact hz
  refine Calls.call_function_entry kind_sorted plain_sorted entry_sorted (args_sorted1 (.ref a)) ?_
  unfold Builtin.«sorted»
  refine wpAny_bind (m := checkCount "sorted" 1 1 _) (wpAny_pure (wpAny_bind ?_))
  refine (wpAny_collect_seq a (.inr rfl) tAt tCls tDat (fun h' hk => ?_) (by rw [List.size_toArray]; exact hn))
  have I1 : L2.Inv X pins σ H { s with heap := h' } := I.kept (t' := s.toks) hk
  refine wpAny_bind (wpAny_newList ?_ (by simpa using hn))
  have hoL : (h'.push (seqObj "list" its.toArray 0)).get? h'.objs.size = some (seqObj "list" its.toArray 0) := Heap.get?_push_size _ rfl
  show wpAny _ _ _ _ _ { s with heap := h'.push (seqObj "list" its.toArray 0) }
  refine wpAny_bind (wpAny_holding (wpAny_call_entry slot_list_sort ⟨_, hoL, rfl⟩ entry_list_sort (list_sort_treeAny hoL hi hn fun out ns' h1 h2 h3 => ⟨_, rfl, wpAny_pure ⟨_, rfl, ?_⟩⟩) (args_list_sort _)))
  have few : (ns'.map V.int).length ≤ sizeLine := by
    rw [List.length_map, h2.length_eq, ← hi.length]
    exact hn
  obtain ⟨ep, he'⟩ := sortedHeap_at (vs := its) (out := out) hoL
  refine ⟨.ref _, upd H h'.objs.size (.lst (ns'.map V.int)), I1.laid (t' := s.toks) (fun b u e => ?_) (Nat.le_refl _) ⟨few, out.toList, ep, vals_of_ints h1, he'⟩, rfl, q ns' _ h2 h3 (I1.hok.fresh (Nat.le_refl _))⟩
  have below : b < h'.objs.size := Heap.lt_size e
  refine (sortedHeap_old (Nat.ne_of_lt below) ?_).trans (Heap.get?_push_of_some _ e)
  rw [size_push']
  exact Nat.lt_succ_of_lt below

/-! ### min of pairs -/
def prO (p : Addr × Int × Int) : HO := .tup [.int p.2.1, .int p.2.2]
def prP (p : Addr × Int × Int) : PyData := .tuple [.int p.2.1, .int p.2.2]
theorem prs_dp {K : PySem.W.Frag} {H : Hp} : ∀ {ps : List (Addr × Int × Int)}, (∀ p ∈ ps, H p.1 = some (prO p)) → DpAll K H (ps.map fun p => .ref p.1) (ps.map prP)
  | [], _ => .nil
  | p :: ps, h => .cons (.tup (.inl (.inl (h p List.mem_cons_self))) (.cons (.int _) (.cons (.int _) .nil))) (prs_dp fun q hq => h q (List.mem_cons_of_mem _ hq))
theorem prs_depth : ∀ ps : List (Addr × Int × Int), PyData.depthAll (ps.map prP) ≤ 1
  | [] => by
    simp [PyData.depthAll]
  | p :: ps => by
    have h := prs_depth ps
    have e : (prP p).depth = 1 := by simp [prP, PyData.depth, PyData.depthAll]
    rw [List.map_cons]
    simp only [PyData.depthAll]
    omega
theorem prs_alike (p q : Addr × Int × Int) : alike (prP p) (prP q) = true := by simp [prP, alike, alikeAll]
theorem pr_lay (p : Addr × Int × Int) : (prP p).canLay0 = true := by simp [prP, PyData.canLay0, PyData.canLayAll0]
theorem min_le : ∀ (ps : List (Addr × Int × Int)) (p : Addr × Int × Int), ∃ q, q ∈ p :: ps ∧ minD (prP p) (ps.map prP) = prP q ∧ ∀ r ∈ p :: ps, q.2.1 ≤ r.2.1
  | [], p => ⟨p, List.mem_cons_self, rfl, fun r hr => by
      rw [List.mem_singleton.mp hr]
      exact Int.le_refl _⟩
  | z :: ps, p => by
    have step : minD (prP p) ((z :: ps).map prP) = minD (if dataLt (prP z) (prP p) then prP z else prP p) (ps.map prP) := rfl
    by_cases c : dataLt (prP z) (prP p) = true
    · rw [if_pos c] at step
      obtain ⟨q, hq, e, hle⟩ := min_le ps z
      refine ⟨q, List.mem_cons_of_mem _ hq, step.trans e, fun r hr => ?_⟩
      rcases List.mem_cons.mp hr with rfl | tl
      · have h1 := hle z List.mem_cons_self
        have h2 : z.2.1 < r.2.1 ∨ (z.2.1 = r.2.1 ∧ z.2.2 < r.2.2) := by
          have := c
          unfold prP at this
          rw [dataLt_ii] at this
          exact of_decide_eq_true this
        omega
      · exact hle r tl
    · rw [if_neg c] at step
      obtain ⟨q, hq, e, hle⟩ := min_le ps p
      refine ⟨q, ?_, step.trans e, fun r hr => ?_⟩
      · rcases List.mem_cons.mp hq with h | h
        · rw [h]
          exact List.mem_cons_self
        · exact List.mem_cons_of_mem _ (List.mem_cons_of_mem _ h)
      · rcases List.mem_cons.mp hr with rfl | tl
        · exact hle r List.mem_cons_self
        · rcases List.mem_cons.mp tl with rfl | tl
          · have h1 := hle p List.mem_cons_self
            have h2 : ¬ (r.2.1 < p.2.1 ∨ (r.2.1 = p.2.1 ∧ r.2.2 < p.2.2)) := by
              intro d
              apply c
              unfold prP
              rw [dataLt_ii]
              exact decide_eq_true d
            omega
          · exact hle r (List.mem_cons_of_mem _ tl)
def rMinP (K : PySem.W.Frag) : List V → Hp → VK → Prop := fun vs H Q => ∃ (a : Addr) (ps : List (Addr × Int × Int)), vs = [.ref a] ∧ SqL K H a (ps.map fun p => .ref p.1) ∧ ps ≠ [] ∧ (∀ p ∈ ps, H p.1 = some (prO p)) ∧
  ∀ t m k, H t = some (.tup [.int m, .int k]) → (∃ p ∈ ps, p.2.1 = m) → (∀ q ∈ ps, m ≤ q.2.1) → Q (.ref t) H
theorem cr_minP {X : Cx} (hc : X.calm = true) (hu : X.A.units + 64 < cLine) : CallR X (.builtin "min") (rMinP X.K) := by
  rintro pins s σ H vs us Q I r ⟨a, ps, rfl, hs, hne, hp, q⟩
  obtain ⟨its, rv, hL, hz⟩ := I.list hs
  rw [Vals.ref1 r]
  obtain ⟨as, hr⟩ := Dp.readsAll I _ _ its (prs_dp (K := X.K) hp) rv
  cases ps with
  | nil => exact absurd rfl hne
  | cons p ps =>
    have hdep := prs_depth (p :: ps)
    refine min_list_data (I.ok.hd hc) hL.isList (by simpa using hr) ⟨fun x hx y hy => ?_, fun x hx => ?_⟩ (by rw [← List.map_cons (f := prP)]; omega) fun i v h' tk bs hv hR hk => ?_
    · rw [← List.map_cons (f := prP)] at hx hy
      obtain ⟨p1, _, rfl⟩ := List.mem_map.mp hx
      obtain ⟨p2, _, rfl⟩ := List.mem_map.mp hy
      exact prs_alike p1 p2
    · rw [← List.map_cons (f := prP)] at hx
      obtain ⟨p1, _, rfl⟩ := List.mem_map.mp hx
      exact fun z => nomatch z
    · obtain ⟨m, hm, em, hle⟩ := min_le ps p
      have got : its[i]? = some v := by simpa using hv
      have hil : i < (p :: ps).length := by
        have h1 := (List.getElem?_eq_some_iff.mp got).1
        rw [← rv.length, List.length_map] at h1
        exact h1
      obtain ⟨u, hu', ru⟩ := rv.get (i := i) (x := .ref (p :: ps)[i].1) (by rw [List.getElem?_map, List.getElem?_eq_getElem hil]; rfl)
      have euv : u = v := Option.some.inj (hu'.symm.trans got)
      subst euv
      have hpi : (p :: ps)[i] ∈ p :: ps := List.getElem_mem hil
      have hH := hp _ hpi
      obtain ⟨as2, r2⟩ := Dp.reads (I.kept (t' := tk) hk) (prP (p :: ps)[i]) (.ref (p :: ps)[i].1) u (.tup (.inl (.inl hH)) (.cons (.int _) (.cons (.int _) .nil))) ru
      have e : prP (p :: ps)[i] = minD (prP p) (ps.map prP) := Reads.unique _ _ u _ _ (pr_lay _) r2 hR
      rw [em] at e
      have e1 : (p :: ps)[i].2.1 = m.2.1 := by
        unfold prP at e
        injection e with e
        injection e with e _
        injection e
      have e2 : (p :: ps)[i].2.2 = m.2.2 := by
        unfold prP at e
        injection e with e
        injection e with _ e
        injection e with e _
        injection e
      refine ⟨.ref (p :: ps)[i].1, H, I.kept (t' := tk) hk, ru, q _ m.2.1 m.2.2 ?_ ⟨m, hm, rfl⟩ hle⟩
      rw [hH]
      unfold prO
      rw [e1, e2]

/-! ### not in a tuple of data -/
def rNotInT (K : PySem.W.Frag) : R2 := fun x y H Q => ∃ d ds, Dp K H x d ∧ Dp K H y (.tuple ds) ∧ SeqAt.shaped d = true ∧ SeqAt.shaped (.tuple ds) = true ∧ Q (.bl (!ds.any fun z => PyData.eqv z d)) H
theorem op_notInT {X : Cx} (hu : X.A.units + 65 < cLine) : OpR X (compareOp .NotIn) (rNotInT X.K) := by
  rintro pins s σ H x y v u Q I rx ry ⟨d, ds, hd, he, sd, se, q⟩
  obtain ⟨_, reads1⟩ := Dp.reads I d x v hd rx
  obtain ⟨_, reads2⟩ := Dp.reads I (.tuple ds) y u he ry
  exact SeqAt.notIn_tuple_reads reads2 reads1 (SeqAt.canLay_of_shaped se) (SeqAt.canLay_of_shaped sd) (room_in_shaped sd hu) ⟨.bl _, H, I, rfl, q⟩
end OV

set_option maxRecDepth 100000
set_option maxHeartbeats 3000000
/-! A line: a tuple whose object is known (a plain tuple, no dict of its own); its making, its index. -/
namespace OV
open PySem PySem.Spec PyProof.Rows L2
/-- at a stands the line L -/
def LnH (H : Hp) (a : Addr) (L : List Int) : Prop := ∃ o : Obj, H a = some (.frz o (.tup (L.map V.int))) ∧ o.cls = .type "tuple" ∧ o.dict = none
theorem LnH.sq {K : PySem.W.Frag} {H : Hp} {a : Addr} {L : List Int} (h : LnH H a L) : SqT K H a (L.map V.int) := let ⟨o, e, _⟩ := h; .inl (.inr ⟨o, e⟩)
theorem LnH.mono {H H' : Hp} {a : Addr} {L : List Int} (h : LnH H a L) (s : Same H H') : LnH H' a L := let ⟨o, e, r⟩ := h; ⟨o, s _ _ e, r⟩
theorem LnH.ty {K : PySem.W.Frag} {H : Hp} {a : Addr} {L : List Int} (h : LnH H a L) : TyX K H (.ref a) (.type "tuple") := let ⟨_, e, _⟩ := h; .fTuple e
section
variable {X : Cx}
/-- tuple(xs), xs a list: what is made is known -/
def rTupF (K : PySem.W.Frag) : List V → Hp → VK → Prop := fun vs H Q => ∃ (p : Addr) (ys : List V), vs = [.ref p] ∧ SqL K H p ys ∧ ∀ (l : Addr) (o : Obj), H l = none → o.cls = .type "tuple" → o.dict = none → Q (.ref l) (upd H l (.frz o (.tup ys)))
theorem call_tupF : CallR X (.type "tuple") (rTupF X.K) := by
  rintro pins s σ H vs us Q I r ⟨p, ys, rfl, hq, q⟩
  obtain ⟨_, rfl, rx⟩ := vals1 r
  cases rx
  obtain ⟨its, rv, isL, hz⟩ := I.list hq
  have hlen := rv.length
  refine call_tuple_list isL.isList (fun h' kp => ?_) (by simp only [List.size_toArray]; omega)
  have I1 : L2.Inv X pins σ H { s with heap := h' } := I.kept (t' := s.toks) kp
  have at_ : (h'.push { cls := .type "tuple", data := .seq its.toArray }).get? h'.objs.size = some { cls := .type "tuple", data := .seq its.toArray } := Heap.get?_push_size _ rfl
  have I2 : L2.Inv X pins σ (upd H h'.objs.size (.frz { cls := .type "tuple", data := .seq its.toArray } (.tup ys))) { s with heap := h'.push { cls := .type "tuple", data := .seq its.toArray } } :=
    I1.laid (t' := s.toks) (fun b o e => Heap.get?_push_of_some _ e) (Nat.le_refl _) ⟨at_, hz, its, rv, IsTup.new _ _⟩
  exact ⟨.ref h'.objs.size, _, I2, rfl, q _ _ (I1.hok.fresh (Nat.le_refl _)) rfl rfl⟩
/-- line.index(e) -/
def tTix (to : TE) (t : TA) : TE := fun σ H Q => to σ H fun x H1 => ∃ (a : Addr) (L : List Int), x = .ref a ∧ L.Nodup ∧ LnH H1 a L ∧ t σ H1 fun xs H2 => LnH H2 a L ∧ ∃ n, xs = [.int n] ∧ n ∈ L ∧ Q (.int (plc L n : Nat)) H2
theorem pe_tix {o e : Expr} {to : TE} {t : TA} {apos cpos : Pos} (ho : PE X o to) (ha : PA X [e] t)
    (hbase : attributeBase o "index" X.env (eval o X.env) = eval o X.env := by rfl)
    (few : ((backTo cpos (starEach [e] X.env)).all (fun x => !x.1) && (backToKw cpos (keywordEach [] X.env)).all (fun x => x.1.isSome) && decide ([e].length + ([] : List Keyword).length + (if ([] : List Keyword).isEmpty then 0 else 1) < 30)) = true := by rfl)
    (oneLine : (apos.endLine == cpos.line) = true := by rfl) (hs : starEach [e] X.env = (false, eval e X.env) :: starEach [] X.env := by rfl) (plain : (backTo cpos (starEach [] X.env)).any (·.1) = false := by rfl) :
    PE X (.Call (.Attribute o "index" apos) [e] [] cpos) (tTix to t) := by
  refine ⟨fun pins s σ H Q I h => wpAny_Call_method_late hbase few oneLine rfl (thn (ho.run pins s σ H _ I h) ?_)⟩
  rintro v s1 ⟨x, H1, I1, r1, a, L, rfl, nd, ⟨ob, hob, hc, hd⟩, q1⟩
  cases r1
  obtain ⟨hg, _⟩ := I1.hok a _ hob
  refine ⟨"tuple", "tuple.index", PySem.F.plainAttrs_tuple, PySem.F.slot_tuple_index, PySem.F.type_tuple_index, ⟨ob, hg, hc⟩, fun b e => ?_, ?_⟩
  · cases e
    exact ⟨ob, hg, hd⟩
  · have hA := ha.run cpos pins s1 σ H1 _ I1 q1
    rw [hs] at hA ⊢
    refine Calls.callWith_builtin (by show (false || (backTo cpos (starEach [] X.env)).any (·.1)) = false; rw [plain]; rfl) (Calls.evalArgs_plain (thn hA ?_))
    rintro us s2 ⟨vs, H2, I2, r2, hl2, n, rfl, hn, q2⟩
    obtain ⟨_, hat⟩ := plc_at hn
    exact mt_tix pins s2 σ H2 (.ref a) [.int n] (.ref a) us Q I2 rfl r2 ⟨a, L, n, plc L n, rfl, rfl, hl2.sq, hat, fun m hm e => Nat.ne_of_gt hm (plc_of nd e), q2⟩
end
end OV

set_option maxRecDepth 100000
set_option maxHeartbeats 3000000
/-! What a def is worth: words for promises. -/
namespace OV
open PySem PySem.Spec PyProof.Rows L2
abbrev topS (i : Nat) : Stmt := PySem.Challenge.pw_overtake_k84_whole_runs_and_pairs.main.body.getD i (.Pass ⟨0, 0, 0, 0⟩)
abbrev sInt : Stmt := topS 1
abbrev sIn : Stmt := topS 2
abbrev sLst : Stmt := topS 3
abbrev sNeedL : Stmt := topS 10
abbrev sNeedP : Stmt := topS 11
abbrev sShr : Stmt := topS 12
abbrev sShrA : Stmt := topS 13
abbrev sTal : Stmt := topS 14
abbrev sWrn : Stmt := topS 15
abbrev sCntW : Stmt := topS 16
abbrev sWrnC : Stmt := topS 17
abbrev sMov : Stmt := topS 19
abbrev sRunsIn : Stmt := topS 21
abbrev sRuns : Stmt := topS 22
abbrev sCtsIn : Stmt := topS 23
abbrev sRunC : Stmt := topS 24
abbrev sRunS : Stmt := topS 25
abbrev sReady : Stmt := topS 26
abbrev sPart : Stmt := topS 27
abbrev sBest : Stmt := topS 28
abbrev sGrp : Stmt := topS 30
abbrev sTaken : Stmt := topS 32
abbrev sLine : Stmt := topS 33
abbrev sLaw : Stmt := topS 34

theorem Same.tup {K : PySem.W.Frag} {H H' : Hp} {a : Addr} {xs : List V} (e : Same H H') (h : SqT K H a xs) : SqT K H' a xs := by
  rcases h with read | held
  · exact .inl (read.elim (fun q => .inl (e _ _ q)) fun ⟨o, q⟩ => .inr ⟨o, e _ _ q⟩)
  · exact .inr held
theorem Same.put {H : Hp} {p : Addr} {o : HO} (h : H p = none) : Same H (upd H p o) := fun b x e => by
  rw [upd_ne (ne_of_none e h)]
  exact e
/-- a new thing is changed -/
theorem same_turn {H0 H : Hp} {p : Addr} {o : HO} (s : Same H0 H) (h : H0 p = none) : Same H0 (upd H p o) := fun b x e => by
  rw [upd_ne (ne_of_none e h)]
  exact s b x e
theorem small8 {n : Nat} (h : n ≤ 1000) : n ≤ sizeLine := Nat.le_of_lt (small1000 h)
theorem SqT.now {K : PySem.W.Frag} {H : Hp} {a : Addr} {xs : List V} (h : H a = some (.tup xs)) : SqT K H a xs := .inl (.inl h)
theorem SqL.now {K : PySem.W.Frag} {H : Hp} {a : Addr} {xs : List V} (h : H a = some (.lst xs)) : SqL K H a xs := .inl (.inl h)
theorem hu64 {k : Nat} {A : Around} (hr : Room k A) : A.units + 64 < cLine := by
  have := hr.un
  omega
theorem hu65 {k : Nat} {A : Around} (hr : Room k A) : A.units + 65 < cLine := by
  have := hr.un
  omega

/-- the name x stands for a def that keeps this promise -/
structure Dn (P : Program) (w : World) (K : PySem.W.Frag) (mg : Str → Option Value) (base : Heap) (k : Nat) (x : Str) (sp : Sp) : Prop where
  ex : ∃ (f : Addr) (fd : FuncData) (ps : List Str), FnOk P w K mg base CX0 k f fd ps sp ∧ mg x = some (.ref f) ∧ PySem.W.keepIn K (.ref f) = true ∧ Binds K fd ps []
section
variable {X : Cx}
theorem pe_d {k j : Nat} {x : Str} {sp : Sp} {e : Expr} {es : List Expr} {t : TA} {p pos : Pos} (c : Dn X.prog X.w X.K X.mg X.base k x sp) (hr : Room j X.A) (hk : k ≤ j) (ha : PA X (e :: es) t) (hg : Gl X x := by rfl)
    (noDebug : (x == ("__debug__" : Str)) = false := by decide) (each : starEach (e :: es) X.env = (false, eval e X.env) :: starEach es X.env := by rfl) (plain : (backTo pos (starEach es X.env)).any (·.1) = false := by rfl) :
    PE X (.Call (.Name x p) (e :: es) [] pos) (tCall sp [] E0 t) := by
  obtain ⟨f, fd, ps, F, hm, kp, b⟩ := c.ex
  exact pe_call F (hr.mono hk) hg hm kp b .nil pass0 ha noDebug each plain
end

def rLen (K : PySem.W.Frag) : List V → Hp → VK → Prop := fun xs H Q => ∃ p ys, xs = [.ref p] ∧ (SqL K H p ys ∨ SqT K H p ys) ∧ Q (.int ys.length) H
theorem call_len {X : Cx} : CallR X (.builtin "len") (rLen X.K) := call_len_seq
/-! ### promises -/
/-- of a line -/
def spL (post : List Int → V → Hp → Hp → Prop) : Sp := fun vs H Q _ => ∃ (a : Addr) (L : List Int), vs = [.ref a] ∧ LnH H a L ∧ Line L ∧ ∀ v H', Same H H' → post L v H H' → Q v H'
/-- of a line and a person -/
def spLP (post : List Int → Int → V → Hp → Hp → Prop) : Sp := fun vs H Q _ => ∃ (a : Addr) (L : List Int) (p : Int), vs = [.ref a, .int p] ∧ LnH H a L ∧ Line L ∧ p ∈ L ∧ ∀ v H', Same H H' → post L p v H H' → Q v H'
def NewL (v : V) (H H' : Hp) (xs : List V) : Prop := ∃ q, v = .ref q ∧ H q = none ∧ H' q = some (.lst xs)
def Tup (v : V) (H' : Hp) (xs : List V) : Prop := ∃ q, v = .ref q ∧ H' q = some (.tup xs)
def RunAs (H : Hp) (v : V) (r : List Int) : Prop := ∃ t, v = .ref t ∧ H t = some (.tup (r.map V.int))
abbrev RunsAs (H : Hp) : List V → List (List Int) → Prop := Paired (RunAs H)
def GrpAs (H : Hp) (v : V) (g : Int × List Int) : Prop := ∃ (t u : Addr) (ns : List Int), v = .ref t ∧ H t = some (.tup [.int g.1, .ref u]) ∧ H u = some (.tup (ns.map V.int)) ∧ ns.Perm g.2 ∧ ns.Pairwise (· ≤ ·)
def optV : Option Int → V
  | none => .non
  | some i => .int i
theorem RunAs.mono {H H' : Hp} (s : Same H H') {v : V} {r : List Int} (h : RunAs H v r) : RunAs H' v r := let ⟨t, e, h⟩ := h; ⟨t, e, s _ _ h⟩
theorem RunsAs.mono {H H' : Hp} (s : Same H H') {vs : List V} {rs : List (List Int)} (h : RunsAs H vs rs) : RunsAs H' vs rs := Paired.mapP h fun _ _ q => q.mono s
theorem GrpAs.mono {H H' : Hp} (s : Same H H') {v : V} {g : Int × List Int} (h : GrpAs H v g) : GrpAs H' v g := let ⟨t, u, ns, e, h1, h2, h3⟩ := h; ⟨t, u, ns, e, s _ _ h1, s _ _ h2, h3⟩
theorem pair_get {α β : Type} {R : α → β → Prop} : ∀ {as : List α} {bs : List β}, Paired R as bs → ∀ {i : Nat} {a : α}, as[i]? = some a → ∃ b, bs[i]? = some b ∧ R a b
  | _, _, .nil, _, _, h => by simp at h
  | _, _, .cons r _, 0, _, h => by
    cases Option.some.inj h
    exact ⟨_, rfl, r⟩
  | _, _, .cons _ t, i + 1, a, h => by
    obtain ⟨b, h1, h2⟩ := pair_get t (i := i) (a := a) (by simpa using h)
    exact ⟨b, by simpa using h1, h2⟩
theorem pair_len {α β : Type} {R : α → β → Prop} : ∀ {as : List α} {bs : List β}, Paired R as bs → as.length = bs.length
  | _, _, .nil => rfl
  | _, _, .cons _ t => congrArg (· + 1) (pair_len t)
theorem pair_app {α β : Type} {R : α → β → Prop} : ∀ {as cs : List α} {bs ds : List β}, Paired R as bs → Paired R cs ds → Paired R (as ++ cs) (bs ++ ds)
  | _, _, _, _, .nil, h => h
  | _, _, _, _, .cons r t, h => .cons r (pair_app t h)
theorem ppl_at {n i : Nat} (h : i < n) : (ppl n)[i]? = some (i : Int) := by
  unfold ppl
  rw [List.getElem?_map, List.getElem?_range h]
  rfl
theorem ppl_take {n i : Nat} (h : i ≤ n) : (ppl n).take i = ppl i := by
  unfold ppl
  rw [← List.map_take, List.take_range, Nat.min_eq_left h]
theorem ppl_len (n : Nat) : (ppl n).length = n := by
  unfold ppl
  simp
theorem ppl_succ (n : Nat) : ppl (n + 1) = ppl n ++ [(n : Int)] := by
  unfold ppl
  rw [List.range_succ, List.map_append]
  rfl
end OV

set_option maxRecDepth 100000
set_option maxHeartbeats 3000000
/-! checks: what is an integer, a tuple; need_person. -/
namespace OV
open PySem PySem.Spec PyProof.Rows L2
theorem scInt : FnScope ["value"] ["value"] (defScope sInt) := ⟨rfl, rfl, rfl, by decide +kernel, rfl, by decide +kernel, by decide +kernel⟩
theorem scIn : FnScope ["value", "least", "most"] ["value", "least", "most"] (defScope sIn) := ⟨rfl, rfl, rfl, by decide +kernel, rfl, by decide +kernel, by decide +kernel⟩
theorem scLst : FnScope ["value", "least", "most"] ["value", "least", "most"] (defScope sLst) := ⟨rfl, rfl, rfl, by decide +kernel, rfl, by decide +kernel, by decide +kernel⟩
theorem scNeedP : FnScope ["line", "person"] ["line", "person"] (defScope sNeedP) := ⟨rfl, rfl, rfl, by decide +kernel, rfl, by decide +kernel, by decide +kernel⟩
def spInt : Sp := fun vs H Q _ => ∃ i : Int, vs = [.int i] ∧ Q (.bl true) H
def spIn : Sp := fun vs H Q _ => ∃ i a b : Int, vs = [.int i, .int a, .int b] ∧ Q (.bl (decide (a ≤ i ∧ i ≤ b))) H
def spLst : Sp := fun vs H Q _ => ∃ (a : Addr) (L : List Int) (lo hi : Int), vs = [.ref a, .int lo, .int hi] ∧ LnH H a L ∧ Q (.bl (decide (lo ≤ (L.length : Int) ∧ (L.length : Int) ≤ hi))) H
/-- the names of the top that a body calls -/
structure Bi (mg : Str → Option Value) : Prop where
  isinstance : mg "isinstance" = none
  int : mg "int" = none
  bool : mg "bool" = none
  tuple : mg "tuple" = none
  len : mg "len" = none
  enumerate : mg "enumerate" = none
  sorted : mg "sorted" = none
  range : mg "range" = none
  list : mg "list" = none
  sum : mg "sum" = none
  min : mg "min" = none
  max : mg "max" = none
section
variable {P : Program} {w : World} {K : PySem.W.Frag} {mg : Str → Option Value} {base : Heap}
theorem ok_int {f : Addr} {fd : FuncData} (F : Fun K "is_integer" "is_integer" sInt f fd) (B : Bi mg) : FnOk P w K mg base CX0 1 f fd ["value"] spInt := by
  refine F.ok (k := 0) scInt (fun vs H Q E h => ?_) (fun cdv A outer s H vs Q E hr h => ?_)
  · obtain ⟨i, rfl, _⟩ := h
    rfl
  · obtain ⟨i, rfl, q⟩ := h
    refine ⟨_, pss_one (ps_ret (pe_and
      (pe_callB call_isi (by rfl) B.isinstance (by decide +kernel) (pa_cons (pv 0) (pa_cons (pe_bltn (v := .ty "int") (by rfl) B.int boot_int rfl) pa_nil)))
      (pe_one (pe_not (pe_callB call_isi (by rfl) B.isinstance (by decide +kernel) (pa_cons (pv 0) (pa_cons (pe_bltn (v := .ty "bool") (by rfl) B.bool (by decide +kernel) rfl) pa_nil))))))), ?_⟩
    refine ⟨_, rfl, _, _, _, _, true, rfl, .ty _, .base (.int i), kit_ty (by decide +kernel), _, rfl, iteT ?_⟩
    exact ⟨_, rfl, _, _, _, _, false, rfl, .ty _, .base (.int i), kit_ty (by decide +kernel), _, rfl, q⟩
theorem ok_in {f : Addr} {fd : FuncData} (F : Fun K "is_in" "is_in" sIn f fd) (C : Dn P w K mg base 1 "is_integer" spInt) : FnOk P w K mg base CX0 2 f fd ["value", "least", "most"] spIn := by
  refine F.ok (k := 1) scIn (fun vs H Q E h => ?_) (fun cdv A outer s H vs Q E hr h => ?_)
  · obtain ⟨i, a, b, rfl, _⟩ := h
    rfl
  · obtain ⟨i, a, b, rfl, q⟩ := h
    refine ⟨_, pss_one (ps_ret (pe_and (pe_d C hr (by decide) (pa_cons (pv 0) pa_nil)) (pe_one (pe_chain op_le op_le (pv 1) (pv 0) (pv 2))))), ?_⟩
    refine ⟨_, rfl, i, rfl, _, rfl, iteT ⟨_, rfl, _, rfl, a, i, rfl, rfl, _, rfl, ite2 (fun c => ?_) (fun c => ?_)⟩⟩
    · refine ⟨_, rfl, i, b, rfl, rfl, ?_⟩
      have c' : a ≤ i := of_decide_eq_true c
      have e : decide (i ≤ b) = decide (a ≤ i ∧ i ≤ b) := decide_eq_decide.mpr ⟨fun h => ⟨c', h⟩, fun h => h.2⟩
      show Q (.bl (decide (i ≤ b))) H
      rw [e]
      exact q
    · have c' : ¬ a ≤ i := fun h => c (decide_eq_true h)
      rw [decide_eq_false (fun h => c' h.1)] at q
      exact q
theorem ok_lst {f : Addr} {fd : FuncData} (F : Fun K "is_list" "is_list" sLst f fd) (B : Bi mg) : FnOk P w K mg base CX0 1 f fd ["value", "least", "most"] spLst := by
  refine F.ok (k := 0) scLst (fun vs H Q E h => ?_) (fun cdv A outer s H vs Q E hr h => ?_)
  · obtain ⟨a, L, lo, hi, rfl, _⟩ := h
    rfl
  · obtain ⟨a, L, lo, hi, rfl, ha, q⟩ := h
    have hlen : (L.map V.int).length = L.length := List.length_map ..
    refine ⟨_, pss_one (ps_ret (pe_and
      (pe_callB call_isi (by rfl) B.isinstance (by decide +kernel) (pa_cons (pv 0) (pa_cons (pe_bltn (v := .ty "tuple") (by rfl) B.tuple (by decide +kernel) rfl) pa_nil)))
      (pe_one (pe_chain op_le op_le (pv 1) (pe_callB call_len_seq (by rfl) B.len PySem.boot_len (pa_cons (pv 0) pa_nil)) (pv 2))))), ?_⟩
    refine ⟨_, rfl, _, _, _, _, true, rfl, .ty _, ha.ty, kit_ty (by decide +kernel), _, rfl, iteT ?_⟩
    refine ⟨_, rfl, _, rfl, a, _, rfl, .inr ha.sq, lo, _, rfl, rfl, _, rfl, ?_⟩
    rw [hlen]
    refine ite2 (fun c => ?_) (fun c => ?_)
    · refine ⟨_, rfl, (L.length : Int), hi, rfl, rfl, ?_⟩
      have c' : lo ≤ (L.length : Int) := of_decide_eq_true c
      have e : decide ((L.length : Int) ≤ hi) = decide (lo ≤ (L.length : Int) ∧ (L.length : Int) ≤ hi) := decide_eq_decide.mpr ⟨fun h => ⟨c', h⟩, fun h => h.2⟩
      show Q (.bl (decide ((L.length : Int) ≤ hi))) H
      rw [e]
      exact q
    · have c' : ¬ lo ≤ (L.length : Int) := fun h => c (decide_eq_true h)
      rw [decide_eq_false (fun h => c' h.1)] at q
      exact q
abbrev spNeedP : Sp := spLP fun _ _ v _ _ => v = .non
theorem ok_needP {f : Addr} {fd : FuncData} (F : Fun K "need_person" "need_person" sNeedP f fd) (B : Bi mg) (C : Dn P w K mg base 2 "is_in" spIn) : FnOk P w K mg base CX0 3 f fd ["line", "person"] spNeedP := by
  refine F.ok (k := 2) scNeedP (fun vs H Q E h => ?_) (fun cdv A outer s H vs Q E hr h => ?_)
  · obtain ⟨a, L, p, rfl, _⟩ := h
    rfl
  · obtain ⟨a, L, p, rfl, ha, hL, hp, q⟩ := h
    refine ⟨_, pss_one (ps_if (pt_not (pt_val (pe_d C hr (by decide) (pa_cons (pv 1) (pa_cons pe_int (pa_cons (pe_op op_sub (pe_callB call_len_seq (by rfl) B.len PySem.boot_len (pa_cons (pv 0) pa_nil)) pe_int) pa_nil))))))
      (pss_one ps_never) pss_nil), ?_⟩
    refine ⟨_, rfl, _, rfl, a, _, rfl, .inr ha.sq, _, _, rfl, rfl, p, 0, _, rfl, _, rfl, ?_⟩
    have hm := hL.mem.mp hp
    have e : decide ((0 : Int) ≤ p ∧ p ≤ ((L.map V.int).length : Int) - 1) = true := decide_eq_true (by
      rw [List.length_map]
      omega)
    rw [e]
    exact iteF (q .non H (Same.refl H) rfl)
end
end OV

set_option maxRecDepth 100000
set_option maxHeartbeats 3000000
/-! need_line. -/
namespace OV
open PySem PySem.Spec PyProof.Rows L2
theorem cut_to (xs : List V) {i : Nat} (h : i ≤ xs.length) : cutV xs none (some (i : Int)) = xs.take i := by
  unfold cutV
  rw [HT.sIx_none, HT.sIx_nat, List.drop_zero, Nat.sub_zero, Nat.min_eq_left h]
theorem not_whole {n i : Nat} (h : i < n) : ¬ (HT.sIx n 0 none = 0 ∧ HT.sIx n n (some (i : Int)) = n) := by
  rw [HT.sIx_nat]
  omega
theorem inV_ints {x : Int} {ns : List Int} : inV (.int x) (ns.map V.int) = decide (x ∈ ns) := by
  unfold inV
  rw [List.any_map]
  by_cases h : x ∈ ns
  · rw [decide_eq_true h]
    exact List.any_eq_true.mpr ⟨x, h, beq_self_eq_true x⟩
  · rw [decide_eq_false h]
    refine Bool.eq_false_iff.mpr fun z => ?_
    obtain ⟨y, hy, e⟩ := List.any_eq_true.mp z
    have : y = x := eq_of_beq e
    exact h (this ▸ hy)
theorem scNeedL : FnScope ["line", "index", "person"] ["line"] (defScope sNeedL) := ⟨rfl, rfl, rfl, by decide +kernel, rfl, by decide +kernel, by decide +kernel⟩
abbrev spNeedL : Sp := spL fun _ v _ _ => v = .non
section
variable {P : Program} {w : World} {K : PySem.W.Frag} {mg : Str → Option Value} {base : Heap}
theorem ok_needL {f : Addr} {fd : FuncData} {tk : Tok} (F : Fun K "need_line" "need_line" sNeedL f fd) (B : Bi mg) (gM : mg "MOST_PEOPLE" = some (.int 8 tk)) (C : Dn P w K mg base 2 "is_in" spIn) (D : Dn P w K mg base 1 "is_list" spLst) :
    FnOk P w K mg base CX0 3 f fd ["line"] spNeedL := by
  refine F.ok (k := 2) scNeedL (fun vs H Q E h => ?_) (fun cdv A outer s H vs Q E hr h => ?_)
  · obtain ⟨a, L, rfl, _⟩ := h
    rfl
  · obtain ⟨a, L, rfl, ha, hL, q⟩ := h
    refine ⟨_, pss_cons (ps_if (pt_not (pt_val (pe_d D hr (by decide) (pa_cons (pv 0) (pa_cons pe_int (pa_cons (pe_glob (v := .int 8) rfl gM ⟨_, rfl⟩) pa_nil)))))) (pss_one ps_never) pss_nil)
      (pss_one (ps_for PassesOwn.never rfl (pi_enumT (by rfl) B.enumerate (pa_cons (pv 0) pa_nil))
        (pg_tup rfl (pgs_cons (pg_name (i := 1) scNeedL.nd rfl (.inl rfl)) (pgs_cons (pg_name (i := 2) scNeedL.nd rfl (.inl rfl)) pgs_nil)))
        (pss_one (ps_if (PW.pt (pw_or (pt_not (pt_val (pe_d C hr (by decide) (pa_cons (pv 2) (pa_cons pe_int (pa_cons (pe_op op_sub (pe_callB call_len_seq (by rfl) B.len PySem.boot_len (pa_cons (pv 0) pa_nil)) pe_int) pa_nil))))))
            (pw_or1 (pt_cmpR op_in_seq (pv 2) (pe_slice sl_tup (pv 0) po_none (po_some (pv 1))) (by rfl)))))
          (pss_one ps_never) pss_nil)))), ?_⟩
    have hlen : (L.map V.int).length = L.length := List.length_map ..
    refine ⟨.ref a, rfl, a, L, 1, 8, rfl, ha, _, rfl, ?_⟩
    have e : decide ((1 : Int) ≤ (L.length : Int) ∧ (L.length : Int) ≤ 8) = true := decide_eq_true (by
      have := hL.lo
      have := hL.hi
      omega)
    rw [e]
    refine iteF ?_
    refine ⟨.ref a, rfl, a, L.map V.int, rfl, ha.sq, for_enumT (xs := L.map V.int) (fun i σ H' => ∃ y z, σ = [some (.ref a), y, z] ∧ Same H H') ⟨_, _, rfl, Same.refl H⟩ (fun i σ H' h => ?_) ?_ ?_⟩
    · obtain ⟨y, z, _, sm⟩ := h
      exact (ha.mono sm).sq
    · rintro i x T σ H1 hx ⟨y, z, rfl, sm⟩ hT
      have sm2 : Same H (upd H1 T (.tup [.int (i : Nat), x])) := sm.trans (Same.put hT)
      obtain ⟨p, hp, rfl⟩ : ∃ p, L[i]? = some p ∧ x = .int p := by
        rw [List.getElem?_map] at hx
        cases e : L[i]? with
        | none => rw [e] at hx; cases hx
        | some p =>
          rw [e] at hx
          exact ⟨p, rfl, (Option.some.inj hx).symm⟩
      have hi : i < L.length := (List.getElem?_eq_some_iff.mp hp).1
      have hm := hL.mem.mp (List.mem_of_getElem? hp)
      have ha1 := ha.mono sm2
      refine ⟨T, _, rfl, SqT.now upd_same, rfl, _, _, rfl, _, _, rfl, rfl, ?_⟩
      refine ⟨_, rfl, .ref a, rfl, a, _, rfl, .inr (ha1.sq), _, _, rfl, rfl, p, 0, _, rfl, _, rfl, ?_⟩
      have e : decide ((0 : Int) ≤ p ∧ p ≤ ((L.map V.int).length : Int) - 1) = true := decide_eq_true (by
        rw [hlen]
        omega)
      rw [e]
      refine iteF ?_
      refine ⟨.int p, rfl, .ref a, rfl, .int (i : Nat), rfl, _, rfl, a, _, rfl, ha1.sq, ?_, fun u hu => ?_⟩
      · rw [hlen]
        exact not_whole hi
      · rw [cut_to _ (by rw [hlen]; exact Nat.le_of_lt hi), ← List.map_take]
        refine ⟨u, _, rfl, .inr (SqT.now upd_same), rfl, flat_ints _, _, rfl, ?_⟩
        rw [inV_ints]
        have hno : p ∉ L.take i := by
          intro hm
          obtain ⟨j, hj, ej⟩ := List.getElem_of_mem hm
          rw [List.length_take] at hj
          rw [List.getElem_take] at ej
          have h1 := plc_of hL.nd (show L[j]? = some p by rw [List.getElem?_eq_getElem (by omega), ej])
          have h2 := plc_of hL.nd hp
          omega
        show if (if false = true then _ else decide (p ∈ L.take i)) = true then _ else _
        rw [decide_eq_false hno]
        refine iteF ?_
        exact ⟨_, _, rfl, sm2.trans (Same.put hu)⟩
    · rintro σ H1 ⟨y, z, _, sm⟩
      exact q .non H1 sm rfl
end
end OV

set_option maxRecDepth 100000
set_option maxHeartbeats 3000000
/-! shorter_in, shorter_ahead, taller_ahead. -/
namespace OV
open PySem PySem.Spec PyProof.Rows L2
theorem scShr : FnScope ["line", "person", "other"] ["line", "person"] (defScope sShr) := ⟨rfl, rfl, rfl, by decide +kernel, rfl, by decide +kernel, by decide +kernel⟩
theorem scShrA : FnScope ["line", "person"] ["line", "person"] (defScope sShrA) := ⟨rfl, rfl, rfl, by decide +kernel, rfl, by decide +kernel, by decide +kernel⟩
theorem scTal : FnScope ["line", "person", "some", "other"] ["line", "person"] (defScope sTal) := ⟨rfl, rfl, rfl, by decide +kernel, rfl, by decide +kernel, by decide +kernel⟩
abbrev spShr : Sp := spLP fun L p v H H' => NewL v H H' ((shr L p).map V.int)
abbrev spShrA : Sp := spLP fun L p v _ H' => Tup v H' ((shr L p).map V.int)
abbrev spTal : Sp := spLP fun L p v _ _ => v = optV (tal L p).getLast?
theorem filt_step {L : List Int} {f : Int → Bool} {i : Nat} {x : Int} (h : L[i]? = some x) : (L.take (i + 1)).filter f = (L.take i).filter f ++ (if f x = true then [x] else []) := by
  rw [List.take_add_one, List.filter_append, h]
  congr 1
  show [x].filter f = _
  by_cases c : f x = true
  · rw [List.filter_cons_of_pos c, if_pos c, List.filter_nil]
  · rw [List.filter_cons_of_neg c, if_neg c, List.filter_nil]
theorem int_at {L : List Int} {i : Nat} {v : V} (h : (L.map V.int)[i]? = some v) : ∃ x, L[i]? = some x ∧ v = .int x := by
  rw [List.getElem?_map] at h
  cases e : L[i]? with
  | none =>
      rw [e] at h
      cases h
  | some x =>
    rw [e] at h
    exact ⟨x, rfl, (Option.some.inj h).symm⟩
section
variable {P : Program} {w : World} {K : PySem.W.Frag} {mg : Str → Option Value} {base : Heap}
theorem ok_shr {f : Addr} {fd : FuncData} (F : Fun K "shorter_in" "shorter_in" sShr f fd) : FnOk P w K mg base CX0 1 f fd ["line", "person"] spShr := by
  refine F.ok (k := 0) scShr (fun vs H Q E h => ?_) (fun cdv A outer s H vs Q E hr h => ?_)
  · obtain ⟨a, L, p, rfl, _⟩ := h
    rfl
  · obtain ⟨a, L, p, rfl, ha, hL, hp, q⟩ := h
    refine ⟨_, pss_one (ps_ret (pe_lc (own := [("other", 2)]) (g := gName 2) rfl scShr.nd
      (pi_tup (pe_slice sl_tup (pv 0) po_none (po_some (pe_tix (pv 0) (pa_cons (pv 1) pa_nil)))))
      (blkOk_by (own := [("other", 2)]) (N := ["line", "person", "other"]) (sc := defScope sShr) (by decide +kernel))
      (fun _ _ _ _ _ => pg_name (i := 2) scShr.nd rfl (Or.inl rfl)) (fun _ _ _ _ _ => pts_one (pt_cmpR op_lt (pv 2) (pv 1) (nomark _))) (fun _ _ _ _ _ => pv 2))), ?_⟩
    have hlen : (L.map V.int).length = L.length := List.length_map ..
    have hk := (plc_at hp).1
    refine ⟨.ref a, rfl, .ref a, rfl, a, L, rfl, hL.nd, ha, _, rfl, ha, p, rfl, hp, _, rfl, a, _, rfl, ha.sq, ?_, fun t nt => ?_⟩
    · rw [hlen]
      exact not_whole hk
    · rw [cut_to _ (by rw [hlen]; exact Nat.le_of_lt hk), ← List.map_take]
      have s1 : Same H (upd H t (.tup ((ahd L p).map V.int))) := Same.put nt
      refine ⟨t, rfl, ⟨_, SqT.now upd_same⟩, fun D nD => ?_⟩
      have nt' : t ≠ D := ne_of_none upd_same nD
      refine lc_tup (K := K) (a := t) (xs := (ahd L p).map V.int)
        (fun i H' => Same H H' ∧ H' t = some (.tup ((ahd L p).map V.int)) ∧ H' D = some (.lst ((((ahd L p).take i).filter fun x => decide (x < p)).map V.int)))
        ⟨s1.trans (Same.put nD), by rw [upd_ne nt']; exact upd_same, upd_same⟩ (fun i H' _ h => SqT.now h.2.1) ?_ ?_
      · rintro i v H1 hv ⟨sm, ht, hD⟩
        obtain ⟨x, hx, rfl⟩ := int_at hv
        refine ⟨rfl, .int x, rfl, .int p, rfl, x, p, rfl, rfl, _, rfl, ?_⟩
        have step := filt_step (f := fun x => decide (x < p)) hx
        by_cases c : x < p
        · have c' : decide (x < p) = true := decide_eq_true c
          rw [if_pos c'] at step
          rw [c']
          refine iteT ⟨_, rfl, _, hD, ?_, ?_, ?_, ?_⟩
          · rw [List.length_map]
            refine small1000 (Nat.le_trans (List.length_filter_le _ _) ?_)
            rw [List.length_take]
            have := ahd_small L p
            have := hL.hi
            omega
          · exact same_turn sm (s1.free nD)
          · rw [upd_ne nt']
            exact ht
          · rw [upd_same, step, List.map_append]
            rfl
        · have c' : decide (x < p) = false := decide_eq_false c
          rw [if_neg (by rw [c']; exact Bool.false_ne_true), List.append_nil] at step
          rw [c']
          refine iteF ⟨sm, ht, ?_⟩
          rw [step]
          exact hD
      · rintro H1 ⟨sm, ht, hD⟩
        rw [List.length_map, List.take_length] at hD
        exact q (.ref D) H1 sm ⟨D, rfl, s1.free nD, hD⟩
theorem ok_shrA {f : Addr} {fd : FuncData} (F : Fun K "shorter_ahead" "shorter_ahead" sShrA f fd) (B : Bi mg) (N : Dn P w K mg base 3 "need_line" spNeedL) (M : Dn P w K mg base 3 "need_person" spNeedP) (S : Dn P w K mg base 1 "shorter_in" spShr) :
    FnOk P w K mg base CX0 4 f fd ["line", "person"] spShrA := by
  refine F.ok (k := 3) scShrA (fun vs H Q E h => ?_) (fun cdv A outer s H vs Q E hr h => ?_)
  · obtain ⟨a, L, p, rfl, _⟩ := h
    rfl
  · obtain ⟨a, L, p, rfl, ha, hL, hp, q⟩ := h
    refine ⟨_, pss_cons (ps_expr (pe_d N hr (by decide) (pa_cons (pv 0) pa_nil)))
      (pss_cons (ps_expr (pe_d M hr (by decide) (pa_cons (pv 0) (pa_cons (pv 1) pa_nil))))
      (pss_one (ps_ret (pe_callTy call_tuple_of (by rfl) B.tuple (by decide +kernel) (pa_cons (pe_d S hr (by decide) (pa_cons (pv 0) (pa_cons (pv 1) pa_nil))) pa_nil))))), ?_⟩
    refine ⟨.ref a, rfl, a, L, rfl, ha, hL, fun v H1 s1 _ => ?_⟩
    refine ⟨.ref a, rfl, .int p, rfl, a, L, p, rfl, ha.mono s1, hL, hp, fun v H2 s2 _ => ?_⟩
    refine ⟨.ref a, rfl, .int p, rfl, a, L, p, rfl, (ha.mono s1).mono s2, hL, hp, fun v H3 s3 hv => ?_⟩
    obtain ⟨b, rfl, nb, hb⟩ := hv
    refine ⟨b, _, rfl, .inl ⟨SqL.now hb, fun l nl => ?_⟩⟩
    exact q _ _ (((s1.trans s2).trans s3).trans (Same.put nl)) ⟨l, rfl, upd_same⟩
end
end OV

set_option maxRecDepth 100000
set_option maxHeartbeats 3000000
/-! data: ints, empty ones; taller_ahead. -/
namespace OV
open PySem PySem.Spec PyProof.Rows L2
theorem eqv_nilL (ds : List PyData) : PyData.eqv (.list ds) (.list []) = ds.isEmpty := by
  cases ds <;> simp [PyData.eqv, PyData.eqvAll]
theorem eqv_nilT (ds : List PyData) : PyData.eqv (.tuple ds) (.tuple []) = ds.isEmpty := by
  cases ds <;> simp [PyData.eqv, PyData.eqvAll]
theorem dp_ints {K : PySem.W.Frag} {H : Hp} : ∀ ns : List Int, DpAll K H (ns.map V.int) (ns.map PyData.int)
  | [] => .nil
  | n :: ns => .cons (.int n) (dp_ints ns)
theorem lay_ints : ∀ ns : List Int, PyData.canLayAll0 (ns.map PyData.int) = true
  | [] => by
    simp [PyData.canLayAll0]
  | n :: ns => by
    rw [List.map_cons]
    simp [PyData.canLayAll0, PyData.canLay0, lay_ints ns]
theorem deep_ints : ∀ ns : List Int, PyData.depthAll (ns.map PyData.int) = 0
  | [] => by
    simp [PyData.depthAll]
  | n :: ns => by
    rw [List.map_cons]
    simp [PyData.depthAll, PyData.depth, deep_ints ns]
theorem shaped_of {d : PyData} (h1 : d.canLay0 = true) (h2 : d.depth ≤ 64) : SeqAt.shaped d = true := by
  show (d.canLay0 && decide (d.depth ≤ 64)) = true
  rw [h1, decide_eq_true h2]
  rfl
theorem shaped_intsL (ns : List Int) : SeqAt.shaped (.list (ns.map PyData.int)) = true :=
  shaped_of (by simp only [PyData.canLay0]; exact lay_ints ns) (by simp only [PyData.depth, deep_ints]; omega)
theorem shaped_intsT (ns : List Int) : SeqAt.shaped (.tuple (ns.map PyData.int)) = true :=
  shaped_of (by simp only [PyData.canLay0]; exact lay_ints ns) (by simp only [PyData.depth, deep_ints]; omega)
theorem shaped_nilL : SeqAt.shaped (.list []) = true := shaped_intsL []
theorem shaped_nilT : SeqAt.shaped (.tuple []) = true := shaped_intsT []
section
variable {P : Program} {w : World} {K : PySem.W.Frag} {mg : Str → Option Value} {base : Heap}
theorem ok_tal {f : Addr} {fd : FuncData} (F : Fun K "taller_ahead" "taller_ahead" sTal f fd) (N : Dn P w K mg base 3 "need_line" spNeedL) (M : Dn P w K mg base 3 "need_person" spNeedP) :
    FnOk P w K mg base CX0 4 f fd ["line", "person"] spTal := by
  refine F.ok (k := 3) scTal (fun vs H Q E h => ?_) (fun cdv A outer s H vs Q E hr h => ?_)
  · obtain ⟨a, L, p, rfl, _⟩ := h
    rfl
  · obtain ⟨a, L, p, rfl, ha, hL, hp, q⟩ := h
    refine ⟨_, pss_cons (ps_expr (pe_d N hr (by decide) (pa_cons (pv 0) pa_nil)))
      (pss_cons (ps_expr (pe_d M hr (by decide) (pa_cons (pv 0) (pa_cons (pv 1) pa_nil))))
      (pss_cons (ps_setLc (i := 2) (own := [("other", 3)]) (g := gName 3) rfl scTal.nd rfl rfl (sw_true rfl rfl rfl (by decide +kernel))
        (pi_tup (pe_slice sl_tup (pv 0) po_none (po_some (pe_tix (pv 0) (pa_cons (pv 1) pa_nil)))))
        (blkOk_by (own := [("other", 3)]) (N := ["line", "person", "some", "other"]) (sc := defScope sTal) (by decide +kernel))
        (fun _ _ _ _ _ => pg_name (i := 3) scTal.nd rfl (Or.inl rfl)) (fun _ _ _ _ _ => pts_one (pt_cmpR op_gt (pv 3) (pv 1) (nomark _))) (fun _ _ _ _ _ => pv 3))
      (pss_one (ps_ret (pe_ifExp (pt_cmpR (op_neD (hu64 hr)) (pv 2) (pe_lst pa_nil) (nomark _)) (pe_ix ix_list (pv 2) (pe_un un_neg pe_int) (fun _ _ => rfl)) pe_non))))), ?_⟩
    have hlen : (L.map V.int).length = L.length := List.length_map ..
    have hk := (plc_at hp).1
    refine ⟨.ref a, rfl, a, L, rfl, ha, hL, fun v H1 s1 _ => ?_⟩
    refine ⟨.ref a, rfl, .int p, rfl, a, L, p, rfl, ha.mono s1, hL, hp, fun v H2 s2 _ => ?_⟩
    have s12 := s1.trans s2
    have ha2 := ha.mono s12
    refine ⟨.ref a, rfl, .ref a, rfl, a, L, rfl, hL.nd, ha2, _, rfl, ha2, p, rfl, hp, _, rfl, a, _, rfl, ha2.sq, ?_, fun t nt => ?_⟩
    · rw [hlen]
      exact not_whole hk
    · rw [cut_to _ (by rw [hlen]; exact Nat.le_of_lt hk), ← List.map_take]
      have s3 : Same H (upd H2 t (.tup ((ahd L p).map V.int))) := s12.trans (Same.put nt)
      refine ⟨t, rfl, ⟨_, SqT.now upd_same⟩, fun D nD => ?_⟩
      have nt' : t ≠ D := ne_of_none upd_same nD
      have nD0 : H D = none := s3.free nD
      refine lc_tup (K := K) (a := t) (xs := (ahd L p).map V.int)
        (fun i H' => Same H H' ∧ H' t = some (.tup ((ahd L p).map V.int)) ∧ H' D = some (.lst ((((ahd L p).take i).filter fun x => decide (p < x)).map V.int)))
        ⟨s3.trans (Same.put nD), by rw [upd_ne nt']; exact upd_same, upd_same⟩ (fun i H' _ h => SqT.now h.2.1) ?_ ?_
      · rintro i v H3 hv ⟨sm, ht, hD⟩
        obtain ⟨x, hx, rfl⟩ := int_at hv
        refine ⟨rfl, .int x, rfl, .int p, rfl, x, p, rfl, rfl, _, rfl, ?_⟩
        have step := filt_step (f := fun x => decide (p < x)) hx
        by_cases c : p < x
        · have c' : decide (p < x) = true := decide_eq_true c
          rw [if_pos c'] at step
          rw [c']
          refine iteT ⟨_, rfl, _, hD, ?_, same_turn sm nD0, ?_, ?_⟩
          · rw [List.length_map]
            refine small1000 (Nat.le_trans (List.length_filter_le _ _) ?_)
            rw [List.length_take]
            have := ahd_small L p
            have := hL.hi
            omega
          · rw [upd_ne nt']
            exact ht
          · rw [upd_same, step, List.map_append]
            rfl
        · have c' : decide (p < x) = false := decide_eq_false c
          rw [if_neg (by rw [c']; exact Bool.false_ne_true), List.append_nil] at step
          rw [c']
          refine iteF ⟨sm, ht, ?_⟩
          rw [step]
          exact hD
      · rintro H3 ⟨sm, ht, hD⟩
        rw [List.length_map, List.take_length] at hD
        have hD : H3 D = some (.lst ((tal L p).map V.int)) := hD
        -- some != []
        refine ⟨.ref D, rfl, Nat.zero_le _, fun e ne => ?_⟩
        have hD2 : (upd H3 e (.lst [])) D = some (.lst ((tal L p).map V.int)) := by
          rw [upd_ne (ne_of_none hD ne)]
          exact hD
        have sm2 : Same H (upd H3 e (.lst [])) := sm.trans (Same.put ne)
        refine ⟨.list ((tal L p).map PyData.int), .list [], .lst (SqL.now hD2) (dp_ints _), .lst (SqL.now upd_same) .nil, shaped_intsL _, shaped_nilL, _, rfl, ?_⟩
        rw [eqv_nilL]
        cases hT : tal L p with
        | nil =>
          refine iteF ?_
          refine q _ _ sm2 ?_
          show V.non = optV (tal L p).getLast?
          rw [hT]
          rfl
        | cons x r =>
          rw [hT] at hD2
          refine iteT ⟨.ref D, rfl, 1, rfl, D, _, -1, .int ((x :: r).getLast (List.cons_ne_nil _ _)), rfl, rfl, SqL.now hD2, ?_, ?_⟩
          · have hz : (x :: r).map V.int = (x :: r).dropLast.map V.int ++ [.int ((x :: r).getLast (List.cons_ne_nil _ _))] := by
              rw [← List.map_singleton, ← List.map_append, List.dropLast_concat_getLast]
            rw [hz]
            exact atI_last _ _
          · refine q _ _ sm2 ?_
            show V.int _ = optV (tal L p).getLast?
            rw [hT, List.getLast?_eq_getLast (List.cons_ne_nil x r)]
            rfl
end
end OV

set_option maxRecDepth 100000
set_option maxHeartbeats 3000000
/-! wrong_in, count_wrong, wrong_counts. -/
namespace OV
open PySem PySem.Spec PyProof.Rows L2 PySem.W
theorem scWrn : FnScope ["line", "person", "other"] ["line"] (defScope sWrn) := ⟨rfl, rfl, rfl, by decide +kernel, rfl, by decide +kernel, by decide +kernel⟩
theorem scCntW : FnScope ["line"] ["line"] (defScope sCntW) := ⟨rfl, rfl, rfl, by decide +kernel, rfl, by decide +kernel, by decide +kernel⟩
theorem scWrnC : FnScope ["line", "person"] ["line"] (defScope sWrnC) := ⟨rfl, rfl, rfl, by decide +kernel, rfl, by decide +kernel, by decide +kernel⟩
abbrev spWrn : Sp := spL fun L v H H' => ∃ ys : List V, NewL v H H' ys ∧ ys.length = (wrn L).length
abbrev spCntW : Sp := spL fun L v _ _ => v = .int ((wrn L).length : Nat)
abbrev spWrnC : Sp := spL fun L v _ H' => Tup v H' ((ppl L.length).map fun q => .int ((shr L q).length : Nat))
/-- a pair of ints -/
def PrAs (H : Hp) (v : V) (g : Int × Int) : Prop := ∃ t, v = .ref t ∧ H t = some (.tup [.int g.1, .int g.2])
theorem PrAs.mono {H H' : Hp} (s : Same H H') {v : V} {g : Int × Int} (h : PrAs H v g) : PrAs H' v g := let ⟨t, e, h⟩ := h; ⟨t, e, s _ _ h⟩
abbrev PrsAs (H : Hp) : List V → List (Int × Int) → Prop := Paired (PrAs H)
theorem PrsAs.mono {H H' : Hp} (s : Same H H') {vs : List V} {gs : List (Int × Int)} (h : PrsAs H vs gs) : PrsAs H' vs gs := Paired.mapP h fun _ _ q => q.mono s
theorem pr_dp {K : PySem.W.Frag} {H : Hp} : ∀ {vs : List V} {gs : List (Int × Int)}, PrsAs H vs gs → DpAll K H vs (gs.map fun g => .tuple [.int g.1, .int g.2])
  | _, _, .nil => .nil
  | _, _, .cons h t => by
    obtain ⟨a, rfl, h⟩ := h
    exact .cons (.tup (SqT.now h) (.cons (.int _) (.cons (.int _) .nil))) (pr_dp t)
def wrnAt (L : List Int) (k : Nat) : List (Int × Int) := (L.take k).flatMap fun p => (shr L p).map fun o => (o, p)
theorem wrnAt_succ {L : List Int} {k : Nat} {p : Int} (h : L[k]? = some p) : wrnAt L (k + 1) = wrnAt L k ++ (shr L p).map fun o => (o, p) := by
  unfold wrnAt
  rw [List.take_add_one, h, List.flatMap_append]
  simp
theorem wrnAt_all (L : List Int) : wrnAt L L.length = wrn L := by
  unfold wrnAt wrn
  rw [List.take_length]
theorem wrnAt_small (L : List Int) (hL : L.length ≤ 8) : ∀ k, k ≤ L.length → (wrnAt L k).length ≤ 8 * k
  | 0, _ => Nat.zero_le _
  | k + 1, h => by
    have hp : L[k]? = some L[k] := List.getElem?_eq_getElem h
    rw [wrnAt_succ hp, List.length_append, List.length_map]
    have := wrnAt_small L hL k (by omega)
    have := shr_small L L[k]
    omega
theorem map_sub {ns : List Int} {i : Nat} {o p : Int} (h : ns[i]? = some o) : (ns.take (i + 1)).map (fun o => (o, p)) = (ns.take i).map (fun o => (o, p)) ++ [(o, p)] := by
  rw [List.take_add_one, h, List.map_append]
  rfl
section
variable {P : Program} {w : World} {K : PySem.W.Frag} {mg : Str → Option Value} {base : Heap}
theorem ok_wrn {f : Addr} {fd : FuncData} (F : Fun K "wrong_in" "wrong_in" sWrn f fd) (B : Bi mg) (S : Dn P w K mg base 1 "shorter_in" spShr) : FnOk P w K mg base CX0 2 f fd ["line"] spWrn := by
  refine F.ok (k := 1) scWrn (fun vs H Q E h => ?_) (fun cdv A outer s H vs Q E hr h => ?_)
  · obtain ⟨a, L, rfl, _⟩ := h
    rfl
  · obtain ⟨a, L, rfl, ha, hL, q⟩ := h
    refine ⟨_, pss_one (ps_ret (pe_callB (cr_sortD (hu64 hr)) (by rfl) B.sorted (by decide +kernel) (pa_cons
      (pe_lc2 (own := [("person", 1), ("other", 2)]) (vs1 := [2]) (g := gName 1) (g1 := gName 2) (tt := tYes) (tt1 := tYes) (wi1 := iList K (tCall spShr [] E0 (tCons (tVar 0) (tCons (tVar 1) tNil)))) rfl scWrn.nd (pi_tup (pv 0))
        (blkOk_by (own := [("person", 1), ("other", 2)]) (N := ["line", "person", "other"]) (sc := defScope sWrn) (by decide +kernel)) (by decide)
        (fun _ _ _ _ _ => pg_name (i := 1) scWrn.nd rfl (Or.inl rfl)) (fun _ _ _ _ _ => pts_nil)
        (fun _ _ _ _ _ => pi_list (pe_d S hr (by decide) (pa_cons (pv 0) (pa_cons (pv 1) pa_nil))))
        (fun _ _ _ _ _ => pg_name (i := 2) scWrn.nd rfl (Or.inl rfl)) (fun _ _ _ _ _ => pts_nil)
        (fun _ _ _ _ _ => pe_tup (pa_cons (pv 2) (pa_cons (pv 1) pa_nil)))) pa_nil))), ?_⟩
    have hlen : (L.map V.int).length = L.length := List.length_map ..
    refine ⟨.ref a, rfl, a, rfl, ⟨_, ha.sq⟩, fun D nD => ?_⟩
    refine ⟨fun i m H' => m = L.length - i ∧ i ≤ L.length ∧ Same H H' ∧ ∃ vs, H' D = some (.lst vs) ∧ PrsAs H' vs (wrnAt L i), ⟨L.length, rfl, Nat.zero_le _, Same.put nD, [], upd_same, .nil⟩, ?_⟩
    rintro i m H1 ⟨rfl, hi, sm, vs, hD, hP⟩
    by_cases hlt : i < L.length
    · have hp : L[i]? = some L[i] := List.getElem?_eq_getElem hlt
      have hpm : L[i] ∈ L := List.getElem_mem hlt
      have ha1 := ha.mono sm
      refine .inr ⟨⟨_, _, ha1.sq, by rw [List.getElem?_map, hp]; rfl⟩, fun H' => Same H H' ∧ ∃ vs, H' D = some (.lst vs) ∧ PrsAs H' vs (wrnAt L (i + 1)), fun H' h => ⟨L.length - (i + 1), by omega, rfl, hlt, h⟩, ?_⟩
      rintro v H' ⟨rfl, hf⟩
      have ev : v = .int L[i] := Option.some.inj ((hf _ ha1.sq).symm.trans (by rw [List.getElem?_map, hp]; rfl))
      subst ev
      refine ⟨rfl, ?_⟩
      refine ⟨.ref a, rfl, .int L[i], rfl, a, L, L[i], rfl, ha1, hL, hpm, fun v H2 s2 hv => ?_⟩
      obtain ⟨b, rfl, nb, hb⟩ := hv
      have hbD : b ≠ D := fun z => by
        rw [z, hD] at nb
        cases nb
      refine ⟨b, rfl, ⟨_, SqL.now hb⟩, ?_⟩
      refine ⟨fun j k H' => k = (shr L L[i]).length - j ∧ j ≤ (shr L L[i]).length ∧ Same H H' ∧ H' b = some (.lst ((shr L L[i]).map V.int)) ∧ ∃ vs, H' D = some (.lst vs) ∧ PrsAs H' vs (wrnAt L i ++ ((shr L L[i]).take j).map fun o => (o, L[i])),
        ⟨_, rfl, Nat.zero_le _, sm.trans s2, hb, vs, s2 _ _ hD, by rw [List.take_zero, List.map_nil, List.append_nil]; exact hP.mono s2⟩, ?_⟩
      rintro j k H3 ⟨rfl, hj, sm3, hb3, vs3, hD3, hP3⟩
      by_cases hjl : j < (shr L L[i]).length
      · have ho : (shr L L[i])[j]? = some (shr L L[i])[j] := List.getElem?_eq_getElem hjl
        refine .inr ⟨⟨_, _, SqL.now hb3, by rw [List.getElem?_map, ho]; rfl⟩, fun H' => Same H H' ∧ H' b = some (.lst ((shr L L[i]).map V.int)) ∧ ∃ vs, H' D = some (.lst vs) ∧ PrsAs H' vs (wrnAt L i ++ ((shr L L[i]).take (j + 1)).map fun o => (o, L[i])),
          fun H' h => ⟨(shr L L[i]).length - (j + 1), by omega, rfl, hjl, h⟩, ?_⟩
        rintro v H' ⟨rfl, hf⟩
        have ev : v = .int (shr L L[i])[j] := Option.some.inj ((hf _ (SqL.now hb3)).symm.trans (by rw [List.getElem?_map, ho]; rfl))
        subst ev
        refine ⟨rfl, ?_⟩
        refine ⟨_, rfl, _, rfl, (by show 2 ≤ sizeLine; decide), fun t nt => ?_⟩
        have s4 : Same H' (upd H' t (.tup [.int (shr L L[i])[j], .int L[i]])) := Same.put nt
        have htD : D ≠ t := ne_of_none hD3 nt
        have htb : b ≠ t := ne_of_none hb3 nt
        refine ⟨vs3, by rw [upd_ne htD]; exact hD3, ?_, ?_, ?_, vs3 ++ [.ref t], upd_same, ?_⟩
        · have h1 := pair_len hP3
          have h2 := wrnAt_small L hL.hi i hi
          have h3 := shr_small L L[i]
          have h4 := hL.hi
          rw [h1, List.length_append, List.length_map, List.length_take]
          exact small1000 (by omega)
        · exact same_turn (sm3.trans s4) nD
        · rw [upd_ne hbD, upd_ne htb]
          exact hb3
        · rw [map_sub ho, ← List.append_assoc]
          have key : ∀ {v : V} {g : Int × Int}, PrAs (upd H' t (.tup [.int (shr L L[i])[j], .int L[i]])) v g → PrAs (upd (upd H' t (.tup [.int (shr L L[i])[j], .int L[i]])) D (.lst (vs3 ++ [.ref t]))) v g := by
            rintro v g ⟨c, rfl, hc⟩
            refine ⟨c, rfl, ?_⟩
            rw [upd_ne (fun z => by rw [z, upd_ne htD, hD3] at hc; cases hc)]
            exact hc
          exact pair_app (Paired.mapP (hP3.mono s4) fun _ _ => key) (.cons (key ⟨t, rfl, upd_same⟩) .nil)
      · have e : j = (shr L L[i]).length := by omega
        subst e
        refine .inl ⟨⟨_, SqL.now hb3, by rw [List.length_map]; exact Nat.le_refl _⟩, sm3, vs3, hD3, ?_⟩
        rw [List.take_length] at hP3
        rw [wrnAt_succ hp]
        exact hP3
    · have e : i = L.length := by omega
      subst e
      rw [wrnAt_all] at hP
      refine .inl ⟨⟨_, (ha.mono sm).sq, by rw [hlen]; exact Nat.le_refl _⟩, ?_⟩
      have hl := pair_len hP
      have hsm := wrnAt_small L hL.hi L.length (Nat.le_refl _)
      rw [wrnAt_all] at hsm
      have h8 := hL.hi
      refine ⟨D, vs, _, rfl, SqL.now hD, pr_dp hP, ?_, .inl ?_, by omega, ?_, fun ys p hy np => ?_⟩
      · intro d hd d' hd'
        obtain ⟨g, _, rfl⟩ := List.mem_map.mp hd
        obtain ⟨g', _, rfl⟩ := List.mem_map.mp hd'
        simp [alike, alikeAll]
      · intro d hd
        obtain ⟨g, _, rfl⟩ := List.mem_map.mp hd
        exact ⟨_, _, rfl⟩
      · intro d hd
        obtain ⟨g, _, rfl⟩ := List.mem_map.mp hd
        simp [PyData.depth, PyData.depthAll]
      · refine q _ _ (sm.trans (Same.put np)) ⟨ys, ⟨p, rfl, sm.free np, upd_same⟩, ?_⟩
        rw [hy.length_eq, hl]
theorem ok_cntW {f : Addr} {fd : FuncData} (F : Fun K "count_wrong" "count_wrong" sCntW f fd) (B : Bi mg) (N : Dn P w K mg base 3 "need_line" spNeedL) (S : Dn P w K mg base 2 "wrong_in" spWrn) : FnOk P w K mg base CX0 4 f fd ["line"] spCntW := by
  refine F.ok (k := 3) scCntW (fun vs H Q E h => ?_) (fun cdv A outer s H vs Q E hr h => ?_)
  · obtain ⟨a, L, rfl, _⟩ := h
    rfl
  · obtain ⟨a, L, rfl, ha, hL, q⟩ := h
    refine ⟨_, pss_cons (ps_expr (pe_d N hr (by decide) (pa_cons (pv 0) pa_nil)))
      (pss_one (ps_ret (pe_callB call_len_seq (by rfl) B.len PySem.boot_len (pa_cons (pe_d S hr (by decide) (pa_cons (pv 0) pa_nil)) pa_nil)))), ?_⟩
    refine ⟨.ref a, rfl, a, L, rfl, ha, hL, fun v H1 s1 _ => ?_⟩
    refine ⟨.ref a, rfl, a, L, rfl, ha.mono s1, hL, fun v H2 s2 hv => ?_⟩
    obtain ⟨ys, ⟨b, rfl, nb, hb⟩, hy⟩ := hv
    refine ⟨b, ys, rfl, .inl (SqL.now hb), ?_⟩
    rw [hy]
    exact q _ _ (s1.trans s2) rfl
theorem ok_wrnC {f : Addr} {fd : FuncData} (F : Fun K "wrong_counts" "wrong_counts" sWrnC f fd) (B : Bi mg) (N : Dn P w K mg base 3 "need_line" spNeedL) (S : Dn P w K mg base 1 "shorter_in" spShr) : FnOk P w K mg base CX0 4 f fd ["line"] spWrnC := by
  refine F.ok (k := 3) scWrnC (fun vs H Q E h => ?_) (fun cdv A outer s H vs Q E hr h => ?_)
  · obtain ⟨a, L, rfl, _⟩ := h
    rfl
  · obtain ⟨a, L, rfl, ha, hL, q⟩ := h
    refine ⟨_, pss_cons (ps_expr (pe_d N hr (by decide) (pa_cons (pv 0) pa_nil)))
      (pss_one (ps_ret (pe_callTy call_tuple_of (by rfl) B.tuple (by decide +kernel) (pa_cons
        (pe_lc (own := [("person", 1)]) (g := gName 1) (tt := tYes) rfl scWrnC.nd (pi_range1 rfl B.range (pa_cons (pe_callB call_len_seq (by rfl) B.len PySem.boot_len (pa_cons (pv 0) pa_nil)) pa_nil))
          (blkOk_by (own := [("person", 1)]) (N := ["line", "person"]) (sc := defScope sWrnC) (by decide +kernel))
          (fun _ _ _ _ _ => pg_name (i := 1) scWrnC.nd rfl (Or.inl rfl)) (fun _ _ _ _ _ => pts_nil)
          (fun _ _ _ _ _ => pe_callB (call_len : CallR _ _ (rLen K)) (by rfl) B.len PySem.boot_len (pa_cons (pe_d S hr (by decide) (pa_cons (pv 0) (pa_cons (pv 1) pa_nil))) pa_nil))) pa_nil)))), ?_⟩
    have hlen : (L.map V.int).length = L.length := List.length_map ..
    have h8 := hL.hi
    refine ⟨.ref a, rfl, a, L, rfl, ha, hL, fun v H1 s1 _ => ?_⟩
    refine ⟨.ref a, rfl, a, _, rfl, .inr (ha.mono s1).sq, (L.map V.int).length, rfl, by omega, by rw [hlen]; omega, ?_⟩
    rw [show ((L.map V.int).length : Int).toNat = L.length by rw [hlen]; exact Int.toNat_natCast _]
    intro D nD
    have nD0 : H D = none := s1.free nD
    refine lc_range (lo := 0) (n := L.length) (fun i H' => Same H H' ∧ H' D = some (.lst ((ppl i).map fun q => .int ((shr L q).length : Nat)))) ⟨s1.trans (Same.put nD), upd_same⟩ ?_ ?_
    · rintro i H2 hi ⟨sm, hD⟩
      refine ⟨rfl, ?_⟩
      refine ⟨.ref a, rfl, _, rfl, a, L, 0 + (i : Int), rfl, ha.mono sm, hL, by rw [Int.zero_add]; exact hL.nat hi, fun v H3 s3 hv => ?_⟩
      obtain ⟨b, rfl, nb, hb⟩ := hv
      refine ⟨b, _, rfl, .inl (SqL.now hb), _, s3 _ _ hD, ?_, same_turn (sm.trans s3) nD0, ?_⟩
      · rw [List.length_map, ppl_len]
        exact small1000 (by omega)
      · rw [upd_same, ppl_succ, List.map_append, List.length_map, Int.zero_add]
        rfl
    · rintro H2 ⟨sm, hD⟩
      refine ⟨D, _, rfl, .inl ⟨SqL.now hD, fun l nl => ?_⟩⟩
      exact q _ _ (sm.trans (Same.put nl)) ⟨l, rfl, upd_same⟩
end
end OV

set_option maxRecDepth 100000
set_option maxHeartbeats 3000000
/-! movers_in, ready. -/
namespace OV
open PySem PySem.Spec PyProof.Rows L2
theorem scMov : FnScope ["line", "at"] ["line"] (defScope sMov) := ⟨rfl, rfl, rfl, by decide +kernel, rfl, by decide +kernel, by decide +kernel⟩
theorem scReady : FnScope ["line", "person"] ["line", "person"] (defScope sReady) := ⟨rfl, rfl, rfl, by decide +kernel, rfl, by decide +kernel, by decide +kernel⟩
abbrev spMov : Sp := spL fun L v H H' => ∃ ns : List Int, NewL v H H' (ns.map V.int) ∧ ns.Perm (mvr L)
abbrev spReady : Sp := spLP fun L p v _ _ => v = .bl (decide (p ∈ mvr L))
def mvrAt (L : List Int) (k : Nat) : List Int := (List.range k).filterMap fun i => if L.getD i 0 < L.getD (i + 1) 0 then some (L.getD (i + 1) 0) else none
theorem mvrAt_small (L : List Int) (k : Nat) : (mvrAt L k).length ≤ k := by
  have h := List.length_filterMap_le (fun i => if L.getD i 0 < L.getD (i + 1) 0 then some (L.getD (i + 1) 0) else none) (List.range k)
  rw [List.length_range] at h
  exact h
theorem mvrAt_succ (L : List Int) (k : Nat) : mvrAt L (k + 1) = mvrAt L k ++ (if L.getD k 0 < L.getD (k + 1) 0 then [L.getD (k + 1) 0] else []) := by
  unfold mvrAt
  rw [List.range_succ, List.filterMap_append]
  congr 1
  by_cases c : L.getD k 0 < L.getD (k + 1) 0
  · rw [if_pos c, List.filterMap_cons, if_pos c]
    rfl
  · rw [if_neg c, List.filterMap_cons, if_neg c]
    rfl
theorem line_at {L : List Int} {i : Nat} (h : i < L.length) : atI (L.map V.int) (i : Int) = some (.int (L.getD i 0)) := by
  refine atI_nat ?_
  rw [List.getElem?_map, List.getElem?_eq_getElem h]
  simp [List.getElem?_eq_getElem h, List.getD]
section
variable {P : Program} {w : World} {K : PySem.W.Frag} {mg : Str → Option Value} {base : Heap}
theorem ok_mov {f : Addr} {fd : FuncData} (F : Fun K "movers_in" "movers_in" sMov f fd) (B : Bi mg) : FnOk P w K mg base CX0 1 f fd ["line"] spMov := by
  refine F.ok (k := 0) scMov (fun vs H Q E h => ?_) (fun cdv A outer s H vs Q E hr h => ?_)
  · obtain ⟨a, L, rfl, _⟩ := h
    rfl
  · obtain ⟨a, L, rfl, ha, hL, q⟩ := h
    refine ⟨_, pss_one (ps_ret (pe_callB cr_sorted (by rfl) B.sorted (by decide +kernel) (pa_cons
      (pe_lc (own := [("at", 1)]) (g := gName 1) rfl scMov.nd (pi_range2 rfl B.range (pa_cons pe_int (pa_cons (pe_callB call_len_seq (by rfl) B.len PySem.boot_len (pa_cons (pv 0) pa_nil)) pa_nil)))
        (blkOk_by (own := [("at", 1)]) (N := ["line", "at"]) (sc := defScope sMov) (by decide +kernel))
        (fun _ _ _ _ _ => pg_name (i := 1) scMov.nd rfl (Or.inl rfl))
        (fun _ _ _ _ _ => pts_one (pt_cmpR op_lt (pe_ix (ix_tup : IxR _ (rIxT K)) (pv 0) (pe_op op_sub (pv 1) pe_int) (fun _ _ => rfl)) (pe_ix (ix_tup : IxR _ (rIxT K)) (pv 0) (pv 1) (fun _ _ => rfl)) (nomark _)))
        (fun _ _ _ _ _ => pe_ix (ix_tup : IxR _ (rIxT K)) (pv 0) (pv 1) (fun _ _ => rfl))) pa_nil))), ?_⟩
    have hlen : (L.map V.int).length = L.length := List.length_map ..
    have h8 := hL.hi
    have h1 := hL.lo
    refine ⟨.ref a, rfl, a, _, rfl, .inr ha.sq, 1, (L.map V.int).length, rfl, ⟨by omega, by omega, by omega, by rw [hlen]; omega⟩, ?_⟩
    rw [show (((L.map V.int).length : Int) - 1).toNat = L.length - 1 by rw [hlen]; omega]
    intro D nD
    refine lc_range (lo := 1) (n := L.length - 1) (fun i H' => Same H H' ∧ H' D = some (.lst ((mvrAt L i).map V.int))) ⟨Same.put nD, upd_same⟩ ?_ ?_
    · rintro i H2 hi ⟨sm, hD⟩
      have e1 : (1 : Int) + (i : Int) - 1 = (i : Int) := by omega
      have e2 : (1 : Int) + (i : Int) = ((i + 1 : Nat) : Int) := by omega
      have sq := (ha.mono sm).sq (K := K)
      have g1 : atI (L.map V.int) ((1 : Int) + (i : Int) - 1) = some (.int (L.getD i 0)) := by
        rw [e1]
        exact line_at (by omega)
      have g2 : atI (L.map V.int) ((1 : Int) + (i : Int)) = some (.int (L.getD (i + 1) 0)) := by
        rw [e2]
        exact line_at (by omega)
      have step := mvrAt_succ L i
      refine ⟨rfl, .ref a, rfl, .int (1 + (i : Int)), rfl, _, _, rfl, rfl, a, _, _, _, rfl, rfl, sq, g1, .ref a, rfl, .int (1 + (i : Int)), rfl, a, _, _, _, rfl, rfl, sq, g2, _, _, rfl, rfl, _, rfl, ite2 (fun c => ?_) (fun c => ?_)⟩
      · have c' : L.getD i 0 < L.getD (i + 1) 0 := of_decide_eq_true c
        rw [if_pos c'] at step
        refine ⟨.ref a, rfl, .int (1 + (i : Int)), rfl, a, _, _, _, rfl, rfl, sq, g2, _, hD, ?_, same_turn sm nD, ?_⟩
        · rw [List.length_map]
          have := mvrAt_small L i
          exact small1000 (by omega)
        · rw [upd_same, step, List.map_append]
          rfl
      · have c' : ¬ L.getD i 0 < L.getD (i + 1) 0 := fun z => c (decide_eq_true z)
        rw [if_neg c', List.append_nil] at step
        refine ⟨sm, ?_⟩
        rw [step]
        exact hD
    · rintro H2 ⟨sm, hD⟩
      have hs := mvrAt_small L (L.length - 1)
      refine ⟨D, _, rfl, SqL.now hD, by omega, fun ns' p hp _ np => ?_⟩
      exact q _ _ (sm.trans (Same.put np)) ⟨ns', ⟨p, rfl, sm.free np, upd_same⟩, hp⟩
theorem ok_ready {f : Addr} {fd : FuncData} (F : Fun K "ready" "ready" sReady f fd) (N : Dn P w K mg base 3 "need_line" spNeedL) (M : Dn P w K mg base 3 "need_person" spNeedP) (S : Dn P w K mg base 1 "movers_in" spMov) :
    FnOk P w K mg base CX0 4 f fd ["line", "person"] spReady := by
  refine F.ok (k := 3) scReady (fun vs H Q E h => ?_) (fun cdv A outer s H vs Q E hr h => ?_)
  · obtain ⟨a, L, p, rfl, _⟩ := h
    rfl
  · obtain ⟨a, L, p, rfl, ha, hL, hp, q⟩ := h
    refine ⟨_, pss_cons (ps_expr (pe_d N hr (by decide) (pa_cons (pv 0) pa_nil)))
      (pss_cons (ps_expr (pe_d M hr (by decide) (pa_cons (pv 0) (pa_cons (pv 1) pa_nil))))
      (pss_one (ps_ret (pe_cmpR op_in_seq (pv 1) (pe_d S hr (by decide) (pa_cons (pv 0) pa_nil)) (by rfl))))), ?_⟩
    refine ⟨.ref a, rfl, a, L, rfl, ha, hL, fun v H1 s1 _ => ?_⟩
    refine ⟨.ref a, rfl, .int p, rfl, a, L, p, rfl, ha.mono s1, hL, hp, fun v H2 s2 _ => ?_⟩
    refine ⟨.int p, rfl, .ref a, rfl, a, L, rfl, (ha.mono s1).mono s2, hL, fun v H3 s3 hv => ?_⟩
    obtain ⟨ns, ⟨b, rfl, nb, hb⟩, hperm⟩ := hv
    refine ⟨b, _, rfl, .inl (SqL.now hb), rfl, flat_ints _, ?_⟩
    show Q (.bl (inV (.int p) (ns.map V.int))) H3
    rw [inV_ints, decide_eq_decide.mpr hperm.mem_iff]
    exact q _ _ ((s1.trans s2).trans s3) rfl
end
end OV

set_option maxRecDepth 100000
set_option maxHeartbeats 3000000
/-! runs_in, runs. -/
namespace OV
open PySem PySem.Spec PyProof.Rows L2
theorem scRunsIn : FnScope ["line", "person", "found", "now", "other"] ["line", "person"] (defScope sRunsIn) := ⟨rfl, rfl, rfl, by decide +kernel, rfl, by decide +kernel, by decide +kernel⟩
theorem scRuns : FnScope ["line", "person"] ["line", "person"] (defScope sRuns) := ⟨rfl, rfl, rfl, by decide +kernel, rfl, by decide +kernel, by decide +kernel⟩
abbrev spRunsIn : Sp := spLP fun L p v H H' => ∃ vs : List V, NewL v H H' vs ∧ RunsAs H' vs (rns L p)
abbrev spRuns : Sp := spLP fun L p v _ H' => ∃ vs : List V, Tup v H' vs ∧ RunsAs H' vs (rns L p)
/-- a list is changed: the runs stand -/
theorem runs_put {H : Hp} {l : Addr} {xs ys : List V} (hl : H l = some (.lst xs)) {vs : List V} {rs : List (List Int)} (h : RunsAs H vs rs) : RunsAs (upd H l (.lst ys)) vs rs :=
  Paired.mapP h fun v r ⟨t, e, ht⟩ => ⟨t, e, by
    rw [upd_ne (ne_of ht hl (by intro z; cases z))]
    exact ht⟩
/-- what the loop still owes: done so far, then the rest -/
structure RunSt (H0 H : Hp) (p : Int) (R : List Int) (i : Nat) (F N : Addr) : Prop where
  sm : Same H0 H
  nF : H0 F = none
  nN : H0 N = none
  ne : F ≠ N
  ex : ∃ (vs : List V) (rs : List (List Int)) (now : List Int), H F = some (.lst vs) ∧ RunsAs H vs rs ∧ H N = some (.lst (now.map V.int)) ∧ now.length ≤ i ∧ rs ++ go p (R.drop i) now = go p R []
theorem drop_at {R : List Int} {i : Nat} {x : Int} (h : R[i]? = some x) : R.drop i = x :: R.drop (i + 1) := by
  obtain ⟨h1, e⟩ := List.getElem?_eq_some_iff.mp h
  rw [List.drop_eq_getElem_cons h1, e]
section
variable {P : Program} {w : World} {K : PySem.W.Frag} {mg : Str → Option Value} {base : Heap}
theorem ok_runsIn {f : Addr} {fd : FuncData} (F : Fun K "runs_in" "runs_in" sRunsIn f fd) (B : Bi mg) : FnOk P w K mg base CX0 1 f fd ["line", "person"] spRunsIn := by
  refine F.ok (k := 0) scRunsIn (fun vs H Q E h => ?_) (fun cdv A outer s H vs Q E hr h => ?_)
  · obtain ⟨a, L, p, rfl, _⟩ := h
    rfl
  · obtain ⟨a, L, p, rfl, ha, hL, hp, q⟩ := h
    refine ⟨_, pss_cons (ps_par (i := 2) (j := 3) rfl scRunsIn.nd rfl rfl (by decide) rfl rfl (pa_cons (pe_lst pa_nil) (pa_cons (pe_lst pa_nil) pa_nil)) (by rfl))
      (pss_cons (ps_for PassesOwn.never rfl (pi_tup (pe_back (pe_slice sl_tup (pv 0) po_none (po_some (pe_tix (pv 0) (pa_cons (pv 1) pa_nil)))))) (pg_name (i := 4) scRunsIn.nd rfl (.inl rfl))
        (pss_one (ps_if (pt_cmpR op_lt (pv 4) (pv 1) (nomark _))
          (pss_one (ps_expr (pe_bm PySem.F.plainAttrs_list PySem.F.slot_list_insert PySem.F.type_list_insert mt_insert (pv 3) (pa_cons pe_int (pa_cons (pv 4) pa_nil)))))
          (pss_one (ps_if (pt_cmpR (op_neD (hu64 hr)) (pv 3) (pe_lst pa_nil) (nomark _))
            (pss_cons (ps_expr (pe_bm PySem.F.plainAttrs_list PySem.F.slot_list_append PySem.F.type_list_append mt_append (pv 2) (pa_cons (pe_callTy call_tuple_of (by rfl) B.tuple (by decide +kernel) (pa_cons (pv 3) pa_nil)) pa_nil)))
              (pss_one (ps_set (i := 3) scRunsIn.nd rfl (.inl rfl) (pe_lst pa_nil))))
            pss_nil)))))
      (pss_one (ps_ret (pe_ifExp (pt_cmpR (op_neD (hu64 hr)) (pv 3) (pe_lst pa_nil) (nomark _))
        (pe_op op_cat (pv 2) (pe_lst (pa_cons (pe_callTy call_tuple_of (by rfl) B.tuple (by decide +kernel) (pa_cons (pv 3) pa_nil)) pa_nil))) (pv 2))))), ?_⟩
    have hlen : (L.map V.int).length = L.length := List.length_map ..
    have hk := (plc_at hp).1
    have h8 := hL.hi
    -- found, now = [], []
    refine ⟨Nat.zero_le _, fun F nF => ⟨Nat.zero_le _, fun N nN => ⟨_, _, rfl, ?_⟩⟩⟩
    have s1 : Same H (upd H F (.lst [])) := Same.put nF
    have s2 : Same H (upd (upd H F (.lst [])) N (.lst [])) := s1.trans (Same.put nN)
    have nN0 : H N = none := s1.free nN
    have hFN : F ≠ N := ne_of_none upd_same nN
    have ha2 := ha.mono s2
    -- line[:place][::-1]
    refine ⟨.ref a, rfl, .ref a, rfl, a, L, rfl, hL.nd, ha2, _, rfl, ha2, p, rfl, hp, _, rfl, a, _, rfl, ha2.sq, ?_, fun t nt => ?_⟩
    · rw [hlen]
      exact not_whole hk
    rw [cut_to _ (by rw [hlen]; exact Nat.le_of_lt hk), ← List.map_take]
    refine ⟨t, _, rfl, SqT.now upd_same, fun u nu => ?_⟩
    rw [← List.map_reverse]
    have s4 := (s2.trans (Same.put nt)).trans (Same.put (o := .tup ((ahd L p).reverse.map V.int)) nu)
    have tF : F ≠ t := ne_of_none (by rw [upd_ne hFN]; exact upd_same) nt
    have tN : N ≠ t := ne_of_none upd_same nt
    have uF : F ≠ u := ne_of_none (by rw [upd_ne tF, upd_ne hFN]; exact upd_same) nu
    have uN : N ≠ u := ne_of_none (by rw [upd_ne tN]; exact upd_same) nu
    have nu0 : u ≠ F := fun z => uF z.symm
    refine ⟨u, rfl, ⟨_, SqT.now upd_same⟩, for_tup (K := K) (a := u) (xs := (ahd L p).reverse.map V.int)
      (fun i σ H' => H' u = some (.tup ((ahd L p).reverse.map V.int)) ∧ ∃ N y, σ = [some (.ref a), some (.int p), some (.ref F), some (.ref N), y] ∧ RunSt H H' p (ahd L p).reverse i F N) ?_ (fun i σ H' _ h => SqT.now h.1) ?_ ?_⟩
    · refine ⟨upd_same, N, _, rfl, s4, nF, nN0, hFN, [], [], [], ?_, .nil, ?_, Nat.le_refl _, rfl⟩
      · show _ = some (HO.lst [])
        rw [upd_ne uF, upd_ne tF, upd_ne hFN]
        exact upd_same
      · show _ = some (HO.lst [])
        rw [upd_ne uN, upd_ne tN]
        exact upd_same
    · -- a turn
      rintro i v σ H1 hv ⟨hu, N, y, rfl, sm, nF, nN, hFN, vs, rs, now, hF, hR, hN, hl, hgo⟩
      obtain ⟨x, hx, rfl⟩ := int_at hv
      have hi : i < 8 := by
        have h1 := (List.getElem?_eq_some_iff.mp hx).1
        rw [List.length_reverse] at h1
        have := ahd_small L p
        omega
      have hvs : vs.length ≤ 9 := by
        have h1 := pair_len hR
        have h2 := go_small p (ahd L p).reverse []
        have h3 : rs.length ≤ (go p (ahd L p).reverse []).length := by
          rw [← hgo, List.length_append]
          omega
        rw [List.length_reverse] at h2
        have := ahd_small L p
        omega
      rw [drop_at hx] at hgo
      refine ⟨.int x, rfl, .int p, rfl, x, p, rfl, rfl, _, rfl, ite2 (fun c => ?_) (fun c => ?_)⟩
      · -- now.insert(0, other)
        have c' : x < p := of_decide_eq_true c
        rw [go_lt c'] at hgo
        refine ⟨.ref N, rfl, .inl ⟨rfl, _, SqL.now hN⟩, .int x, rfl, N, _, 0, .int x, rfl, rfl, hN, ?_, Int.le_refl _, by decide, ?_⟩
        · rw [List.length_map]
          exact small1000 (by omega)
        · refine ⟨?_, N, _, rfl, same_turn sm nN, nF, nN, hFN, vs, rs, x :: now, ?_, runs_put hN hR, upd_same, ?_, hgo⟩
          · rw [upd_ne (ne_of hu hN (by intro z; cases z))]
            exact hu
          · rw [upd_ne hFN]
            exact hF
          · rw [List.length_cons]
            omega
      · have c' : ¬ x < p := fun z => c (decide_eq_true z)
        -- now != []
        refine ⟨.ref N, rfl, Nat.zero_le _, fun e ne => ?_⟩
        have eN : N ≠ e := ne_of_none hN ne
        have eF : F ≠ e := ne_of_none hF ne
        have hNe : (upd H1 e (.lst [])) N = some (.lst (now.map V.int)) := by rw [upd_ne eN]; exact hN
        have hFe : (upd H1 e (.lst [])) F = some (.lst vs) := by rw [upd_ne eF]; exact hF
        have hue : (upd H1 e (.lst [])) u = some (.tup ((ahd L p).reverse.map V.int)) := by rw [upd_ne (ne_of_none hu ne)]; exact hu
        have se : Same H1 (upd H1 e (.lst [])) := Same.put ne
        refine ⟨.list (now.map PyData.int), .list [], .lst (SqL.now hNe) (dp_ints _), .lst (SqL.now upd_same) .nil, shaped_intsL _, shaped_nilL, _, rfl, ?_⟩
        rw [eqv_nilL]
        cases now with
        | nil =>
          rw [go_ge_nil c'] at hgo
          refine iteF ⟨hue, N, _, rfl, sm.trans se, nF, nN, hFN, vs, rs, [], hFe, hR.mono se, hNe, Nat.zero_le _, hgo⟩
        | cons z zs =>
          rw [go_ge c' (by simp)] at hgo
          refine iteT ⟨.ref F, rfl, .inl ⟨rfl, _, SqL.now hFe⟩, .ref N, rfl, N, _, rfl, .inl ⟨SqL.now hNe, fun l nl => ?_⟩⟩
          have sl : Same (upd H1 e (.lst [])) (upd (upd H1 e (.lst [])) l (.tup ((z :: zs).map V.int))) := Same.put nl
          have hFl := sl _ _ hFe
          have hNl := sl _ _ hNe
          refine ⟨F, vs, .ref l, rfl, rfl, hFl, small1000 (by omega), ?_⟩
          -- now = []
          refine ⟨Nat.zero_le _, fun N' nN' => ?_⟩
          have e1 : F ≠ N' := ne_of_none upd_same nN'
          have s5 : Same H (upd (upd (upd H1 e (.lst [])) l (.tup ((z :: zs).map V.int))) F (.lst (vs ++ [.ref l]))) := same_turn ((sm.trans se).trans sl) nF
          have lF : l ≠ F := fun q => by
            rw [q, hFe] at nl
            cases nl
          have lN' : l ≠ N' := ne_of_none (by rw [upd_ne lF]; exact upd_same) nN'
          refine ⟨?_, N', _, rfl, s5.trans (Same.put nN'), nF, s5.free nN', e1, vs ++ [.ref l], rs ++ [z :: zs], [], ?_, ?_, upd_same, Nat.zero_le _, ?_⟩
          · have q1 := sl _ _ hue
            have q2 : u ≠ F := ne_of q1 hFl (by intro q; cases q)
            have q3 : (upd (upd (upd H1 e (.lst [])) l (.tup ((z :: zs).map V.int))) F (.lst (vs ++ [.ref l]))) u = some (.tup ((ahd L p).reverse.map V.int)) := by rw [upd_ne q2]; exact q1
            exact Same.put nN' _ _ q3
          · rw [upd_ne e1]
            exact upd_same
          · have r1 : RunsAs (upd (upd (upd H1 e (.lst [])) l (.tup ((z :: zs).map V.int))) F (.lst (vs ++ [.ref l]))) vs rs := runs_put hFl ((hR.mono se).mono sl)
            refine RunsAs.mono (Same.put nN') (pair_app r1 (.cons ⟨l, rfl, ?_⟩ .nil))
            rw [upd_ne lF]
            exact upd_same
          · rw [List.append_assoc]
            exact hgo
    · -- the end
      rintro σ H1 ⟨hu, N, y, rfl, sm, nF, nN, hFN, vs, rs, now, hF, hR, hN, hl, hgo⟩
      rw [List.length_map, List.drop_length] at hgo
      have hgo : rs ++ go p [] now = rns L p := hgo
      refine ⟨.ref N, rfl, Nat.zero_le _, fun e ne => ?_⟩
      have hNe : (upd H1 e (.lst [])) N = some (.lst (now.map V.int)) := by rw [upd_ne (ne_of_none hN ne)]; exact hN
      have hFe : (upd H1 e (.lst [])) F = some (.lst vs) := by rw [upd_ne (ne_of_none hF ne)]; exact hF
      have se : Same H1 (upd H1 e (.lst [])) := Same.put ne
      refine ⟨.list (now.map PyData.int), .list [], .lst (SqL.now hNe) (dp_ints _), .lst (SqL.now upd_same) .nil, shaped_intsL _, shaped_nilL, _, rfl, ?_⟩
      rw [eqv_nilL]
      cases now with
      | nil =>
        rw [go_nil_nil, List.append_nil] at hgo
        subst hgo
        exact iteF ⟨_, rfl, q _ _ (sm.trans se) ⟨vs, ⟨F, rfl, nF, hFe⟩, hR.mono se⟩⟩
      | cons z zs =>
        rw [go_nil (by simp)] at hgo
        refine iteT ⟨.ref F, rfl, .ref N, rfl, N, _, rfl, .inl ⟨SqL.now hNe, fun l nl => ⟨?_, fun m nm => ?_⟩⟩⟩
        · show 1 ≤ sizeLine
          decide
        · have s5 := (se.trans (Same.put (o := .tup ((z :: zs).map V.int)) nl)).trans (Same.put (o := .lst [.ref l]) nm)
          have hvs : vs.length ≤ 9 := by
            have h1 := pair_len hR
            have h2 := rns_small L p
            rw [← hgo, List.length_append] at h2
            omega
          have lm : l ≠ m := ne_of_none upd_same nm
          refine ⟨F, m, vs, [.ref l], rfl, rfl, s5 _ _ hF, upd_same, ?_, fun c nc => ?_⟩
          · show vs.length + 1 ≤ sizeLine
            exact small8 (by omega)
          · have s6 := s5.trans (Same.put (o := .lst (vs ++ [.ref l])) nc)
            refine q _ _ (sm.trans s6) ⟨vs ++ [.ref l], ⟨c, rfl, (sm.trans s5).free nc, upd_same⟩, ?_⟩
            rw [← hgo]
            refine pair_app (hR.mono s6) (.cons ⟨l, rfl, ?_⟩ .nil)
            refine Same.put nc _ _ ?_
            rw [upd_ne lm]
            exact upd_same
theorem ok_runs {f : Addr} {fd : FuncData} (F : Fun K "runs" "runs" sRuns f fd) (B : Bi mg) (N : Dn P w K mg base 3 "need_line" spNeedL) (M : Dn P w K mg base 3 "need_person" spNeedP) (S : Dn P w K mg base 1 "runs_in" spRunsIn) :
    FnOk P w K mg base CX0 4 f fd ["line", "person"] spRuns := by
  refine F.ok (k := 3) scRuns (fun vs H Q E h => ?_) (fun cdv A outer s H vs Q E hr h => ?_)
  · obtain ⟨a, L, p, rfl, _⟩ := h
    rfl
  · obtain ⟨a, L, p, rfl, ha, hL, hp, q⟩ := h
    refine ⟨_, pss_cons (ps_expr (pe_d N hr (by decide) (pa_cons (pv 0) pa_nil)))
      (pss_cons (ps_expr (pe_d M hr (by decide) (pa_cons (pv 0) (pa_cons (pv 1) pa_nil))))
      (pss_one (ps_ret (pe_callTy call_tuple_of (by rfl) B.tuple (by decide +kernel) (pa_cons (pe_d S hr (by decide) (pa_cons (pv 0) (pa_cons (pv 1) pa_nil))) pa_nil))))), ?_⟩
    refine ⟨.ref a, rfl, a, L, rfl, ha, hL, fun v H1 s1 _ => ?_⟩
    refine ⟨.ref a, rfl, .int p, rfl, a, L, p, rfl, ha.mono s1, hL, hp, fun v H2 s2 _ => ?_⟩
    refine ⟨.ref a, rfl, .int p, rfl, a, L, p, rfl, (ha.mono s1).mono s2, hL, hp, fun v H3 s3 hv => ?_⟩
    obtain ⟨vs, ⟨b, rfl, nb, hb⟩, hR⟩ := hv
    refine ⟨b, vs, rfl, .inl ⟨SqL.now hb, fun l nl => ?_⟩⟩
    exact q _ _ (((s1.trans s2).trans s3).trans (Same.put nl)) ⟨vs, ⟨l, rfl, upd_same⟩, hR.mono (Same.put nl)⟩
end
end OV

set_option maxRecDepth 100000
set_option maxHeartbeats 3000000
/-! counts_in, run_counts, run_sum, parting. -/
namespace OV
open PySem PySem.Spec PyProof.Rows L2
theorem scCtsIn : FnScope ["line", "person"] ["line"] (defScope sCtsIn) := ⟨rfl, rfl, rfl, by decide +kernel, rfl, by decide +kernel, by decide +kernel⟩
theorem scRunC : FnScope ["line"] ["line"] (defScope sRunC) := ⟨rfl, rfl, rfl, by decide +kernel, rfl, by decide +kernel, by decide +kernel⟩
theorem scRunS : FnScope ["line"] ["line"] (defScope sRunS) := ⟨rfl, rfl, rfl, by decide +kernel, rfl, by decide +kernel, by decide +kernel⟩
theorem scPart : FnScope ["line", "person", "found", "run", "at"] ["line", "person"] (defScope sPart) := ⟨rfl, rfl, rfl, by decide +kernel, rfl, by decide +kernel, by decide +kernel⟩
abbrev spCtsIn : Sp := spL fun L v H H' => NewL v H H' ((cts L).map V.int)
abbrev spRunC : Sp := spL fun L v _ H' => Tup v H' ((cts L).map V.int)
abbrev spRunS : Sp := spL fun L v _ _ => v = .int (cts L).sum
abbrev spPart : Sp := spLP fun L p v _ H' => Tup v H' ((rns L p).map fun r => optV (par L p r))
/-- what is read of one run's tuple: its last -/
theorem run_last {r : List Int} (h : r ≠ []) : atI (r.map V.int) (-1) = some (.int (lst r)) := by
  obtain ⟨q, e⟩ := last_at h
  have : r.map V.int = q.map V.int ++ [.int (lst r)] := by
    conv => lhs; rw [e]
    rw [List.map_append]
    rfl
  rw [this]
  exact atI_last _ _
section
variable {P : Program} {w : World} {K : PySem.W.Frag} {mg : Str → Option Value} {base : Heap}
theorem ok_ctsIn {f : Addr} {fd : FuncData} (F : Fun K "counts_in" "counts_in" sCtsIn f fd) (B : Bi mg) (S : Dn P w K mg base 1 "runs_in" spRunsIn) : FnOk P w K mg base CX0 2 f fd ["line"] spCtsIn := by
  refine F.ok (k := 1) scCtsIn (fun vs H Q E h => ?_) (fun cdv A outer s H vs Q E hr h => ?_)
  · obtain ⟨a, L, rfl, _⟩ := h
    rfl
  · obtain ⟨a, L, rfl, ha, hL, q⟩ := h
    refine ⟨_, pss_one (ps_ret
        (pe_lc (own := [("person", 1)]) (g := gName 1) (tt := tYes) rfl scCtsIn.nd (pi_range1 rfl B.range (pa_cons (pe_callB call_len_seq (by rfl) B.len PySem.boot_len (pa_cons (pv 0) pa_nil)) pa_nil))
          (blkOk_by (own := [("person", 1)]) (N := ["line", "person"]) (sc := defScope sCtsIn) (by decide +kernel))
          (fun _ _ _ _ _ => pg_name (i := 1) scCtsIn.nd rfl (Or.inl rfl)) (fun _ _ _ _ _ => pts_nil)
          (fun _ _ _ _ _ => pe_callB (call_len : CallR _ _ (rLen K)) (by rfl) B.len PySem.boot_len (pa_cons (pe_d S hr (by decide) (pa_cons (pv 0) (pa_cons (pv 1) pa_nil))) pa_nil)))), ?_⟩
    have hlen : (L.map V.int).length = L.length := List.length_map ..
    have h8 := hL.hi
    refine ⟨.ref a, rfl, a, _, rfl, .inr ha.sq, (L.map V.int).length, rfl, by omega, by rw [hlen]; omega, ?_⟩
    rw [show ((L.map V.int).length : Int).toNat = L.length by rw [hlen]; exact Int.toNat_natCast _]
    intro D nD
    refine lc_range (lo := 0) (n := L.length) (fun i H' => Same H H' ∧ H' D = some (.lst (((ppl i).map fun q => ((rns L q).length : Int)).map V.int))) ⟨Same.put nD, upd_same⟩ ?_ ?_
    · rintro i H2 hi ⟨sm, hD⟩
      refine ⟨rfl, ?_⟩
      refine ⟨.ref a, rfl, _, rfl, a, L, 0 + (i : Int), rfl, ha.mono sm, hL, by rw [Int.zero_add]; exact hL.nat hi, fun v H3 s3 hv => ?_⟩
      obtain ⟨vs, ⟨b, rfl, nb, hb⟩, hR⟩ := hv
      refine ⟨b, _, rfl, .inl (SqL.now hb), _, s3 _ _ hD, ?_, same_turn (sm.trans s3) nD, ?_⟩
      · rw [List.length_map, List.length_map, ppl_len]
        exact small1000 (by omega)
      · rw [upd_same, ppl_succ, List.map_append, List.map_append, pair_len hR, Int.zero_add]
        rfl
    · rintro H2 ⟨sm, hD⟩
      exact q _ _ sm ⟨D, rfl, nD, hD⟩
theorem ok_runC {f : Addr} {fd : FuncData} (F : Fun K "run_counts" "run_counts" sRunC f fd) (B : Bi mg) (N : Dn P w K mg base 3 "need_line" spNeedL) (S : Dn P w K mg base 2 "counts_in" spCtsIn) : FnOk P w K mg base CX0 4 f fd ["line"] spRunC := by
  refine F.ok (k := 3) scRunC (fun vs H Q E h => ?_) (fun cdv A outer s H vs Q E hr h => ?_)
  · obtain ⟨a, L, rfl, _⟩ := h
    rfl
  · obtain ⟨a, L, rfl, ha, hL, q⟩ := h
    refine ⟨_, pss_cons (ps_expr (pe_d N hr (by decide) (pa_cons (pv 0) pa_nil)))
      (pss_one (ps_ret (pe_callTy call_tuple_of (by rfl) B.tuple (by decide +kernel) (pa_cons (pe_d S hr (by decide) (pa_cons (pv 0) pa_nil)) pa_nil)))), ?_⟩
    refine ⟨.ref a, rfl, a, L, rfl, ha, hL, fun v H1 s1 _ => ?_⟩
    refine ⟨.ref a, rfl, a, L, rfl, ha.mono s1, hL, fun v H2 s2 hv => ?_⟩
    obtain ⟨b, rfl, nb, hb⟩ := hv
    refine ⟨b, _, rfl, .inl ⟨SqL.now hb, fun l nl => ?_⟩⟩
    exact q _ _ ((s1.trans s2).trans (Same.put nl)) ⟨l, rfl, upd_same⟩
theorem ok_runS {f : Addr} {fd : FuncData} (F : Fun K "run_sum" "run_sum" sRunS f fd) (B : Bi mg) (N : Dn P w K mg base 3 "need_line" spNeedL) (S : Dn P w K mg base 2 "counts_in" spCtsIn) : FnOk P w K mg base CX0 4 f fd ["line"] spRunS := by
  refine F.ok (k := 3) scRunS (fun vs H Q E h => ?_) (fun cdv A outer s H vs Q E hr h => ?_)
  · obtain ⟨a, L, rfl, _⟩ := h
    rfl
  · obtain ⟨a, L, rfl, ha, hL, q⟩ := h
    refine ⟨_, pss_cons (ps_expr (pe_d N hr (by decide) (pa_cons (pv 0) pa_nil)))
      (pss_one (ps_ret (pe_callB (cr_sum rfl) (by rfl) B.sum (by decide +kernel) (pa_cons (pe_d S hr (by decide) (pa_cons (pv 0) pa_nil)) pa_nil)))), ?_⟩
    refine ⟨.ref a, rfl, a, L, rfl, ha, hL, fun v H1 s1 _ => ?_⟩
    refine ⟨.ref a, rfl, a, L, rfl, ha.mono s1, hL, fun v H2 s2 hv => ?_⟩
    obtain ⟨b, rfl, nb, hb⟩ := hv
    exact ⟨b, _, rfl, SqL.now hb, q _ _ (s1.trans s2) rfl⟩
theorem ok_part {f : Addr} {fd : FuncData} (F : Fun K "parting" "parting" sPart f fd) (B : Bi mg) (N : Dn P w K mg base 3 "need_line" spNeedL) (M : Dn P w K mg base 3 "need_person" spNeedP) (S : Dn P w K mg base 1 "runs_in" spRunsIn) :
    FnOk P w K mg base CX0 4 f fd ["line", "person"] spPart := by
  refine F.ok (k := 3) scPart (fun vs H Q E h => ?_) (fun cdv A outer s H vs Q E hr h => ?_)
  · obtain ⟨a, L, p, rfl, _⟩ := h
    rfl
  · obtain ⟨a, L, p, rfl, ha, hL, hp, q⟩ := h
    refine ⟨_, pss_cons (ps_expr (pe_d N hr (by decide) (pa_cons (pv 0) pa_nil)))
      (pss_cons (ps_expr (pe_d M hr (by decide) (pa_cons (pv 0) (pa_cons (pv 1) pa_nil))))
      (pss_cons (ps_set (i := 2) scPart.nd rfl (.inl rfl) (pe_lst pa_nil))
      (pss_cons (ps_for PassesOwn.never rfl (pi_list (pe_d S hr (by decide) (pa_cons (pv 0) (pa_cons (pv 1) pa_nil)))) (pg_name (i := 3) scPart.nd rfl (.inl rfl))
        (pss_cons (ps_set (i := 4) scPart.nd rfl (.inl rfl) (pe_op op_add (pe_tix (pv 0) (pa_cons (pe_ix ix_tup (pv 3) (pe_un un_neg pe_int) (fun _ _ => rfl)) pa_nil)) pe_int))
          (pss_one (ps_expr (pe_bm PySem.F.plainAttrs_list PySem.F.slot_list_append PySem.F.type_list_append mt_append (pv 2)
            (pa_cons (pe_ifExp (pt_cmpR op_ne (pe_ix ix_tup (pv 0) (pv 4) (fun _ _ => rfl)) (pv 1) (nomark _)) (pe_ix ix_tup (pv 0) (pv 4) (fun _ _ => rfl)) pe_non) pa_nil))))))
      (pss_one (ps_ret (pe_callTy call_tuple_of (by rfl) B.tuple (by decide +kernel) (pa_cons (pv 2) pa_nil))))))), ?_⟩
    refine ⟨.ref a, rfl, a, L, rfl, ha, hL, fun v H1 s1 _ => ?_⟩
    refine ⟨.ref a, rfl, .int p, rfl, a, L, p, rfl, ha.mono s1, hL, hp, fun v H2 s2 _ => ?_⟩
    refine ⟨Nat.zero_le _, fun D nD => ?_⟩
    have s3 : Same H (upd H2 D (.lst [])) := (s1.trans s2).trans (Same.put nD)
    have nD0 : H D = none := (s1.trans s2).free nD
    refine ⟨.ref a, rfl, .int p, rfl, a, L, p, rfl, ha.mono s3, hL, hp, fun v H4 s4 hv => ?_⟩
    obtain ⟨vs, ⟨b, rfl, nb, hb⟩, hR⟩ := hv
    have hbD : b ≠ D := fun z => by
      rw [z, upd_same] at nb
      cases nb
    refine ⟨b, rfl, ⟨_, SqL.now hb⟩, for_list (K := K) (a := b) (xs := vs)
      (fun i σ H' => ∃ y z, σ = [some (.ref a), some (.int p), some (.ref D), y, z] ∧ Same H H' ∧ H' b = some (.lst vs) ∧ RunsAs H' vs (rns L p) ∧ H' D = some (.lst (((rns L p).take i).map fun r => optV (par L p r))))
      ⟨_, _, rfl, s3.trans s4, hb, hR, by rw [List.take_zero]; exact s4 _ _ upd_same⟩ (fun i σ H' _ ⟨_, _, _, _, h, _⟩ => SqL.now h) ?_ ?_⟩
    · rintro i v σ H5 hv ⟨y, z, rfl, sm, hb5, hR5, hD5⟩
      obtain ⟨r, hr5, t, rfl, ht⟩ := pair_get hR5 hv
      obtain ⟨b5, R⟩ := rns_at hL.nd hp hr5
      have ha5 := ha.mono sm
      have g : atI (L.map V.int) (((plc L (lst r) : Nat) : Int) + 1) = some (.int b5) := by
        rw [show ((plc L (lst r) : Nat) : Int) + 1 = ((plc L (lst r) + 1 : Nat) : Int) by omega]
        refine atI_nat ?_
        rw [List.getElem?_map, R.nx]
        rfl
      have step : ((rns L p).take (i + 1)).map (fun r => optV (par L p r)) = ((rns L p).take i).map (fun r => optV (par L p r)) ++ [optV (par L p r)] := by
        rw [List.take_add_one, hr5, List.map_append]
        rfl
      refine ⟨.ref a, rfl, a, L, rfl, hL.nd, ha5, .ref t, rfl, 1, rfl, t, _, -1, .int (lst r), rfl, rfl, SqT.now ht, run_last R.ne, ha5, lst r, rfl, R.inL, _, 1, rfl, rfl, ?_⟩
      refine ⟨.ref D, rfl, .inl ⟨rfl, _, SqL.now hD5⟩, .ref a, rfl, .int (((plc L (lst r) : Nat) : Int) + 1), rfl, a, _, _, .int b5, rfl, rfl, ha5.sq, g, .int p, rfl, rfl, _, rfl, ?_⟩
      have fin : ∀ v, v = optV (par L p r) → Same H (upd H5 D (.lst (((rns L p).take i).map (fun r => optV (par L p r)) ++ [v]))) ∧ (upd H5 D (.lst (((rns L p).take i).map (fun r => optV (par L p r)) ++ [v]))) b = some (.lst vs) ∧
          RunsAs (upd H5 D (.lst (((rns L p).take i).map (fun r => optV (par L p r)) ++ [v]))) vs (rns L p) ∧ (upd H5 D (.lst (((rns L p).take i).map (fun r => optV (par L p r)) ++ [v]))) D = some (.lst (((rns L p).take (i + 1)).map fun r => optV (par L p r))) := by
        rintro v rfl
        refine ⟨same_turn sm nD0, by rw [upd_ne hbD]; exact hb5, runs_put hD5 hR5, ?_⟩
        rw [upd_same, step]
      have hsz : (((rns L p).take i).map fun r => optV (par L p r)).length < sizeLine := by
        rw [List.length_map, List.length_take]
        have := rns_small L p
        have := hL.hi
        exact small1000 (by omega)
      refine ite2 (fun c => ?_) (fun c => ?_)
      · have c' : b5 ≠ p := fun z => by
          rw [z] at c
          simp at c
        refine ⟨.ref a, rfl, .int (((plc L (lst r) : Nat) : Int) + 1), rfl, a, _, _, .int b5, rfl, rfl, ha5.sq, g, D, _, .int b5, rfl, rfl, hD5, hsz, _, _, rfl, fin _ ?_⟩
        rw [par_some R, if_neg c']
        rfl
      · have c' : b5 = p := by
          by_cases z : b5 = p
          · exact z
          · exact absurd (by simp [z]) c
        refine ⟨D, _, .non, rfl, rfl, hD5, hsz, _, _, rfl, fin _ ?_⟩
        rw [par_some R, if_pos c']
        rfl
    · rintro σ H5 ⟨y, z, rfl, sm, hb5, hR5, hD5⟩
      rw [pair_len hR5, List.take_length] at hD5
      refine ⟨.ref D, rfl, D, _, rfl, .inl ⟨SqL.now hD5, fun l nl => ?_⟩⟩
      exact q _ _ (sm.trans (Same.put nl)) ⟨l, rfl, upd_same⟩
end
end OV

set_option maxRecDepth 100000
set_option maxHeartbeats 3000000
/-! greatest_run. -/
namespace OV
open PySem PySem.Spec PyProof.Rows L2
theorem scBest : FnScope ["line", "person", "some", "many", "run"] ["line"] (defScope sBest) := ⟨rfl, rfl, rfl, by decide +kernel, rfl, by decide +kernel, by decide +kernel⟩
abbrev spBest : Sp := spL fun L v _ H' => (lns L L.length = [] ∧ v = .non) ∨ ∃ (t : Addr) (m k : Int), v = .ref t ∧ H' t = some (.tup [.int m, .int k]) ∧ m ∈ lns L L.length ∧ ∀ y ∈ lns L L.length, y ≤ m
def bst (L : List Int) (k : Nat) : List (Int × Int) := (List.range k).flatMap fun (q : Nat) => (rns L (q : Int)).map fun r => (-(r.length : Int), (q : Int))
theorem bst_succ (L : List Int) (k : Nat) : bst L (k + 1) = bst L k ++ (rns L (k : Int)).map fun r => (-(r.length : Int), (k : Int)) := by
  unfold bst
  rw [List.range_succ, List.flatMap_append]
  simp
theorem bst_fst (L : List Int) : ∀ k, (bst L k).map Prod.fst = (lns L k).map fun z => -z
  | 0 => rfl
  | k + 1 => by
    rw [bst_succ, lns_succ, List.map_append, List.map_append, bst_fst L k, List.map_map, List.map_map]
    rfl
theorem bst_small (L : List Int) (hL : L.length ≤ 8) : ∀ k, (bst L k).length ≤ 9 * k
  | 0 => Nat.zero_le _
  | k + 1 => by
    rw [bst_succ, List.length_append, List.length_map]
    have := bst_small L hL k
    have := rns_small L (k : Int)
    omega
theorem sub_take {α β : Type} {l : List α} {i : Nat} {x : α} (f : α → β) (h : l[i]? = some x) : (l.take (i + 1)).map f = (l.take i).map f ++ [f x] := by
  rw [List.take_add_one, h, List.map_append]
  rfl
def prD2 (g : Int × Int) : PyData := .tuple [.int g.1, .int g.2]
theorem prD2_lay : ∀ gs : List (Int × Int), PyData.canLayAll0 (gs.map prD2) = true
  | [] => by
    simp [PyData.canLayAll0]
  | g :: gs => by
    rw [List.map_cons]
    simp [PyData.canLayAll0, PyData.canLay0, prD2, prD2_lay gs]
theorem prD2_deep : ∀ gs : List (Int × Int), PyData.depthAll (gs.map prD2) ≤ 1
  | [] => by
    simp [PyData.depthAll]
  | g :: gs => by
    have h := prD2_deep gs
    have e : (prD2 g).depth = 1 := by simp [prD2, PyData.depth, PyData.depthAll]
    rw [List.map_cons]
    simp only [PyData.depthAll]
    omega
theorem prD2_shaped (gs : List (Int × Int)) : SeqAt.shaped (.list (gs.map prD2)) = true :=
  shaped_of (by simp only [PyData.canLay0]; exact prD2_lay gs) (by
    have := prD2_deep gs
    simp only [PyData.depth]
    omega)
/-- pairs by their places -/
theorem prs_of {H : Hp} : ∀ {vs : List V} {gs : List (Int × Int)}, PrsAs H vs gs → ∃ ps : List (Addr × Int × Int), vs = ps.map (fun p => .ref p.1) ∧ ps.map Prod.snd = gs ∧ ∀ p ∈ ps, H p.1 = some (prO p)
  | _, _, .nil => ⟨[], rfl, rfl, fun _ h => nomatch h⟩
  | _, _, .cons (a := v) (b := g) h t => by
    obtain ⟨ps, e1, e2, e3⟩ := prs_of t
    obtain ⟨a, rfl, ha⟩ := h
    refine ⟨(a, g) :: ps, by rw [List.map_cons, e1], by rw [List.map_cons, e2], fun p hp => ?_⟩
    rcases List.mem_cons.mp hp with rfl | tl
    · exact ha
    · exact e3 p tl
/-- a list is changed: the pairs stand -/
theorem prs_put {H : Hp} {l : Addr} {xs ys : List V} (hl : H l = some (.lst xs)) {vs : List V} {gs : List (Int × Int)} (h : PrsAs H vs gs) : PrsAs (upd H l (.lst ys)) vs gs :=
  Paired.mapP h fun v r ⟨t, e, ht⟩ => ⟨t, e, by
    rw [upd_ne (ne_of ht hl (by intro z; cases z))]
    exact ht⟩
section
variable {P : Program} {w : World} {K : PySem.W.Frag} {mg : Str → Option Value} {base : Heap}
theorem ok_best {f : Addr} {fd : FuncData} (F : Fun K "greatest_run" "greatest_run" sBest f fd) (B : Bi mg) (N : Dn P w K mg base 3 "need_line" spNeedL) (S : Dn P w K mg base 1 "runs_in" spRunsIn) : FnOk P w K mg base CX0 4 f fd ["line"] spBest := by
  refine F.ok (k := 3) scBest (fun vs H Q E h => ?_) (fun cdv A outer s H vs Q E hr h => ?_)
  · obtain ⟨a, L, rfl, _⟩ := h
    rfl
  · obtain ⟨a, L, rfl, ha, hL, q⟩ := h
    refine ⟨_, pss_cons (ps_expr (pe_d N hr (by decide) (pa_cons (pv 0) pa_nil)))
      (pss_cons (ps_setLc2 (i := 2) (own := [("person", 1), ("run", 4)]) (vs1 := [4]) (g := gName 1) (g1 := gName 4) (tt := tYes) (tt1 := tYes) (wi1 := iList K (tCall spRunsIn [] E0 (tCons (tVar 0) (tCons (tVar 1) tNil)))) rfl scBest.nd rfl rfl (sw_true rfl rfl rfl (by decide +kernel))
        (pi_range1 rfl B.range (pa_cons (pe_callB call_len_seq (by rfl) B.len PySem.boot_len (pa_cons (pv 0) pa_nil)) pa_nil))
        (blkOk_by (own := [("person", 1), ("run", 4)]) (N := ["line", "person", "some", "many", "run"]) (sc := defScope sBest) (by decide +kernel)) (by decide)
        (fun _ _ _ _ _ => pg_name (i := 1) scBest.nd rfl (Or.inl rfl)) (fun _ _ _ _ _ => pts_nil)
        (fun _ _ _ _ _ => pi_list (pe_d S hr (by decide) (pa_cons (pv 0) (pa_cons (pv 1) pa_nil))))
        (fun _ _ _ _ _ => pg_name (i := 4) scBest.nd rfl (Or.inl rfl)) (fun _ _ _ _ _ => pts_nil)
        (fun _ _ _ _ _ => pe_tup (pa_cons (pe_un un_neg (pe_callB (call_len : CallR _ _ (rLen K)) (by rfl) B.len PySem.boot_len (pa_cons (pv 4) pa_nil))) (pa_cons (pv 1) pa_nil))))
      (pss_cons (ps_if (pt_cmpR (op_eqD (hu64 hr)) (pv 2) (pe_lst pa_nil) (nomark _)) (pss_one (ps_ret pe_non)) pss_nil)
      (pss_cons (ps_asg (pe_callB (cr_minP rfl (hu64 hr)) (by rfl) B.min (by decide +kernel) (pa_cons (pv 2) pa_nil))
        (pg_tup rfl (pgs_cons (pg_name (i := 3) scBest.nd rfl (.inl rfl)) (pgs_cons (pg_name (i := 1) scBest.nd rfl (.inl rfl)) pgs_nil))))
      (pss_one (ps_ret (pe_tup (pa_cons (pe_un un_neg (pv 3)) (pa_cons (pv 1) pa_nil)))))))), ?_⟩
    have hlen : (L.map V.int).length = L.length := List.length_map ..
    have h8 := hL.hi
    refine ⟨.ref a, rfl, a, L, rfl, ha, hL, fun v H1 s1 _ => ?_⟩
    refine ⟨.ref a, rfl, a, _, rfl, .inr (ha.mono s1).sq, (L.map V.int).length, rfl, by omega, by rw [hlen]; omega, ?_⟩
    rw [show ((L.map V.int).length : Int).toNat = L.length by rw [hlen]; exact Int.toNat_natCast _]
    intro D nD
    have nD0 : H D = none := s1.free nD
    refine ⟨fun i m H' => m = L.length - i ∧ i ≤ L.length ∧ Same H H' ∧ ∃ vs, H' D = some (.lst vs) ∧ PrsAs H' vs (bst L i), ⟨L.length, rfl, Nat.zero_le _, s1.trans (Same.put nD), [], upd_same, .nil⟩, ?_⟩
    rintro i m H2 ⟨rfl, hi, sm, vs, hD, hP⟩
    by_cases hlt : i < L.length
    · refine .inr ⟨hlt, fun H' => Same H H' ∧ ∃ vs, H' D = some (.lst vs) ∧ PrsAs H' vs (bst L (i + 1)), fun H' h => ⟨L.length - (i + 1), by omega, rfl, hlt, h⟩, ?_⟩
      rintro v H' ⟨rfl, rfl⟩
      refine ⟨rfl, ?_⟩
      have hpm : (0 : Int) + (i : Int) ∈ L := by
        rw [Int.zero_add]
        exact hL.nat hlt
      refine ⟨.ref a, rfl, .int (0 + (i : Int)), rfl, a, L, _, rfl, ha.mono sm, hL, hpm, fun v H3 s3 hv => ?_⟩
      obtain ⟨ws, ⟨b, rfl, nb, hb⟩, hR⟩ := hv
      rw [Int.zero_add] at hR
      have hbD : b ≠ D := fun z => by
        rw [z, hD] at nb
        cases nb
      refine ⟨b, rfl, ⟨_, SqL.now hb⟩, ?_⟩
      refine ⟨fun j k H' => k = ws.length - j ∧ j ≤ ws.length ∧ Same H H' ∧ H' b = some (.lst ws) ∧ RunsAs H' ws (rns L (i : Int)) ∧ ∃ vs, H' D = some (.lst vs) ∧ PrsAs H' vs (bst L i ++ ((rns L (i : Int)).take j).map fun r => (-(r.length : Int), (i : Int))),
        ⟨_, rfl, Nat.zero_le _, sm.trans s3, hb, hR, vs, s3 _ _ hD, by rw [List.take_zero, List.map_nil, List.append_nil]; exact hP.mono s3⟩, ?_⟩
      rintro j k H4 ⟨rfl, hj, sm4, hb4, hR4, vs4, hD4, hP4⟩
      by_cases hjl : j < ws.length
      · have hw : ws[j]? = some ws[j] := List.getElem?_eq_getElem hjl
        obtain ⟨r, hr4, t, et, ht⟩ := pair_get hR4 hw
        refine .inr ⟨⟨_, _, SqL.now hb4, hw⟩, fun H' => Same H H' ∧ H' b = some (.lst ws) ∧ RunsAs H' ws (rns L (i : Int)) ∧ ∃ vs, H' D = some (.lst vs) ∧ PrsAs H' vs (bst L i ++ ((rns L (i : Int)).take (j + 1)).map fun r => (-(r.length : Int), (i : Int))),
          fun H' h => ⟨ws.length - (j + 1), by omega, rfl, hjl, h⟩, ?_⟩
        rintro v H' ⟨rfl, hf⟩
        have ev : v = .ref t := (Option.some.inj ((hf _ (SqL.now hb4)).symm.trans hw)).trans et
        subst ev
        refine ⟨rfl, ?_⟩
        refine ⟨_, rfl, t, _, rfl, .inr (SqT.now ht), _, rfl, _, rfl, (by show 2 ≤ sizeLine; decide), fun u nu => ?_⟩
        rw [List.length_map, Int.zero_add]
        have s5 : Same H' (upd H' u (.tup [.int (-(r.length : Int)), .int (i : Int)])) := Same.put nu
        have huD : D ≠ u := ne_of_none hD4 nu
        have hub : b ≠ u := ne_of_none hb4 nu
        have hDu : (upd H' u (.tup [.int (-(r.length : Int)), .int (i : Int)])) D = some (.lst vs4) := by rw [upd_ne huD]; exact hD4
        refine ⟨vs4, hDu, ?_, same_turn (sm4.trans s5) nD0, ?_, runs_put hDu (hR4.mono s5), vs4 ++ [.ref u], upd_same, ?_⟩
        · have h1 := pair_len hP4
          have h2 := bst_small L hL.hi i
          have h3 := rns_small L (i : Int)
          rw [h1, List.length_append, List.length_map, List.length_take]
          exact small1000 (by omega)
        · rw [upd_ne hbD, upd_ne hub]
          exact hb4
        · rw [sub_take (fun r : List Int => (-(r.length : Int), (i : Int))) hr4, ← List.append_assoc]
          exact prs_put hDu (pair_app (hP4.mono s5) (.cons ⟨u, rfl, upd_same⟩ .nil))
      · have e : j = ws.length := by omega
        subst e
        refine .inl ⟨⟨_, SqL.now hb4, Nat.le_refl _⟩, sm4, vs4, hD4, ?_⟩
        rw [pair_len hR4, List.take_length] at hP4
        rw [bst_succ]
        exact hP4
    · have e : i = L.length := by omega
      subst e
      refine .inl ⟨Nat.le_refl _, ?_⟩
      -- some == []
      refine ⟨.ref D, rfl, Nat.zero_le _, fun e ne => ?_⟩
      have hDe : (upd H2 e (.lst [])) D = some (.lst vs) := by rw [upd_ne (ne_of_none hD ne)]; exact hD
      have se : Same H2 (upd H2 e (.lst [])) := Same.put ne
      have hPe := hP.mono se
      refine ⟨.list ((bst L L.length).map prD2), .list [], .lst (SqL.now hDe) (pr_dp hPe), .lst (SqL.now upd_same) .nil, prD2_shaped _, shaped_nilL, _, rfl, ?_⟩
      rw [eqv_nilL]
      have hfst := bst_fst L L.length
      cases hB : bst L L.length with
      | nil =>
        rw [hB] at hfst
        refine iteT (q _ _ (sm.trans se) (.inl ⟨?_, rfl⟩))
        exact List.map_eq_nil_iff.mp hfst.symm
      | cons g gs =>
        refine iteF ?_
        obtain ⟨ps, rfl, e2, e3⟩ := prs_of hPe
        refine ⟨.ref D, rfl, D, ps, rfl, SqL.now hDe, ?_, e3, fun t m k ht hm hle => ?_⟩
        · intro z
          rw [z, hB] at e2
          cases e2
        · refine ⟨t, _, rfl, SqT.now ht, rfl, _, _, rfl, _, _, rfl, rfl, ?_⟩
          refine ⟨.int m, rfl, m, rfl, .int k, rfl, (by show 2 ≤ sizeLine; decide), fun u nu => ?_⟩
          refine q _ _ ((sm.trans se).trans (Same.put nu)) (.inr ⟨u, -m, k, rfl, upd_same, ?_, fun y hy => ?_⟩)
          · obtain ⟨p, hp, rfl⟩ := hm
            have h1 : p.2 ∈ bst L L.length := by
              rw [← e2]
              exact List.mem_map.mpr ⟨p, hp, rfl⟩
            have h2 : p.2.1 ∈ (lns L L.length).map fun z => -z := by
              rw [← hfst]
              exact List.mem_map.mpr ⟨p.2, h1, rfl⟩
            obtain ⟨z, hz, e⟩ := List.mem_map.mp h2
            have : -p.2.1 = z := by omega
            rw [this]
            exact hz
          · have h1 : -y ∈ (bst L L.length).map Prod.fst := by
              rw [hfst]
              exact List.mem_map.mpr ⟨y, hy, rfl⟩
            obtain ⟨g', hg, eg⟩ := List.mem_map.mp h1
            rw [← e2] at hg
            obtain ⟨p, hp, ep⟩ := List.mem_map.mp hg
            have h3 := hle p hp
            have h4 : p.2.1 = -y := by rw [ep]; exact eg
            omega
end
end OV

set_option maxRecDepth 100000
set_option maxHeartbeats 3000000
/-! run_groups. -/
namespace OV
open PySem PySem.Spec PyProof.Rows L2 PySem.W
theorem scGrp : FnScope ["line", "found", "person", "run"] ["line"] (defScope sGrp) := ⟨rfl, rfl, rfl, by decide +kernel, rfl, by decide +kernel, by decide +kernel⟩
abbrev GrpsAs (H : Hp) : List V → List (Int × List Int) → Prop := Paired (GrpAs H)
theorem GrpsAs.mono {H H' : Hp} (s : Same H H') {vs : List V} {gs : List (Int × List Int)} (h : GrpsAs H vs gs) : GrpsAs H' vs gs := Paired.mapP h fun _ _ q => q.mono s
abbrev spGrp : Sp := spL fun L v _ H' => ∃ (vs : List V) (gs : List (Int × List Int)), Tup v H' vs ∧ GrpsAs H' vs gs ∧ gs.Perm (grp L L.length)
theorem grps_put {H : Hp} {l : Addr} {xs ys : List V} (hl : H l = some (.lst xs)) {vs : List V} {gs : List (Int × List Int)} (h : GrpsAs H vs gs) : GrpsAs (upd H l (.lst ys)) vs gs :=
  Paired.mapP h fun v r ⟨t, u, ns, e, ht, hu, r⟩ => ⟨t, u, ns, e, by
    rw [upd_ne (ne_of ht hl (by intro z; cases z))]
    exact ht, by
    rw [upd_ne (ne_of hu hl (by intro z; cases z))]
    exact hu, r⟩
theorem pair_perm {α β : Type} {R : α → β → Prop} {as cs : List α} (h : cs.Perm as) : ∀ {bs : List β}, Paired R as bs → ∃ ds, ds.Perm bs ∧ Paired R cs ds := by
  induction h with
  | nil => exact fun h => ⟨_, .refl _, h⟩
  | cons x _ ih =>
    intro bs h
    cases h with
    | cons r t =>
      obtain ⟨ds, p, q⟩ := ih t
      exact ⟨_ :: ds, p.cons _, .cons r q⟩
  | swap x y l =>
    intro bs h
    cases h with
    | cons r t =>
      cases t with
      | cons r' t => exact ⟨_ :: _ :: _, .swap _ _ _, .cons r' (.cons r t)⟩
  | trans _ _ ih1 ih2 =>
    intro bs h
    obtain ⟨ds, p, q⟩ := ih2 h
    obtain ⟨es, p', q'⟩ := ih1 q
    exact ⟨es, p'.trans p, q'⟩
/-- the data of a group -/
def grD (q : Int) (ns : List Int) : PyData := .tuple [.int q, .tuple (ns.map PyData.int)]
theorem grD_alike (q q' : Int) (ns ns' : List Int) : alike (grD q ns) (grD q' ns') = true := by
  unfold grD
  simp [alike, alikeAll, PySem.W.alike_ints]
theorem grD_depth (q : Int) (ns : List Int) : (grD q ns).depth = 2 := by
  unfold grD
  simp [PyData.depth, PyData.depthAll, deep_ints]
theorem grps_dp {K : PySem.W.Frag} {H : Hp} : ∀ {vs : List V} {gs : List (Int × List Int)}, GrpsAs H vs gs → ∃ ds : List PyData, DpAll K H vs ds ∧ ∀ d ∈ ds, ∃ q ns, d = grD q ns
  | _, _, .nil => ⟨[], .nil, fun _ h => nomatch h⟩
  | _, _, .cons h t => by
    obtain ⟨ds, h1, h2⟩ := grps_dp (K := K) t
    obtain ⟨a, u, ns, rfl, ha, hu, _⟩ := h
    refine ⟨grD _ ns :: ds, .cons (.tup (SqT.now ha) (.cons (.int _) (.cons (.tup (SqT.now hu) (dp_ints ns)) .nil))) h1, fun d hd => ?_⟩
    rcases List.mem_cons.mp hd with rfl | tl
    · exact ⟨_, ns, rfl⟩
    · exact h2 d tl
def grAt (q : Int) (rs : List (List Int)) : List (Int × List Int) := (rs.filter fun r => decide (1 < r.length)).map fun r => (q, r)
theorem grAt_step {q : Int} {rs : List (List Int)} {j : Nat} {r : List Int} (h : rs[j]? = some r) : grAt q (rs.take (j + 1)) = grAt q (rs.take j) ++ (if 1 < r.length then [(q, r)] else []) := by
  unfold grAt
  rw [List.take_add_one, h, List.filter_append, List.map_append]
  congr 1
  show (([r]).filter fun r => decide (1 < r.length)).map (fun r => (q, r)) = _
  by_cases c : 1 < r.length
  · rw [if_pos c, List.filter_cons_of_pos (by simpa using c)]
    rfl
  · rw [if_neg c, List.filter_cons_of_neg (by simpa using c)]
    rfl
theorem grAt_small (q : Int) (rs : List (List Int)) : (grAt q rs).length ≤ rs.length := by
  unfold grAt
  rw [List.length_map]
  exact List.length_filter_le _ _
theorem grp_small (L : List Int) (hL : L.length ≤ 8) : ∀ k, (grp L k).length ≤ 9 * k
  | 0 => Nat.zero_le _
  | k + 1 => by
    rw [grp_succ, List.length_append]
    have := grp_small L hL k
    have := grAt_small (k : Int) (rns L (k : Int))
    have := rns_small L (k : Int)
    unfold grAt at *
    omega
section
variable {P : Program} {w : World} {K : PySem.W.Frag} {mg : Str → Option Value} {base : Heap}
theorem ok_grp {f : Addr} {fd : FuncData} (F : Fun K "run_groups" "run_groups" sGrp f fd) (B : Bi mg) (N : Dn P w K mg base 3 "need_line" spNeedL) (S : Dn P w K mg base 1 "runs_in" spRunsIn) : FnOk P w K mg base CX0 4 f fd ["line"] spGrp := by
  refine F.ok (k := 3) scGrp (fun vs H Q E h => ?_) (fun cdv A outer s H vs Q E hr h => ?_)
  · obtain ⟨a, L, rfl, _⟩ := h
    rfl
  · obtain ⟨a, L, rfl, ha, hL, q⟩ := h
    refine ⟨_, pss_cons (ps_expr (pe_d N hr (by decide) (pa_cons (pv 0) pa_nil)))
      (pss_cons (ps_set (i := 1) scGrp.nd rfl (.inl rfl) (pe_lst pa_nil))
      (pss_cons (ps_for PassesOwn.never rfl (pi_range1 rfl B.range (pa_cons (pe_callB call_len_seq (by rfl) B.len PySem.boot_len (pa_cons (pv 0) pa_nil)) pa_nil)) (pg_name (i := 2) scGrp.nd rfl (.inl rfl))
        (pss_one (ps_for PassesOwn.never rfl (pi_list (pe_d S hr (by decide) (pa_cons (pv 0) (pa_cons (pv 2) pa_nil)))) (pg_name (i := 3) scGrp.nd rfl (.inl rfl))
          (pss_one (ps_if (pt_cmpR op_gt (pe_callB call_len_seq (by rfl) B.len PySem.boot_len (pa_cons (pv 3) pa_nil)) pe_int (nomark _))
            (pss_one (ps_expr (pe_bm PySem.F.plainAttrs_list PySem.F.slot_list_append PySem.F.type_list_append mt_append (pv 1)
              (pa_cons (pe_tup (pa_cons (pv 2) (pa_cons (pe_callTy call_tuple_of (by rfl) B.tuple (by decide +kernel) (pa_cons (pe_callB cr_sortTI (by rfl) B.sorted (by decide +kernel) (pa_cons (pv 3) pa_nil)) pa_nil)) pa_nil))) pa_nil))))
            pss_nil)))))
      (pss_one (ps_ret (pe_callTy call_tuple_of (by rfl) B.tuple (by decide +kernel) (pa_cons (pe_callB (cr_sortD (hu64 hr)) (by rfl) B.sorted (by decide +kernel) (pa_cons (pv 1) pa_nil)) pa_nil)))))), ?_⟩
    have hlen : (L.map V.int).length = L.length := List.length_map ..
    have h8 := hL.hi
    refine ⟨.ref a, rfl, a, L, rfl, ha, hL, fun v H1 s1 _ => ?_⟩
    refine ⟨Nat.zero_le _, fun D nD => ?_⟩
    have nD0 : H D = none := s1.free nD
    have s2 : Same H (upd H1 D (.lst [])) := s1.trans (Same.put nD)
    refine ⟨.ref a, rfl, a, _, rfl, .inr (ha.mono s2).sq, (L.map V.int).length, rfl, by omega, by rw [hlen]; omega, ?_⟩
    rw [show ((L.map V.int).length : Int).toNat = L.length by rw [hlen]; exact Int.toNat_natCast _]
    refine for_range (lo := 0) (n := L.length) (fun i σ H' => ∃ y z, σ = [some (.ref a), some (.ref D), y, z] ∧ Same H H' ∧ ∃ vs, H' D = some (.lst vs) ∧ GrpsAs H' vs (grp L i)) ⟨_, _, rfl, s2, [], upd_same, .nil⟩ ?_ ?_
    · rintro i σ H3 hi ⟨y, z, rfl, sm, vs, hD, hG⟩
      have hpm : (0 : Int) + (i : Int) ∈ L := by
        rw [Int.zero_add]
        exact hL.nat hi
      refine ⟨.ref a, rfl, .int (0 + (i : Int)), rfl, a, L, _, rfl, ha.mono sm, hL, hpm, fun v H4 s4 hv => ?_⟩
      obtain ⟨ws, ⟨b, rfl, nb, hb⟩, hR⟩ := hv
      rw [Int.zero_add] at hR
      have hbD : b ≠ D := fun z => by
        rw [z, hD] at nb
        cases nb
      refine ⟨b, rfl, ⟨_, SqL.now hb⟩, for_list (K := K) (a := b) (xs := ws)
        (fun j σ H' => ∃ z, σ = [some (.ref a), some (.ref D), some (.int (0 + (i : Int))), z] ∧ Same H H' ∧ H' b = some (.lst ws) ∧ RunsAs H' ws (rns L (i : Int)) ∧ ∃ vs, H' D = some (.lst vs) ∧ GrpsAs H' vs (grp L i ++ grAt (i : Int) ((rns L (i : Int)).take j)))
        ⟨_, rfl, sm.trans s4, hb, hR, vs, s4 _ _ hD, by rw [List.take_zero]; show GrpsAs _ _ (grp L i ++ []); rw [List.append_nil]; exact hG.mono s4⟩ (fun j σ H' _ ⟨_, _, _, h, _⟩ => SqL.now h) ?_ ?_⟩
      · rintro j v σ H5 hv ⟨z, rfl, sm5, hb5, hR5, vs5, hD5, hG5⟩
        obtain ⟨r, hr5, t, rfl, ht⟩ := pair_get hR5 hv
        have step := grAt_step (q := (i : Int)) hr5
        refine ⟨.ref t, rfl, t, _, rfl, .inr (SqT.now ht), _, _, rfl, rfl, _, rfl, ite2 (fun c => ?_) (fun c => ?_)⟩
        · have c' : 1 < r.length := by
            have := of_decide_eq_true c
            rw [List.length_map] at this
            omega
          rw [if_pos c'] at step
          refine ⟨.ref D, rfl, .inl ⟨rfl, _, SqL.now hD5⟩, .int (0 + (i : Int)), rfl, .ref t, rfl, t, r, rfl, SqT.now ht, fun ns' m hp hs nm => ?_⟩
          refine ⟨m, _, rfl, .inl ⟨SqL.now upd_same, fun l nl => ?_⟩⟩
          refine ⟨(by show 2 ≤ sizeLine; decide), fun u nu => ?_⟩
          rw [Int.zero_add]
          have t1 : Same H5 (upd H5 m (.lst (ns'.map V.int))) := Same.put nm
          have t2 := t1.trans (Same.put (o := .tup (ns'.map V.int)) nl)
          have t3 := t2.trans (Same.put (o := .tup [.int (i : Int), .ref l]) nu)
          have hDu := t3 _ _ hD5
          have lu : l ≠ u := ne_of_none upd_same nu
          refine ⟨D, vs5, .ref u, rfl, rfl, hDu, ?_, ?_⟩
          · have h1 := pair_len hG5
            have h2 := grp_small L h8 i
            have h3 := grAt_small (i : Int) ((rns L (i : Int)).take j)
            have h4 := rns_small L (i : Int)
            rw [List.length_take] at h3
            rw [h1, List.length_append]
            exact small1000 (by omega)
          · refine ⟨_, rfl, same_turn (sm5.trans t3) nD0, ?_, runs_put hDu (hR5.mono t3), vs5 ++ [.ref u], upd_same, ?_⟩
            · rw [upd_ne hbD]
              exact t3 _ _ hb5
            · rw [step, ← List.append_assoc]
              exact grps_put hDu (pair_app (hG5.mono t3) (.cons ⟨u, l, ns', rfl, upd_same, by rw [upd_ne lu]; exact upd_same, hp, hs⟩ .nil))
        · have c' : ¬ 1 < r.length := fun z => c (decide_eq_true (by rw [List.length_map]; omega))
          rw [if_neg c', List.append_nil] at step
          refine ⟨_, rfl, sm5, hb5, hR5, vs5, hD5, ?_⟩
          rw [step]
          exact hG5
      · rintro σ H5 ⟨z, rfl, sm5, hb5, hR5, vs5, hD5, hG5⟩
        refine ⟨_, _, rfl, sm5, vs5, hD5, ?_⟩
        rw [pair_len hR5, List.take_length] at hG5
        rw [grp_succ]
        exact hG5
    · rintro σ H3 ⟨y, z, rfl, sm, vs, hD, hG⟩
      obtain ⟨ds, hd, hf⟩ := grps_dp (K := K) hG
      refine ⟨.ref D, rfl, D, vs, ds, rfl, SqL.now hD, hd, ?_, .inl ?_, ?_, ?_, fun ys m hp nm => ?_⟩
      · intro d hd d' hd'
        obtain ⟨q1, n1, rfl⟩ := hf d hd
        obtain ⟨q2, n2, rfl⟩ := hf d' hd'
        exact grD_alike _ _ _ _
      · intro d hd
        obtain ⟨q1, n1, rfl⟩ := hf d hd
        exact ⟨_, _, rfl⟩
      · have h1 := pair_len hG
        have h2 := grp_small L h8 L.length
        omega
      · intro d hd
        obtain ⟨q1, n1, rfl⟩ := hf d hd
        rw [grD_depth]
        decide
      · refine ⟨m, ys, rfl, .inl ⟨SqL.now upd_same, fun l nl => ?_⟩⟩
        have t3 := (Same.put (o := .lst ys) nm).trans (Same.put (o := .tup ys) nl)
        obtain ⟨gs, g1, g2⟩ := pair_perm hp (hG.mono t3)
        exact q _ _ (sm.trans t3) ⟨ys, gs, ⟨l, rfl, upd_same⟩, g2, g1⟩
end
end OV

set_option maxRecDepth 100000
set_option maxHeartbeats 3000000
/-! the draw: one number, a line. -/
namespace OV
open PySem PySem.Spec PyProof.Rows L2
theorem scTaken : FnScope ["_law_row", "_law_many", "_law_found", "_law_cell"] ["_law_row", "_law_many"] (defScope sTaken) := ⟨rfl, rfl, rfl, by decide +kernel, rfl, by decide +kernel, by decide +kernel⟩
theorem scLine : FnScope ["_law_row", "_law_most", "_law_size", "_law_left", "_law_found", "_law_turn"] ["_law_row", "_law_most"] (defScope sLine) := ⟨rfl, rfl, rfl, by decide +kernel, rfl, by decide +kernel, by decide +kernel⟩
/-- the row of the draws at r, over the heap H0 that stood ahead of it -/
def RowAt (K : PySem.W.Frag) (H0 H : Hp) (r : Addr) : Prop := Same H0 H ∧ H0 r = none ∧ ∃ (a : Addr) (ns : List Int) (i : Nat) (x y : Int), SqL K H0 a (ns.map V.int) ∧ H r = some (.lst [.ref a, .int i, .int x, .int y])
def spTaken (K : PySem.W.Frag) : Sp := fun vs H Q _ => ∃ (r : Addr) (m : Int) (H0 : Hp), vs = [.ref r, .int m] ∧ 1 ≤ m ∧ m ≤ 8 ∧ RowAt K H0 H r ∧
  ∀ (v : Int) (H' : Hp), 0 ≤ v → v < m → RowAt K H0 H' r → (∀ b o, b ≠ r → H b = some o → H' b = some o) → Q (.int v) H'
def spLine (K : PySem.W.Frag) : Sp := fun vs H Q _ => ∃ (r : Addr) (H0 : Hp), vs = [.ref r, .int 8] ∧ RowAt K H0 H r ∧ ∀ (l : Addr) (H' : Hp) (L : List Int), Line L → LnH H' l L → Q (.ref l) H'
theorem at4 {a : Addr} {i : Nat} {x y : Int} : atI [V.ref a, .int i, .int x, .int y] 0 = some (.ref a) ∧ atI [V.ref a, .int i, .int x, .int y] 1 = some (.int i) ∧ atI [V.ref a, .int i, .int x, .int y] 2 = some (.int x) ∧ atI [V.ref a, .int i, .int x, .int y] 3 = some (.int y) :=
  ⟨atI_nat (j := 0) rfl, atI_nat (j := 1) rfl, atI_nat (j := 2) rfl, atI_nat (j := 3) rfl⟩
theorem small_div {m : Int} (h1 : 1 ≤ m) (h8 : m ≤ 8) : m ≠ 0 ∧ m.natAbs < 1073741824 := ⟨by omega, by omega⟩
theorem mod_in {x m : Int} (h1 : 1 ≤ m) : 0 ≤ x.fmod m ∧ x.fmod m < m := ⟨Int.fmod_nonneg_of_pos _ (by omega), Int.fmod_lt_of_pos _ (by omega)⟩
section
variable {P : Program} {w : World} {K : PySem.W.Frag} {mg : Str → Option Value} {base : Heap}
theorem ok_taken {f : Addr} {fd : FuncData} (F : Fun K "_law_taken" "_law_taken" sTaken f fd) (B : Bi mg) : FnOk P w K mg base CX0 1 f fd ["_law_row", "_law_many"] (spTaken K) := by
  refine F.ok (k := 0) scTaken (fun vs H Q E h => ?_) (fun cdv A outer s H vs Q E hr h => ?_)
  · obtain ⟨r, m, H0, rfl, _⟩ := h
    rfl
  · obtain ⟨r, m, H0, rfl, m1, m8, ⟨s0, n0, a, ns, i, x, y, hS, hr0⟩, q⟩ := h
    refine ⟨_, pss_cons (ps_if (pt_cmpR op_gt (pe_ix ix_list (pv 0) pe_int (fun _ _ => rfl)) pe_int (nomark _))
        (pss_cons (ps_set (i := 2) scTaken.nd rfl (.inl rfl) (pe_op op_modN (pe_callTy call_int1 (by rfl) B.int (by decide +kernel) (pa_cons (pe_ix ix_list (pv 0) pe_int (fun _ _ => rfl)) pa_nil)) (pv 1)))
        (pss_cons (ps_asg (pe_op op_fdivN (pe_ix ix_list (pv 0) pe_int (fun _ _ => rfl)) (pv 1)) (pg_sub (pv 0) pe_int set_list))
        (pss_one (ps_ret (pv 2))))) pss_nil)
      (pss_cons (ps_asg (pe_op op_add (pe_ix ix_list (pv 0) pe_int (fun _ _ => rfl)) pe_int) (pg_sub (pv 0) pe_int set_list))
      (pss_cons (ps_if (pt_cmpR op_gt (pe_ix ix_list (pv 0) pe_int (fun _ _ => rfl)) (pe_callB call_len_seq (by rfl) B.len PySem.boot_len (pa_cons (pe_ix ix_list (pv 0) pe_int (fun _ _ => rfl)) pa_nil)) (nomark _))
        (pss_cons (ps_asg (pe_op op_modN (pe_callTy call_int1 (by rfl) B.int (by decide +kernel) (pa_cons (pe_op op_add (pe_op op_mul (pe_ix ix_list (pv 0) pe_int (fun _ _ => rfl)) pe_int) pe_int) pa_nil)) pe_int) (pg_sub (pv 0) pe_int set_list))
        (pss_one (ps_ret (pe_op op_modN (pe_callTy call_int1 (by rfl) B.int (by decide +kernel) (pa_cons (pe_op op_fdivN (pe_ix ix_list (pv 0) pe_int (fun _ _ => rfl)) pe_int) pa_nil)) (pv 1))))) pss_nil)
      (pss_cons (ps_set (i := 3) scTaken.nd rfl (.inl rfl) (pe_ix ix_list (pe_ix ix_list (pv 0) pe_int (fun _ _ => rfl)) (pe_op op_sub (pe_ix ix_list (pv 0) pe_int (fun _ _ => rfl)) pe_int) (fun _ _ => rfl)))
      (pss_cons (ps_asg (pe_op op_modN (pe_callTy call_int1 (by rfl) B.int (by decide +kernel) (pa_cons (pe_op op_add (pe_op op_add (pe_op op_mul (pe_ix ix_list (pv 0) pe_int (fun _ _ => rfl)) pe_int) (pv 3)) pe_int) pa_nil)) pe_int) (pg_sub (pv 0) pe_int set_list))
      (pss_cons (ps_if (pt_cmpR op_ge (pv 3) (pe_op op_pow pe_int pe_int) (nomark _))
        (pss_one (ps_asg (pe_op op_fdivN (pv 3) (pv 1)) (pg_sub (pv 0) pe_int set_list))) pss_nil)
      (pss_one (ps_ret (pe_op op_modN (pe_callTy call_int1 (by rfl) B.int (by decide +kernel) (pa_cons (pv 3) pa_nil)) (pv 1))))))))), ?_⟩
    -- what is left of the row behind a store
    have row : ∀ (H1 : Hp) (i' : Nat) (x' y' : Int), Same H0 H1 → (∀ b o, b ≠ r → H b = some o → H1 b = some o) →
        RowAt K H0 (upd H1 r (.lst [.ref a, .int i', .int x', .int y'])) r ∧ ∀ b o, b ≠ r → H b = some o → (upd H1 r (.lst [.ref a, .int i', .int x', .int y'])) b = some o := by
      intro H1 i' x' y' s1 k1
      refine ⟨⟨same_turn s1 n0, n0, a, ns, i', x', y', hS, upd_same⟩, fun b o hb e => ?_⟩
      rw [upd_ne hb]
      exact k1 b o hb e
    have md := @mod_in
    -- if row[3] > 0
    refine ⟨.ref r, rfl, r, _, 3, .int y, rfl, rfl, SqL.now hr0, at4.2.2.2, y, 0, rfl, rfl, _, rfl, ite2 (fun c => ?_) (fun c => ?_)⟩
    · refine ⟨.ref r, rfl, r, _, 3, .int y, rfl, rfl, SqL.now hr0, at4.2.2.2, .inl ⟨y, rfl, .int m, rfl, y, m, rfl, rfl, by omega, ?_⟩⟩
      refine ⟨.ref r, rfl, r, _, 3, .int y, rfl, rfl, SqL.now hr0, at4.2.2.2, .int m, rfl, y, m, rfl, rfl, small_div m1 m8, ?_⟩
      refine ⟨.ref r, rfl, r, _, 3, 3, rfl, rfl, hr0, rfl, ?_⟩
      obtain ⟨w1, w2⟩ := row H i x (y.fdiv m) s0 fun b o _ e => e
      exact ⟨_, rfl, q _ _ (md m1).1 (md m1).2 w1 w2⟩
    · -- row[1] = row[1] + 1
      refine ⟨.ref r, rfl, r, _, 1, .int i, rfl, rfl, SqL.now hr0, at4.2.1, i, 1, rfl, rfl, ?_⟩
      refine ⟨.ref r, rfl, r, _, 1, 1, rfl, rfl, hr0, rfl, ?_⟩
      obtain ⟨⟨s1, _, _⟩, k1⟩ := row H (i + 1) x y s0 fun b o _ e => e
      have e1 : ([V.ref a, .int i, .int x, .int y].set 1 (.int ((i : Int) + 1))) = [V.ref a, .int ((i + 1 : Nat) : Int), .int x, .int y] := by
        rw [show ((i + 1 : Nat) : Int) = (i : Int) + 1 by omega]
        rfl
      show tSeq _ _ _ _ (upd H r (.lst ([V.ref a, .int i, .int x, .int y].set 1 (.int ((i : Int) + 1)))))
      rw [e1]
      have hS1 : SqL K (upd H r (.lst [.ref a, .int ((i + 1 : Nat) : Int), .int x, .int y])) a (ns.map V.int) := s1.seq hS
      have hr1 : (upd H r (.lst [.ref a, .int ((i + 1 : Nat) : Int), .int x, .int y])) r = some (.lst [.ref a, .int ((i + 1 : Nat) : Int), .int x, .int y]) := upd_same
      generalize upd H r (.lst [.ref a, .int ((i + 1 : Nat) : Int), .int x, .int y]) = H1 at s1 k1 hS1 hr1
      refine ⟨.ref r, rfl, r, _, 1, .int ((i + 1 : Nat) : Int), rfl, rfl, SqL.now hr1, at4.2.1, .ref r, rfl, r, _, 0, .ref a, rfl, rfl, SqL.now hr1, at4.1, a, _, rfl, .inl hS1, _, _, rfl, rfl, _, rfl, ite2 (fun c => ?_) (fun c => ?_)⟩
      · refine ⟨.ref r, rfl, r, _, 2, .int x, rfl, rfl, SqL.now hr1, at4.2.2.1, x, 48271, rfl, rfl, .inr (by decide), _, 11, rfl, rfl, .inl ⟨_, rfl, _, 2147483647, rfl, rfl, (show (2147483647 : Int) ≠ 0 by decide), ?_⟩⟩
        refine ⟨.ref r, rfl, r, _, 2, 2, rfl, rfl, hr1, rfl, ?_⟩
        obtain ⟨w1, w2⟩ := row H1 (i + 1) ((x * 48271 + 11).fmod 2147483647) y s1 k1
        have hr2 : (upd H1 r (.lst [.ref a, .int ((i + 1 : Nat) : Int), .int ((x * 48271 + 11).fmod 2147483647), .int y])) r = some (.lst [.ref a, .int ((i + 1 : Nat) : Int), .int ((x * 48271 + 11).fmod 2147483647), .int y]) := upd_same
        refine ⟨.ref r, rfl, r, _, 2, _, rfl, rfl, SqL.now hr2, at4.2.2.1, _, 7, rfl, rfl, ⟨by decide, by decide⟩, .inl ⟨_, rfl, .int m, rfl, _, m, rfl, rfl, by omega, ?_⟩⟩
        exact q _ _ (md m1).1 (md m1).2 w1 w2
      · have c' : ¬ ((ns.map V.int).length : Int) < ((i + 1 : Nat) : Int) := fun z => c (decide_eq_true z)
        rw [List.length_map] at c'
        have hi : i < ns.length := by omega
        have gc : atI (ns.map V.int) (((i + 1 : Nat) : Int) - 1) = some (.int ns[i]) := by
          rw [show ((i + 1 : Nat) : Int) - 1 = ((i : Nat) : Int) by omega]
          refine atI_nat ?_
          rw [List.getElem?_map, List.getElem?_eq_getElem hi]
          rfl
        -- cell = row[0][row[1] - 1]
        refine ⟨.ref r, rfl, r, _, 0, .ref a, rfl, rfl, SqL.now hr1, at4.1, .ref r, rfl, r, _, 1, .int ((i + 1 : Nat) : Int), rfl, rfl, SqL.now hr1, at4.2.1, _, 1, rfl, rfl, a, _, _, .int ns[i], rfl, rfl, hS1, gc, ?_⟩
        refine ⟨.ref r, rfl, r, _, 2, .int x, rfl, rfl, SqL.now hr1, at4.2.2.1, x, 48271, rfl, rfl, .inr (by decide), .int ns[i], rfl, _, ns[i], rfl, rfl, _, 11, rfl, rfl, .inl ⟨_, rfl, _, 2147483647, rfl, rfl, (show (2147483647 : Int) ≠ 0 by decide), ?_⟩⟩
        refine ⟨.ref r, rfl, r, _, 2, 2, rfl, rfl, hr1, rfl, ?_⟩
        obtain ⟨w1, w2⟩ := row H1 (i + 1) ((x * 48271 + ns[i] + 11).fmod 2147483647) y s1 k1
        have hr2 : (upd H1 r (.lst [.ref a, .int ((i + 1 : Nat) : Int), .int ((x * 48271 + ns[i] + 11).fmod 2147483647), .int y])) r = some (.lst [.ref a, .int ((i + 1 : Nat) : Int), .int ((x * 48271 + ns[i] + 11).fmod 2147483647), .int y]) := upd_same
        refine ⟨.int ns[i], rfl, 10, 18, rfl, rfl, ⟨by decide, by decide, by decide⟩, _, _, rfl, rfl, _, rfl, ite2 (fun c => ?_) (fun c => ?_)⟩
        · refine ⟨.int ns[i], rfl, .int m, rfl, ns[i], m, rfl, rfl, small_div m1 m8, ?_⟩
          refine ⟨.ref r, rfl, r, _, 3, 3, rfl, rfl, hr2, rfl, ?_⟩
          refine ⟨.int ns[i], rfl, .inl ⟨_, rfl, .int m, rfl, _, m, rfl, rfl, by omega, ?_⟩⟩
          obtain ⟨w3, w4⟩ := row _ (i + 1) ((x * 48271 + ns[i] + 11).fmod 2147483647) (ns[i].fdiv m) w1.1 w2
          exact q _ _ (md m1).1 (md m1).2 w3 w4
        · exact ⟨.int ns[i], rfl, .inl ⟨_, rfl, .int m, rfl, _, m, rfl, rfl, by omega, q _ _ (md m1).1 (md m1).2 w1 w2⟩⟩
end
end OV

set_option maxRecDepth 100000
set_option maxHeartbeats 3000000
/-! the draw of a line. -/
namespace OV
open PySem PySem.Spec PyProof.Rows L2
theorem rg_ppl (n : Nat) : rgV 0 (n : Int) = (ppl n).map V.int := by
  unfold rgV ppl
  rw [List.map_map, show ((n : Int) - 0).toNat = n by omega]
  refine List.map_congr_left (fun i _ => ?_)
  show V.int (0 + (i : Int)) = V.int (i : Int)
  rw [Int.zero_add]
theorem map_erase {α β : Type} (f : α → β) : ∀ (l : List α) (k : Nat), (l.map f).eraseIdx k = (l.eraseIdx k).map f
  | [], _ => rfl
  | a :: l, 0 => rfl
  | a :: l, k + 1 => by
    show f a :: (l.map f).eraseIdx k = f a :: (l.eraseIdx k).map f
    rw [map_erase f l k]
theorem erase_perm {l : List Int} {k : Nat} (h : k < l.length) : (l[k] :: l.eraseIdx k).Perm l := by
  induction l generalizing k
  with
  | nil => exact absurd h (Nat.not_lt_zero _)
  | cons a l ih =>
    cases k with
    | zero => exact .refl _
    | succ k =>
      have h' : k < l.length := Nat.lt_of_succ_lt_succ h
      show (l[k] :: a :: l.eraseIdx k).Perm (a :: l)
      exact (List.Perm.swap _ _ _).trans ((ih h').cons a)
section
variable {P : Program} {w : World} {K : PySem.W.Frag} {mg : Str → Option Value} {base : Heap}
theorem ok_line {f : Addr} {fd : FuncData} (F : Fun K "_law_line" "_law_line" sLine f fd) (B : Bi mg) (T : Dn P w K mg base 1 "_law_taken" (spTaken K)) : FnOk P w K mg base CX0 2 f fd ["_law_row", "_law_most"] (spLine K) := by
  refine F.ok (k := 1) scLine (fun vs H Q E h => ?_) (fun cdv A outer s H vs Q E hr h => ?_)
  · obtain ⟨r, H0, rfl, _⟩ := h
    rfl
  · obtain ⟨r, H0, rfl, hr0, q⟩ := h
    refine ⟨_, pss_cons (ps_set (i := 2) scLine.nd rfl (.inl rfl) (pe_op op_add pe_int (pe_d T hr (by decide) (pa_cons (pv 0) (pa_cons (pv 1) pa_nil)))))
      (pss_cons (ps_par (i := 3) (j := 4) rfl scLine.nd rfl rfl (by decide) rfl rfl (pa_cons (pe_listRg rfl rfl B.list (prg_1 rfl B.range (pv 2))) (pa_cons (pe_lst pa_nil) pa_nil)) (by rfl))
      (pss_cons (ps_for PassesOwn.never rfl (pi_range1 rfl B.range (pa_cons (pv 2) pa_nil)) (pg_name (i := 5) scLine.nd rfl (.inl rfl))
        (pss_one (ps_expr (pe_bm PySem.F.plainAttrs_list PySem.F.slot_list_append PySem.F.type_list_append mt_append (pv 4)
          (pa_cons (pe_bm PySem.F.plainAttrs_list PySem.F.slot_list_pop PySem.F.type_list_pop mt_popAt (pv 3)
            (pa_cons (pe_d T hr (by decide) (pa_cons (pv 0) (pa_cons (pe_callB call_len_seq (by rfl) B.len PySem.boot_len (pa_cons (pv 3) pa_nil)) pa_nil))) pa_nil)) pa_nil)))))
      (pss_one (ps_ret (pe_callTy call_tupF (by rfl) B.tuple (by decide +kernel) (pa_cons (pv 4) pa_nil)))))), ?_⟩
    -- size
    refine ⟨.ref r, rfl, .int 8, rfl, r, 8, H0, rfl, by decide, by decide, hr0, fun v H1 v0 v8 hr1 _ => ?_⟩
    refine ⟨1, v, rfl, rfl, ?_⟩
    obtain ⟨n, hn, n1, n8⟩ : ∃ n : Nat, 1 + v = (n : Int) ∧ 1 ≤ n ∧ n ≤ 8 := ⟨(1 + v).toNat, by omega, by omega, by omega⟩
    show gName 2 (.int (1 + v)) _ _ _
    rw [hn]
    -- left, found
    refine ⟨.int n, rfl, n, rfl, ⟨by omega, by omega, by omega, by omega, by omega⟩, fun Lf nL => ?_⟩
    rw [rg_ppl]
    refine ⟨Nat.zero_le _, fun Fo nF => ⟨_, _, rfl, ?_⟩⟩
    obtain ⟨s1, n0, a, ns, i0, x0, y0, hS, hrow⟩ := hr1
    have rL : r ≠ Lf := ne_of_none hrow nL
    have LF : Lf ≠ Fo := ne_of_none upd_same nF
    have rF : r ≠ Fo := ne_of_none (by rw [upd_ne rL]; exact hrow) nF
    have nL0 : H0 Lf = none := s1.free nL
    have s2 : Same H0 (upd H1 Lf (.lst ((ppl n).map V.int))) := s1.trans (Same.put nL)
    have nF0 : H0 Fo = none := s2.free nF
    refine ⟨.int n, rfl, n, rfl, by omega, by omega, ?_⟩
    rw [Int.toNat_natCast]
    refine for_range (lo := 0) (n := n) (fun t σ H' => ∃ y, σ = [some (.ref r), some (.int 8), some (.int n), some (.ref Lf), some (.ref Fo), y] ∧ RowAt K H0 H' r ∧
      ∃ ls fs : List Int, H' Lf = some (.lst (ls.map V.int)) ∧ H' Fo = some (.lst (fs.map V.int)) ∧ (fs ++ ls).Perm (ppl n) ∧ fs.length = t ∧ ls.length + t = n)
      ⟨_, rfl, ⟨s2.trans (Same.put nF), n0, a, ns, i0, x0, y0, hS, by rw [upd_ne rF, upd_ne rL]; exact hrow⟩, ppl n, [], by rw [upd_ne LF]; exact upd_same, upd_same, .refl _, rfl, ppl_len n⟩ ?_ ?_
    · rintro t σ H2 ht ⟨y, rfl, hr2, ls, fs, hL, hF, hp, hf, hl⟩
      refine ⟨.ref Fo, rfl, .inl ⟨rfl, _, SqL.now hF⟩, .ref Lf, rfl, .inl ⟨rfl, _, SqL.now hL⟩, .ref r, rfl, .ref Lf, rfl, Lf, _, rfl, .inl (SqL.now hL), ?_⟩
      rw [List.length_map]
      refine ⟨r, (ls.length : Nat), H0, rfl, by omega, by omega, hr2, fun v H3 v0 vl hr3 k3 => ?_⟩
      have hL3 := k3 _ _ rL.symm hL
      have hF3 := k3 _ _ rF.symm hF
      obtain ⟨k, hk, kl⟩ : ∃ k : Nat, v = (k : Int) ∧ k < ls.length := ⟨v.toNat, by omega, by omega⟩
      subst hk
      have hix : ixN (ls.map V.int).length (k : Int) = some k := by
        unfold ixN
        rw [if_pos (by omega), if_pos (by rw [List.length_map]; omega), Int.toNat_natCast]
      have hat : (ls.map V.int)[k]? = some (.int ls[k]) := by
        rw [List.getElem?_map, List.getElem?_eq_getElem kl]
        rfl
      refine ⟨Lf, _, k, k, .int ls[k], rfl, rfl, hL3, by omega, by omega, (ixN_seq hix).1, hat, ?_⟩
      rw [map_erase]
      have hF4 : (upd H3 Lf (.lst ((ls.eraseIdx k).map V.int))) Fo = some (.lst (fs.map V.int)) := by rw [upd_ne LF.symm]; exact hF3
      refine ⟨Fo, _, .int ls[k], rfl, rfl, hF4, ?_, ?_⟩
      · rw [List.length_map]
        exact small1000 (by omega)
      · obtain ⟨s3, _, a3, ns3, i3, x3, y3, hS3, hrow3⟩ := hr3
        refine ⟨_, rfl, ⟨same_turn (same_turn s3 nL0) nF0, n0, a3, ns3, i3, x3, y3, hS3, by rw [upd_ne rF, upd_ne rL]; exact hrow3⟩, ls.eraseIdx k, fs ++ [ls[k]], by rw [upd_ne LF]; exact upd_same, ?_, ?_, ?_, ?_⟩
        · rw [upd_same, List.map_append]
          rfl
        · rw [List.append_assoc]
          exact ((erase_perm kl).append_left fs).trans hp
        · rw [List.length_append, hf]
          rfl
        · rw [List.length_eraseIdx, if_pos kl]
          omega
    · rintro σ H2 ⟨y, rfl, hr2, ls, fs, hL, hF, hp, hf, hl⟩
      have e : ls = [] := List.eq_nil_of_length_eq_zero (by omega)
      subst e
      rw [List.append_nil] at hp
      refine ⟨.ref Fo, rfl, Fo, _, rfl, SqL.now hF, fun l o nl hc hd => ?_⟩
      refine q l _ fs ⟨by omega, by omega, by rw [hf]; exact hp⟩ ⟨o, upd_same, hc, hd⟩
end
end OV

set_option maxRecDepth 100000
set_option maxHeartbeats 3000000
/-! what the law reads: data of runs, ends, groups; the state of its loops. -/
namespace OV
open PySem PySem.Spec PyProof.Rows L2 PySem.W
def optD : Option Int → PyData
  | none => .none
  | some i => .int i
theorem opt_dp {K : PySem.W.Frag} {H : Hp} : ∀ os : List (Option Int), DpAll K H (os.map optV) (os.map optD)
  | [] => .nil
  | none :: os => .cons .non (opt_dp os)
  | some i :: os => .cons (.int i) (opt_dp os)
theorem opt_lay : ∀ os : List (Option Int), PyData.canLayAll0 (os.map optD) = true
  | [] => by
    simp [PyData.canLayAll0]
  | none :: os => by
    rw [List.map_cons]
    simp [PyData.canLayAll0, PyData.canLay0, optD, opt_lay os]
  | some i :: os => by
    rw [List.map_cons]
    simp [PyData.canLayAll0, PyData.canLay0, optD, opt_lay os]
theorem opt_deep : ∀ os : List (Option Int), PyData.depthAll (os.map optD) = 0
  | [] => by
    simp [PyData.depthAll]
  | none :: os => by
    rw [List.map_cons]
    simp [PyData.depthAll, PyData.depth, optD, opt_deep os]
  | some i :: os => by
    rw [List.map_cons]
    simp [PyData.depthAll, PyData.depth, optD, opt_deep os]
theorem opt_shaped (os : List (Option Int)) : SeqAt.shaped (.tuple (os.map optD)) = true :=
  shaped_of (by simp only [PyData.canLay0]; exact opt_lay os) (by simp only [PyData.depth, opt_deep]; omega)
theorem optV_non {o : Option Int} : decide (optV o = .non) = decide (o = none) := by
  cases o with
  | none => rfl
  | some i => rfl
/-! runs as data -/
def runD (r : List Int) : PyData := .tuple (r.map PyData.int)
theorem runs_dp {K : PySem.W.Frag} {H : Hp} : ∀ {vs : List V} {rs : List (List Int)}, RunsAs H vs rs → DpAll K H vs (rs.map runD)
  | _, _, .nil => .nil
  | _, _, .cons h t => by
    obtain ⟨a, rfl, h⟩ := h
    exact .cons (.tup (SqT.now h) (dp_ints _)) (runs_dp t)
theorem runs_lay : ∀ rs : List (List Int), PyData.canLayAll0 (rs.map runD) = true
  | [] => by
    simp [PyData.canLayAll0]
  | r :: rs => by
    rw [List.map_cons]
    simp [PyData.canLayAll0, PyData.canLay0, runD, lay_ints, runs_lay rs]
theorem runs_deep : ∀ rs : List (List Int), PyData.depthAll (rs.map runD) ≤ 1
  | [] => by
    simp [PyData.depthAll]
  | r :: rs => by
    have h := runs_deep rs
    have e : (runD r).depth = 1 := by simp [runD, PyData.depth, deep_ints]
    rw [List.map_cons]
    simp only [PyData.depthAll]
    omega
theorem runs_shaped (rs : List (List Int)) : SeqAt.shaped (.tuple (rs.map runD)) = true :=
  shaped_of (by simp only [PyData.canLay0]; exact runs_lay rs) (by
    have := runs_deep rs
    simp only [PyData.depth]
    omega)
/-! groups as data -/
def GrD (d : PyData) (g : Int × List Int) : Prop := ∃ ns : List Int, d = grD g.1 ns ∧ ns.Perm g.2 ∧ ns.Pairwise (· ≤ ·)
theorem grs_dp {K : PySem.W.Frag} {H : Hp} : ∀ {vs : List V} {gs : List (Int × List Int)}, GrpsAs H vs gs → ∃ ds : List PyData, DpAll K H vs ds ∧ Paired GrD ds gs
  | _, _, .nil => ⟨[], .nil, .nil⟩
  | _, _, .cons h t => by
    obtain ⟨ds, h1, h2⟩ := grs_dp (K := K) t
    obtain ⟨a, u, ns, rfl, ha, hu, hp, hs⟩ := h
    exact ⟨grD _ ns :: ds, .cons (.tup (SqT.now ha) (.cons (.int _) (.cons (.tup (SqT.now hu) (dp_ints ns)) .nil))) h1, .cons ⟨ns, rfl, hp, hs⟩ h2⟩
theorem grD_lay (q : Int) (ns : List Int) : (grD q ns).canLay0 = true := by
  unfold grD
  simp [PyData.canLay0, PyData.canLayAll0, lay_ints]
theorem grs_lay : ∀ {ds : List PyData} {gs : List (Int × List Int)}, Paired GrD ds gs → PyData.canLayAll0 ds = true ∧ PyData.depthAll ds ≤ 2
  | _, _, .nil => by simp [PyData.canLayAll0, PyData.depthAll]
  | _, _, .cons (b := g) h t => by
    obtain ⟨ns, rfl, _⟩ := h
    obtain ⟨h1, h2⟩ := grs_lay t
    have h3 := grD_depth g.1 ns
    constructor
    · simp only [PyData.canLayAll0, grD_lay, h1, Bool.and_self]
    · simp only [PyData.depthAll]
      omega
theorem grs_shaped {ds : List PyData} {gs : List (Int × List Int)} (h : Paired GrD ds gs) : SeqAt.shaped (.tuple ds) = true :=
  shaped_of (by simp only [PyData.canLay0]; exact (grs_lay h).1) (by
    have := (grs_lay h).2
    simp only [PyData.depth]
    omega)
theorem grD_shaped (q : Int) (ns : List Int) : SeqAt.shaped (grD q ns) = true := shaped_of (grD_lay q ns) (by rw [grD_depth]; decide)
theorem grs_in : ∀ {ds : List PyData} {gs : List (Int × List Int)}, Paired GrD ds gs → ∀ {q : Int} {r ns : List Int}, (q, r) ∈ gs → ns.Perm r → ns.Pairwise (· ≤ ·) → (ds.any fun z => PyData.eqv z (grD q ns)) = true
  | _, _, .nil, _, _, _, h, _, _ => nomatch h
  | _, _, .cons h t, q, r, ns, hm, hp, hs => by
    rw [List.any_cons, Bool.or_eq_true]
    rcases List.mem_cons.mp hm with e | tl
    · left
      obtain ⟨ms, rfl, hp2, hs2⟩ := h
      subst e
      have e : ms = ns := List.Perm.eq_of_pairwise (fun x y _ _ h1 h2 => Int.le_antisymm h1 h2) hs2 hs (hp2.trans hp.symm)
      rw [e]
      exact SeqAt.eqv_refl _ (grD_lay _ _)
    · right
      exact grs_in t tl hp hs
/-! the state of the law -/
structure LawSt (H : Hp) (l D G : Addr) (L : List Int) (gvs : List V) (zs : List Int) : Prop where
  ln : LnH H l L
  gt : H G = some (.tup gvs)
  gr : ∃ gs : List (Int × List Int), GrpsAs H gvs gs ∧ gs.Perm (grp L L.length)
  ls : H D = some (.lst (zs.map V.int))
theorem LawSt.mono {H H' : Hp} {l D G : Addr} {L : List Int} {gvs : List V} {zs : List Int} (s : LawSt H l D G L gvs zs) (e : Same H H') : LawSt H' l D G L gvs zs :=
  ⟨s.ln.mono e, e _ _ s.gt, let ⟨gs, h1, h2⟩ := s.gr; ⟨gs, h1.mono e, h2⟩, e _ _ s.ls⟩
theorem LawSt.put {H : Hp} {l D G : Addr} {L : List Int} {gvs : List V} {zs : List Int} (s : LawSt H l D G L gvs zs) (z : Int) : LawSt (upd H D (.lst (zs.map V.int ++ [.int z]))) l D G L gvs (zs ++ [z]) := by
  obtain ⟨gs, h1, h2⟩ := s.gr
  obtain ⟨o, ho, hc⟩ := s.ln
  refine ⟨⟨o, ?_, hc⟩, ?_, ⟨gs, grps_put s.ls h1, h2⟩, ?_⟩
  · rw [upd_ne (ne_of ho s.ls (by intro z; cases z))]
    exact ho
  · rw [upd_ne (ne_of s.gt s.ls (by intro z; cases z))]
    exact s.gt
  · rw [upd_same, List.map_append]
    rfl
/-- the people that the law has put together behind j runs -/
def ppj (rs : List (List Int)) (j : Nat) : List Int := (rs.take j).foldl (fun a r => r ++ a) []
theorem ppj_succ {rs : List (List Int)} {j : Nat} {r : List Int} (h : rs[j]? = some r) : ppj rs (j + 1) = r ++ ppj rs j := by
  unfold ppj
  rw [List.take_add_one, List.foldl_append, h]
  rfl
theorem ppj_all (L : List Int) (p : Int) : ppj (rns L p) (rns L p).length = shr L p := by
  unfold ppj
  rw [List.take_length, rns_join]
theorem ppj_small (rs : List (List Int)) (hs : ∀ r ∈ rs, r.length ≤ 8) : ∀ j, j ≤ rs.length → (ppj rs j).length ≤ 8 * j
  | 0, _ => Nat.zero_le _
  | j + 1, h => by
    have hj : rs[j]? = some rs[j] := List.getElem?_eq_getElem h
    rw [ppj_succ hj, List.length_append]
    have h1 := ppj_small rs hs j (by omega)
    have h2 := hs _ (List.getElem_mem h)
    omega
def lnj (rs : List (List Int)) (j : Nat) : List Int := (rs.take j).map fun r => (r.length : Int)
theorem lnj_succ {rs : List (List Int)} {j : Nat} {r : List Int} (h : rs[j]? = some r) : lnj rs (j + 1) = lnj rs j ++ [(r.length : Int)] := by
  unfold lnj
  rw [List.take_add_one, h, List.map_append]
  rfl
theorem lns_small (L : List Int) (hL : L.length ≤ 8) : ∀ k, (lns L k).length ≤ 9 * k
  | 0 => Nat.zero_le _
  | k + 1 => by
    rw [lns_succ, List.length_append, List.length_map]
    have := lns_small L hL k
    have := rns_small L (k : Int)
    omega
theorem lnj_all (L : List Int) (k : Nat) : lns L k ++ lnj (rns L (k : Int)) (rns L (k : Int)).length = lns L (k + 1) := by
  unfold lnj
  rw [List.take_length, lns_succ]
theorem ifN {c : Bool} {A B : Prop} (h : c = false) (hB : B) : if c = true then A else B := by
  rw [h]
  exact iteF hB
theorem ifY {c : Bool} {A B : Prop} (h : c = true) (hA : A) : if c = true then A else B := by
  rw [h]
  exact iteT hA
theorem pe_weak {X : Cx} {e : Expr} {t t' : TE} (h : PE X e t) (w : ∀ σ H Q, t' σ H Q → t σ H Q) : PE X e t' := ⟨fun pins s σ H Q I q => h.run pins s σ H Q I (w σ H Q q)⟩
/-- e != () and e[0] is None, e the tuple of ends in slot i -/
def tFirst (i : Nat) : TE := fun σ H Q => ∃ (E : Addr) (os : List (Option Int)), σ[i]? = some (some (.ref E)) ∧ H E = some (.tup (os.map optV)) ∧ ∀ H', Same H H' → Q (.bl (decide (os.head? = some none))) H'
theorem first_weak {K : PySem.W.Frag} (i : Nat) : ∀ σ H Q, tFirst i σ H Q → tAndV (tOp (rNeD K) (tVar i) (tTup tNil)) (tIsN (tOp (rIxT K) (tVar i) (tC (.int 0)))) σ H Q := by
  rintro σ H Q ⟨E, os, hσ, hE, q⟩
  refine ⟨.ref E, hσ, Nat.zero_le _, fun e ne => ?_⟩
  have sm : Same H (upd H e (.tup [])) := Same.put ne
  refine ⟨.tuple (os.map optD), .tuple [], .tup (SqT.now (sm _ _ hE)) (opt_dp _), .tup (SqT.now upd_same) .nil, opt_shaped _, shaped_nilT, _, rfl, ?_⟩
  rw [eqv_nilT]
  cases os with
  | nil => exact ifN rfl (q _ sm)
  | cons o os =>
    refine ifY rfl ⟨.ref E, hσ, E, _, 0, optV o, rfl, rfl, SqT.now (sm _ _ hE), atI_nat (j := 0) rfl, ?_⟩
    have h := q _ sm
    have e : decide ((o :: os).head? = some none) = decide (optV o = .non) := by
      rw [optV_non]
      exact decide_eq_decide.mpr ⟨fun z => Option.some.inj z, fun z => by rw [z]; rfl⟩
    rw [e] at h
    exact h
/-- t + u of tuples, t not empty: a tuple of both together, an old one or a new one -/
def rCatP (K : PySem.W.Frag) : R2 := fun x y H Q => ∃ a b xs ys, x = .ref a ∧ y = .ref b ∧ SqT K H a xs ∧ H a = some (.tup xs) ∧ SqT K H b ys ∧ xs ≠ [] ∧ xs.length + ys.length ≤ sizeLine ∧ ∀ p H', Same H H' → H' p = some (.tup (xs ++ ys)) → Q (.ref p) H'
theorem op_catP {X : Cx} : OpR X (binaryOp .Add) (rCatP X.K) := by
  rintro pins s σ H x y v u Q I rx ry ⟨a, b, xs, ys, rfl, rfl, ha, ha', hb, hx, hz, q⟩
  exact op_catT pins s σ H _ _ v u Q I rx ry ⟨a, b, xs, ys, rfl, rfl, ha, hb, hx, hz, fun e => q a H (Same.refl H) (by rw [e, List.append_nil]; exact ha'), fun _ p np => q p _ (Same.put np) upd_same⟩
end OV

set_option maxRecDepth 100000
set_option maxHeartbeats 8000000
/-! the law's body. -/
namespace OV
open PySem PySem.Spec PyProof.Rows L2 PySem.W
abbrev nmLaw : List Str := ["_law_script", "_law_row", "_law_line_here", "_law_lengths", "_law_groups", "_law_person", "_law_some", "_law_people", "_law_part", "_law_ends", "_law_at", "_law_best", "_law_many"]
theorem scLaw : FnScope nmLaw ["_law_script"] (defScope sLaw) := ⟨rfl, rfl, rfl, by decide +kernel, rfl, by decide +kernel, by decide +kernel⟩
def spLaw (K : PySem.W.Frag) : Sp := fun vs H Q _ => ∃ (a : Addr) (ns : List Int), vs = [.ref a] ∧ SqL K H a (ns.map V.int) ∧ ∀ H', Q (.bl true) H'
/-- the defs that the law calls -/
structure Defs (P : Program) (w : World) (K : PySem.W.Frag) (mg : Str → Option Value) (base : Heap) : Prop where
  line : Dn P w K mg base 2 "_law_line" (spLine K)
  grp : Dn P w K mg base 4 "run_groups" spGrp
  runs : Dn P w K mg base 4 "runs" spRuns
  shrA : Dn P w K mg base 4 "shorter_ahead" spShrA
  wrnC : Dn P w K mg base 4 "wrong_counts" spWrnC
  runC : Dn P w K mg base 4 "run_counts" spRunC
  part : Dn P w K mg base 4 "parting" spPart
  ready : Dn P w K mg base 4 "ready" spReady
  tal : Dn P w K mg base 4 "taller_ahead" spTal
  cntW : Dn P w K mg base 4 "count_wrong" spCntW
  runS : Dn P w K mg base 4 "run_sum" spRunS
  best : Dn P w K mg base 4 "greatest_run" spBest
section
variable {P : Program} {w : World} {K : PySem.W.Frag} {mg : Str → Option Value} {base : Heap}
theorem ok_law {f : Addr} {fd : FuncData} (F : Fun K "law" "law" sLaw f fd) (B : Bi mg) (C : Defs P w K mg base) : FnOk P w K mg base CX0 5 f fd ["_law_script"] (spLaw K) := by
  refine F.ok (k := 4) scLaw (fun vs H Q E h => ?_) (fun cdv A outer s H vs Q E hr h => ?_)
  · obtain ⟨a, ns, rfl, _⟩ := h
    rfl
  · obtain ⟨a, ns, rfl, hS, q⟩ := h
    refine ⟨_, pss_cons (ps_set (i := 1) scLaw.nd rfl (.inl rfl) (pe_lst (pa_cons (pv 0) (pa_cons pe_int (pa_cons pe_int (pa_cons pe_int pa_nil))))))
      (pss_cons (ps_set (i := 2) scLaw.nd rfl (.inl rfl) (pe_d C.line hr (by decide) (pa_cons (pv 1) (pa_cons pe_int pa_nil))))
      (pss_cons (ps_par (i := 3) (j := 4) rfl scLaw.nd rfl rfl (by decide) rfl rfl (pa_cons (pe_lst pa_nil) (pa_cons (pe_d C.grp hr (by decide) (pa_cons (pv 2) pa_nil)) pa_nil)) (by rfl))
      (pss_cons (ps_for PassesOwn.never rfl (pi_range1 rfl B.range (pa_cons (pe_callB call_len_seq (by rfl) B.len PySem.boot_len (pa_cons (pv 2) pa_nil)) pa_nil)) (pg_name (i := 5) scLaw.nd rfl (.inl rfl))
        (pss_cons (ps_par (i := 6) (j := 7) rfl scLaw.nd rfl rfl (by decide) rfl rfl (pa_cons (pe_d C.runs hr (by decide) (pa_cons (pv 2) (pa_cons (pv 5) pa_nil))) (pa_cons (pe_tup pa_nil) pa_nil)) (by rfl))
        (pss_cons (ps_for PassesOwn.never rfl (pi_tup (pv 6)) (pg_name (i := 8) scLaw.nd rfl (.inl rfl))
          (pss_cons (ps_set (i := 7) scLaw.nd rfl (.inl rfl) (pe_op op_catP (pv 8) (pv 7)))
          (pss_cons (ps_expr (pe_bm PySem.F.plainAttrs_list PySem.F.slot_list_append PySem.F.type_list_append mt_append (pv 3) (pa_cons (pe_callB call_len_seq (by rfl) B.len PySem.boot_len (pa_cons (pv 8) pa_nil)) pa_nil)))
          (pss_one (ps_if (PW.pt (pw_and (pt_cmpR (op_notInT (hu65 hr)) (pe_tup (pa_cons (pv 5) (pa_cons (pe_callTy call_tuple_of (by rfl) B.tuple (by decide +kernel) (pa_cons (pe_callB cr_sortTI (by rfl) B.sorted (by decide +kernel) (pa_cons (pv 8) pa_nil)) pa_nil)) pa_nil))) (pv 4) (by rfl))
              (pw_and1 (pt_cmpR op_gt (pe_callB call_len_seq (by rfl) B.len PySem.boot_len (pa_cons (pv 8) pa_nil)) pe_int (nomark _))))) (pss_one ps_never) pss_nil)))))
        (pss_cons (ps_if (PW.pt (pw_or (pt_cmpR (op_neD (hu64 hr)) (pv 7) (pe_d C.shrA hr (by decide) (pa_cons (pv 2) (pa_cons (pv 5) pa_nil))) (nomark _))
            (pw_or (pt_cmpR op_ne (pe_callB call_len_seq (by rfl) B.len PySem.boot_len (pa_cons (pv 7) pa_nil)) (pe_ix ix_tup (pe_d C.wrnC hr (by decide) (pa_cons (pv 2) pa_nil)) (pv 5) (fun _ _ => rfl)) (nomark _))
            (pw_or1 (pt_cmpR op_ne (pe_callB call_len_seq (by rfl) B.len PySem.boot_len (pa_cons (pv 6) pa_nil)) (pe_ix ix_tup (pe_d C.runC hr (by decide) (pa_cons (pv 2) pa_nil)) (pv 5) (fun _ _ => rfl)) (nomark _)))))) (pss_one ps_never) pss_nil)
        (pss_cons (ps_set (i := 9) scLaw.nd rfl (.inl rfl) (pe_d C.part hr (by decide) (pa_cons (pv 2) (pa_cons (pv 5) pa_nil))))
        (pss_cons (ps_if (PW.pt (pw_or (pt_cmpR op_ne (pe_callB call_len_seq (by rfl) B.len PySem.boot_len (pa_cons (pv 9) pa_nil)) (pe_callB call_len_seq (by rfl) B.len PySem.boot_len (pa_cons (pv 6) pa_nil)) (nomark _))
            (pw_or1 (pt_cmpR op_ne (pe_d C.ready hr (by decide) (pa_cons (pv 2) (pa_cons (pv 5) pa_nil)))
              (pe_weak (t' := tFirst 9) (pe_and (pe_cmpR (op_neD (hu64 hr)) (pv 9) (pe_tup pa_nil) (nomark _)) (pe_one (pe_cmp (pc_isN (pe_ix ix_tup (pv 9) pe_int (fun _ _ => rfl))) rfl))) (first_weak 9)) (nomark _))))) (pss_one ps_never) pss_nil)
        (pss_cons (ps_for PassesOwn.never rfl (pi_range1 rfl B.range (pa_cons (pe_callB call_len_seq (by rfl) B.len PySem.boot_len (pa_cons (pv 9) pa_nil)) pa_nil)) (pg_name (i := 10) scLaw.nd rfl (.inl rfl))
          (pss_one (ps_if (pt_cmpR op_isN (pe_ix ix_tup (pv 9) (pv 10) (fun _ _ => rfl)) pe_non (nomark _))
            (pss_one (ps_if (PW.pt (pw_or (pt_cmpR op_gt (pv 10) pe_int (nomark _))
                (pw_or1 (pt_cmpR op_ne (pe_ix ix_tup (pv 2) (pe_op op_sub (pe_tix (pv 2) (pa_cons (pv 5) pa_nil)) pe_int) (fun _ _ => rfl)) (pe_ix ix_tup (pe_ix ix_tup (pv 6) pe_int (fun _ _ => rfl)) (pe_un un_neg pe_int) (fun _ _ => rfl)) (nomark _))))) (pss_one ps_never) pss_nil))
            (pss_one (ps_if (PW.pt (pw_or (pt_cmpR op_lt (pe_ix ix_tup (pv 9) (pv 10) (fun _ _ => rfl)) (pv 5) (nomark _))
                (pw_or1 (pt_cmpR op_ne (pe_tix (pv 2) (pa_cons (pe_ix ix_tup (pv 9) (pv 10) (fun _ _ => rfl)) pa_nil))
                  (pe_op op_add (pe_tix (pv 2) (pa_cons (pe_ix ix_tup (pe_ix ix_tup (pv 6) (pv 10) (fun _ _ => rfl)) (pe_un un_neg pe_int) (fun _ _ => rfl)) pa_nil)) pe_int) (nomark _))))) (pss_one ps_never) pss_nil)))))
        (pss_one (ps_if (PW.pt (pw_and (pt_cmpR (op_neD (hu64 hr)) (pv 6) (pe_tup pa_nil) (nomark _))
            (pw_and (pt_not (pt_val (pe_d C.ready hr (by decide) (pa_cons (pv 2) (pa_cons (pv 5) pa_nil)))))
            (pw_and1 (pt_cmpR op_isN (pe_d C.tal hr (by decide) (pa_cons (pv 2) (pa_cons (pv 5) pa_nil))) pe_non (nomark _)))))) (pss_one ps_never) pss_nil)))))))))
      (pss_cons (ps_if (PW.pt (pw_or (pt_cmpR op_ne (pe_callB (cr_sum rfl) (by rfl) B.sum (by decide +kernel) (pa_cons (pv 3) pa_nil)) (pe_d C.cntW hr (by decide) (pa_cons (pv 2) pa_nil)) (nomark _))
          (pw_or (pt_cmpR op_ne (pe_callB call_len_seq (by rfl) B.len PySem.boot_len (pa_cons (pv 3) pa_nil)) (pe_d C.runS hr (by decide) (pa_cons (pv 2) pa_nil)) (nomark _))
          (pw_or1 (pt_cmpR op_ne (pe_callB call_len_seq (by rfl) B.len PySem.boot_len (pa_cons (pv 4) pa_nil))
            (pe_callB call_len_seq (by rfl) B.len PySem.boot_len (pa_cons (pe_lc (own := [("_law_many", 12)]) (g := gName 12) rfl scLaw.nd (pi_list (pv 3))
              (blkOk_by (own := [("_law_many", 12)]) (N := nmLaw) (sc := defScope sLaw) (by decide +kernel))
              (fun _ _ _ _ _ => pg_name (i := 12) scLaw.nd rfl (Or.inl rfl)) (fun _ _ _ _ _ => pts_one (pt_cmpR op_gt (pv 12) pe_int (nomark _))) (fun _ _ _ _ _ => pv 12)) pa_nil)) (nomark _)))))) (pss_one ps_never) pss_nil)
      (pss_cons (ps_set (i := 11) scLaw.nd rfl (.inl rfl) (pe_d C.best hr (by decide) (pa_cons (pv 2) pa_nil)))
      (pss_one (ps_ret (pe_or (pe_and (pe_cmp (pc_isN (pv 11)) rfl) (pe_one (pe_cmpR (op_eqD (hu64 hr)) (pv 3) (pe_lst pa_nil) (nomark _))))
        (pe_one (pe_cmpR op_eq (pe_ix ix_tup (pv 11) pe_int (fun _ _ => rfl)) (pe_callB (cr_max rfl) (by rfl) B.max (by decide +kernel) (pa_cons (pv 3) pa_nil)) (nomark _))))))))))), ?_⟩
    -- the row, the line
    refine ⟨.ref a, rfl, (by show 4 ≤ sizeLine; decide), fun r nr => ?_⟩
    have s1 : Same H (upd H r (.lst [.ref a, .int 0, .int 9584, .int 0])) := Same.put nr
    refine ⟨.ref r, rfl, r, H, rfl, ⟨s1, nr, a, ns, 0, 9584, 0, hS, upd_same⟩, fun l H1 L hL hl => ?_⟩
    have h8 := hL.hi
    have e0 : (L.map V.int).length = L.length := List.length_map ..
    -- lengths, groups
    refine ⟨Nat.zero_le _, fun D nD => ⟨.ref l, rfl, l, L, rfl, hl.mono (Same.put nD), hL, fun v H3 s3 hv => ?_⟩⟩
    obtain ⟨gvs, gs, ⟨G, rfl, hG⟩, hg, hperm⟩ := hv
    have st0 : LawSt H3 l D G L gvs [] := ⟨(hl.mono (Same.put nD)).mono s3, hG, ⟨gs, hg, hperm⟩, s3 _ _ upd_same⟩
    refine ⟨_, _, rfl, ?_⟩
    -- for person
    refine ⟨.ref l, rfl, l, _, rfl, .inr st0.ln.sq, (L.map V.int).length, rfl, by omega, by rw [e0]; omega, ?_⟩
    rw [show ((L.map V.int).length : Int).toNat = L.length by rw [e0]; exact Int.toNat_natCast _]
    refine for_range (lo := 0) (n := L.length) (fun i σ H' => ∃ y5 y6 y7 y8 y9 y10, σ = [some (.ref a), some (.ref r), some (.ref l), some (.ref D), some (.ref G), y5, y6, y7, y8, y9, y10, none, none] ∧ LawSt H' l D G L gvs (lns L i))
      ⟨_, _, _, _, _, _, rfl, st0⟩ ?_ ?_
    · rintro i σ H4 hi ⟨y5, y6, y7, y8, y9, y10, rfl, st4⟩
      have hp : (i : Int) ∈ L := hL.nat hi
      show gName 5 (.int (0 + (i : Int))) _ _ _
      rw [Int.zero_add]
      -- some, people
      refine ⟨.ref l, rfl, .int i, rfl, l, L, i, rfl, st4.ln, hL, hp, fun v H5 s5 hv => ?_⟩
      obtain ⟨svs, ⟨S, rfl, hS5⟩, hR5⟩ := hv
      refine ⟨Nat.zero_le _, fun P0 nP => ⟨_, _, rfl, ?_⟩⟩
      have sP : Same H5 (upd H5 P0 (.tup [])) := Same.put nP
      have hlen : svs.length = (rns L (i : Int)).length := pair_len hR5
      have hnum := rns_small L (i : Int)
      refine ⟨.ref S, rfl, S, rfl, ⟨_, SqT.now (sP _ _ hS5)⟩, for_tup (K := K) (a := S) (xs := svs)
        (fun j σ H' => ∃ PP y8, σ = [some (.ref a), some (.ref r), some (.ref l), some (.ref D), some (.ref G), some (.int i), some (.ref S), some (.ref PP), y8, y9, y10, none, none] ∧
          LawSt H' l D G L gvs (lns L i ++ lnj (rns L (i : Int)) j) ∧ H' S = some (.tup svs) ∧ RunsAs H' svs (rns L (i : Int)) ∧ H' PP = some (.tup ((ppj (rns L (i : Int)) j).map V.int)))
        ⟨P0, _, rfl, by show LawSt _ _ _ _ _ _ (lns L i ++ []); rw [List.append_nil]; exact (st4.mono s5).mono sP, sP _ _ hS5, hR5.mono sP, upd_same⟩ (fun j σ H' _ ⟨_, _, _, _, h, _⟩ => SqT.now h) ?_ ?_⟩
      · -- a run
        rintro j v σ H7 hv ⟨PP, y8, rfl, st7, hS7, hR7, hPP⟩
        obtain ⟨rn, hr7, t, rfl, ht⟩ := pair_get hR7 hv
        have hrm : rn ∈ rns L (i : Int) := List.mem_of_getElem? hr7
        have hj : j < (rns L (i : Int)).length := (List.getElem?_eq_some_iff.mp hr7).1
        obtain ⟨bb, RA⟩ := rns_at hL.nd hp hr7
        have hrl := run_small hrm
        have hpl := ppj_small (rns L (i : Int)) (fun z hz => Nat.le_trans (run_small hz) h8) j (Nat.le_of_lt hj)
        have er : (rn.map V.int).length = rn.length := List.length_map ..
        refine ⟨.ref t, rfl, .ref PP, rfl, t, PP, _, _, rfl, rfl, SqT.now ht, ht, SqT.now hPP, fun z => RA.ne (List.map_eq_nil_iff.mp z), ?_, fun P1 H8 s8 hP1 => ?_⟩
        · rw [er, List.length_map]
          exact small8 (by omega)
        rw [← List.map_append, ← ppj_succ hr7] at hP1
        have st8 := st7.mono s8
        have ht8 := s8 _ _ ht
        -- lengths.append(len(part))
        refine ⟨.ref D, rfl, .inl ⟨rfl, _, SqL.now st8.ls⟩, .ref t, rfl, t, _, rfl, .inr (SqT.now ht8), D, _, .int (rn.map V.int).length, rfl, rfl, st8.ls, ?_, ?_⟩
        · have h1 := lns_small L h8 i
          have h2 : (lnj (rns L (i : Int)) j).length ≤ 9 := by
            unfold lnj
            rw [List.length_map, List.length_take]
            omega
          rw [List.length_map, List.length_append]
          exact small1000 (by omega)
        have e9 : lnj (rns L (i : Int)) (j + 1) = lnj (rns L (i : Int)) j ++ [((rn.map V.int).length : Int)] := by rw [lnj_succ hr7, er]
        have st9 : LawSt (upd H8 D (.lst ((lns L i ++ lnj (rns L (i : Int)) j).map V.int ++ [.int (rn.map V.int).length]))) l D G L gvs (lns L i ++ lnj (rns L (i : Int)) (j + 1)) := by
          rw [e9, ← List.append_assoc]
          exact st8.put _
        have ht9 : (upd H8 D (.lst ((lns L i ++ lnj (rns L (i : Int)) j).map V.int ++ [.int (rn.map V.int).length]))) t = some (.tup (rn.map V.int)) := by
          rw [upd_ne (ne_of ht8 st8.ls (by intro z; cases z))]
          exact ht8
        have hS9 : (upd H8 D (.lst ((lns L i ++ lnj (rns L (i : Int)) j).map V.int ++ [.int (rn.map V.int).length]))) S = some (.tup svs) := by
          rw [upd_ne (ne_of (s8 _ _ hS7) st8.ls (by intro z; cases z))]
          exact s8 _ _ hS7
        have hP9 : (upd H8 D (.lst ((lns L i ++ lnj (rns L (i : Int)) j).map V.int ++ [.int (rn.map V.int).length]))) P1 = some (.tup ((ppj (rns L (i : Int)) (j + 1)).map V.int)) := by
          rw [upd_ne (ne_of hP1 st8.ls (by intro z; cases z))]
          exact hP1
        have hR9 : RunsAs (upd H8 D (.lst ((lns L i ++ lnj (rns L (i : Int)) j).map V.int ++ [.int (rn.map V.int).length]))) svs (rns L (i : Int)) := runs_put st8.ls (hR7.mono s8)
        generalize upd H8 D (.lst ((lns L i ++ lnj (rns L (i : Int)) j).map V.int ++ [.int (rn.map V.int).length])) = H9 at st9 ht9 hS9 hP9 hR9 ⊢
        -- the group
        refine ⟨.int i, rfl, .ref t, rfl, t, rn, rfl, SqT.now ht9, fun ns' m hpm hps nm => ⟨m, _, rfl, .inl ⟨SqL.now upd_same, fun u nu => ⟨(by show 2 ≤ sizeLine; decide), fun w2 nw => ?_⟩⟩⟩⟩
        have t1 : Same H9 (upd H9 m (.lst (ns'.map V.int))) := Same.put nm
        have t2 := t1.trans (Same.put (o := .tup (ns'.map V.int)) nu)
        have t3 := t2.trans (Same.put (o := .tup [.int (i : Int), .ref u]) nw)
        have uw : u ≠ w2 := ne_of_none upd_same nw
        have stA := st9.mono t3
        obtain ⟨gs', hg', hperm'⟩ := stA.gr
        obtain ⟨ds, hd1, hd2⟩ := grs_dp (K := K) hg'
        have fin := And.intro (st9.mono t3) (And.intro (t3 _ _ hS9) (And.intro (hR9.mono t3) (t3 _ _ hP9)))
        refine ⟨.ref G, rfl, grD i ns', ds, .tup (SqT.now upd_same) (.cons (.int _) (.cons (.tup (SqT.now (by rw [upd_ne uw]; exact upd_same)) (dp_ints ns')) .nil)), .tup (SqT.now stA.gt) hd1, grD_shaped _ _, grs_shaped hd2, _, rfl, ?_⟩
        have hin : 1 < rn.length → (ds.any fun z => PyData.eqv z (grD i ns')) = true := fun h1 => grs_in hd2 (hperm'.mem_iff.mpr (grp_mem hi hrm h1)) hpm hps
        cases hb : ds.any fun z => PyData.eqv z (grD i ns') with
        | true =>
          refine iteF (iteF ?_)
          exact ⟨P1, _, rfl, fin⟩
        | false =>
          have h1 : ¬ 1 < rn.length := fun h1 => by
            rw [hin h1] at hb
            cases hb
          refine iteT ⟨.ref t, rfl, t, _, rfl, .inr (SqT.now (t3 _ _ ht9)), _, _, rfl, rfl, _, rfl, ?_⟩
          refine ifN (decide_eq_false (by rw [er]; omega)) ?_
          exact ⟨P1, _, rfl, fin⟩
      · -- behind the runs
        rintro σ H7 ⟨PP, y8, rfl, st7, hS7, hR7, hPP⟩
        rw [hlen] at st7 hPP
        rw [lnj_all] at st7
        rw [ppj_all] at hPP
        have hsl := shr_small L (i : Int)
        have c1 : ∀ ns : List Int, (ns.map V.int).length = ns.length := fun ns => List.length_map ..
        -- people != shorter_ahead
        refine ⟨.ref PP, rfl, .ref l, rfl, .int i, rfl, l, L, i, rfl, st7.ln, hL, hp, fun v H8 s8 hv => ?_⟩
        obtain ⟨b1, rfl, hb1⟩ := hv
        refine ⟨.tuple ((shr L (i : Int)).map PyData.int), .tuple ((shr L (i : Int)).map PyData.int), .tup (SqT.now (s8 _ _ hPP)) (dp_ints _), .tup (SqT.now hb1) (dp_ints _), shaped_intsT _, shaped_intsT _, _, rfl, ?_⟩
        rw [SeqAt.eqv_refl _ (SeqAt.canLay_of_shaped (shaped_intsT (shr L (i : Int))))]
        refine iteF ?_
        -- len(people) != wrong_counts[person]
        refine ⟨.ref PP, rfl, PP, _, rfl, .inr (SqT.now (s8 _ _ hPP)), .ref l, rfl, l, L, rfl, st7.ln.mono s8, hL, fun v H9 s9 hv => ?_⟩
        obtain ⟨b2, rfl, hb2⟩ := hv
        refine ⟨.int i, rfl, b2, _, i, .int ((shr L (i : Int)).length : Nat), rfl, rfl, SqT.now hb2, atI_nat (by rw [List.getElem?_map, ppl_at hi]; rfl), rfl, _, rfl, ?_⟩
        refine ifN (by rw [c1]; simp) ?_
        -- len(some) != run_counts[person]
        have s79 := s8.trans s9
        refine ⟨.ref S, rfl, S, _, rfl, .inr (SqT.now (s79 _ _ hS7)), .ref l, rfl, l, L, rfl, st7.ln.mono s79, hL, fun v H10 s10 hv => ?_⟩
        obtain ⟨b3, rfl, hb3⟩ := hv
        refine ⟨.int i, rfl, b3, _, i, .int ((rns L (i : Int)).length : Nat), rfl, rfl, SqT.now hb3, atI_nat (by unfold cts; rw [List.getElem?_map, List.getElem?_map, ppl_at hi]; rfl), rfl, _, rfl, ?_⟩
        refine ifN (by rw [hlen]; simp) ?_
        have s710 := s79.trans s10
        -- ends
        refine ⟨.ref l, rfl, .int i, rfl, l, L, i, rfl, st7.ln.mono s710, hL, hp, fun v H11 s11 hv => ?_⟩
        obtain ⟨En, rfl, hEn⟩ := hv
        have hEn : H11 En = some (.tup (((rns L (i : Int)).map (par L (i : Int))).map optV)) := by
          rw [List.map_map]
          exact hEn
        have elen : (((rns L (i : Int)).map (par L (i : Int))).map optV).length = (rns L (i : Int)).length := by rw [List.length_map, List.length_map]
        have s711 := s710.trans s11
        have st11 := st7.mono s711
        have hS11 := s711 _ _ hS7
        have hR11 := hR7.mono s711
        clear hPP hb1 hb2 hb3 hS7 hR7
        -- len(ends) != len(some)
        refine ⟨.ref En, rfl, En, _, rfl, .inr (SqT.now hEn), .ref S, rfl, S, _, rfl, .inr (SqT.now hS11), rfl, _, rfl, ?_⟩
        refine ifN (by rw [elen, hlen]; simp) ?_
        -- ready != (ends != () and ends[0] is None)
        refine ⟨.ref l, rfl, .int i, rfl, l, L, i, rfl, st11.ln, hL, hp, fun v H12 s12 hv => ?_⟩
        obtain rfl := hv
        have rdy := ready_iff hL.nd hp
        refine ⟨En, _, rfl, s12 _ _ hEn, fun H13 s13 => ⟨rfl, _, rfl, ?_⟩⟩
        have e12 : decide ((i : Int) ∈ mvr L) = decide ((((rns L (i : Int)).map (par L (i : Int))).head?) = some none) := by
          refine decide_eq_decide.mpr (rdy.trans ?_)
          cases rns L (i : Int) with
          | nil =>
            constructor
            · rintro ⟨r, rs, z, _⟩
              cases z
            · intro z
              cases z
          | cons r0 rs0 =>
            constructor
            · rintro ⟨r, rs, z, h⟩
              injection z with z1 z2
              subst z1
              exact congrArg some h
            · intro z
              exact ⟨r0, rs0, rfl, Option.some.inj z⟩
        refine ifN (by rw [e12]; simp) ?_
        have s1113 := s12.trans s13
        have st13 := st11.mono s1113
        have hS13 := s1113 _ _ hS11
        have hR13 := hR11.mono s1113
        have hE13 := s1113 _ _ hEn
        -- for at
        refine ⟨.ref En, rfl, En, _, rfl, .inr (SqT.now hE13), _, rfl, by omega, by rw [elen]; omega, ?_⟩
        rw [show ((((rns L (i : Int)).map (par L (i : Int))).map optV).length : Int).toNat = (rns L (i : Int)).length by rw [elen]; exact Int.toNat_natCast _]
        refine for_range (lo := 0) (n := (rns L (i : Int)).length) (fun j σ H' => ∃ y10, σ = [some (.ref a), some (.ref r), some (.ref l), some (.ref D), some (.ref G), some (.int i), some (.ref S), some (.ref PP), y8, some (.ref En), y10, none, none] ∧
          LawSt H' l D G L gvs (lns L (i + 1)) ∧ H' S = some (.tup svs) ∧ RunsAs H' svs (rns L (i : Int)) ∧ H' En = some (.tup (((rns L (i : Int)).map (par L (i : Int))).map optV))) ⟨_, rfl, st13, hS13, hR13, hE13⟩ ?_ ?_
        · rintro j σ H14 hj ⟨y10, rfl, st14, hS14, hR14, hE14⟩
          show gName 10 (.int (0 + (j : Int))) _ _ _
          rw [Int.zero_add]
          have hrj : (rns L (i : Int))[j]? = some (rns L (i : Int))[j] := List.getElem?_eq_getElem hj
          generalize (rns L (i : Int))[j] = rn at hrj
          obtain ⟨bb, RA⟩ := rns_at hL.nd hp hrj
          have hsj : svs[j]? = some svs[j] := List.getElem?_eq_getElem (by omega)
          obtain ⟨rn', hrn', t, et, ht⟩ := pair_get hR14 hsj
          rw [hrj] at hrn'
          cases hrn'
          rw [et] at hsj
          have hpar := par_some RA
          have hat : atI (((rns L (i : Int)).map (par L (i : Int))).map optV) (j : Int) = some (optV (par L (i : Int) rn)) := atI_nat (by rw [List.getElem?_map, List.getElem?_map, hrj]; rfl)
          have hst : atI svs (j : Int) = some (.ref t) := atI_nat hsj
          have hbL : bb ∈ L := List.mem_of_getElem? RA.nx
          have fin := And.intro st14 (And.intro hS14 (And.intro hR14 hE14))
          refine ⟨.ref En, rfl, .int j, rfl, En, _, j, optV (par L (i : Int) rn), rfl, rfl, SqT.now hE14, hat, rfl, _, rfl, ?_⟩
          by_cases hb : bb = (i : Int)
          · rw [if_pos hb] at hpar
            refine ifY (by rw [hpar]; rfl) ?_
            have j0 := RA.own hb
            subst j0
            have hpl : plc L (i : Int) = plc L (lst rn) + 1 := by
              rw [← hb]
              exact RA.plb
            have hli : atI (L.map V.int) (((plc L (i : Int) : Nat) : Int) - 1) = some (.int (lst rn)) := by
              rw [hpl, show ((plc L (lst rn) + 1 : Nat) : Int) - 1 = ((plc L (lst rn) : Nat) : Int) by omega]
              refine atI_nat ?_
              rw [List.getElem?_map, (plc_at RA.inL).2]
              rfl
            refine ⟨.int (0 : Nat), rfl, _, 0, rfl, rfl, _, rfl, ifN rfl ?_⟩
            refine ⟨.ref l, rfl, .ref l, rfl, l, L, rfl, hL.nd, st14.ln, .int i, rfl, st14.ln, i, rfl, hp, _, 1, rfl, rfl, l, _, _, .int (lst rn), rfl, rfl, st14.ln.sq, hli, ?_⟩
            refine ⟨.ref S, rfl, S, _, 0, .ref t, rfl, rfl, SqT.now hS14, hst, 1, rfl, t, _, -1, .int (lst rn), rfl, rfl, SqT.now ht, run_last RA.ne, rfl, _, rfl, ifN (by simp) ?_⟩
            exact ⟨_, rfl, fin⟩
          · rw [if_neg hb] at hpar
            rw [hpar] at hat
            refine ifN (by rw [hpar]; rfl) ?_
            refine ⟨.ref En, rfl, .int j, rfl, En, _, j, .int bb, rfl, rfl, SqT.now hE14, hat, .int i, rfl, bb, i, rfl, rfl, _, rfl, ifN (decide_eq_false RA.ge) ?_⟩
            refine ⟨.ref l, rfl, l, L, rfl, hL.nd, st14.ln, .ref En, rfl, .int j, rfl, En, _, j, .int bb, rfl, rfl, SqT.now hE14, hat, st14.ln, bb, rfl, hbL, ?_⟩
            refine ⟨.ref l, rfl, l, L, rfl, hL.nd, st14.ln, .ref S, rfl, .int j, rfl, S, _, j, .ref t, rfl, rfl, SqT.now hS14, hst, 1, rfl, t, _, -1, .int (lst rn), rfl, rfl, SqT.now ht, run_last RA.ne, st14.ln, lst rn, rfl, RA.inL, _, 1, rfl, rfl, rfl, _, rfl, ifN ?_ ?_⟩
            · rw [RA.plb]
              simp
            · exact ⟨_, rfl, fin⟩
        · rintro σ H14 ⟨y10, rfl, st14, hS14, hR14, hE14⟩
          -- some != () and not ready and taller_ahead is None
          refine ⟨.ref S, rfl, Nat.zero_le _, fun e1 ne1 => ?_⟩
          have s15 : Same H14 (upd H14 e1 (.tup [])) := Same.put ne1
          have st15 := st14.mono s15
          refine ⟨.tuple ((rns L (i : Int)).map runD), .tuple [], .tup (SqT.now (s15 _ _ hS14)) (runs_dp (hR14.mono s15)), .tup (SqT.now upd_same) .nil, runs_shaped _, shaped_nilT, _, rfl, ?_⟩
          rw [eqv_nilT]
          by_cases hn : rns L (i : Int) = []
          · refine ifN (by rw [hn]; rfl) (iteF ?_)
            exact ⟨_, _, _, _, _, _, rfl, st15⟩
          · refine ifY (by cases h : rns L (i : Int) with | nil => exact absurd h hn | cons _ _ => rfl) ?_
            refine ⟨.ref l, rfl, .int i, rfl, l, L, i, rfl, st15.ln, hL, hp, fun v H16 s16 hv => ?_⟩
            obtain rfl := hv
            refine ⟨_, rfl, ?_⟩
            by_cases hm : (i : Int) ∈ mvr L
            · refine ifN (by rw [decide_eq_true hm]; rfl) (iteF ?_)
              exact ⟨_, _, _, _, _, _, rfl, st15.mono s16⟩
            · refine ifY (by rw [decide_eq_false hm]; rfl) ?_
              refine ⟨.ref l, rfl, .int i, rfl, l, L, i, rfl, (st15.mono s16).ln, hL, hp, fun v H17 s17 hv => ?_⟩
              obtain rfl := hv
              have ht := tal_of hL.nd hp hn hm
              obtain ⟨z, hz⟩ : ∃ z, (tal L (i : Int)).getLast? = some z := ⟨_, List.getLast?_eq_getLast ht⟩
              refine ⟨rfl, _, rfl, ifN (by rw [hz]; rfl) ?_⟩
              exact ⟨_, _, _, _, _, _, rfl, (st15.mono s16).mono s17⟩
    · -- behind the people
      rintro σ H4 ⟨y5, y6, y7, y8, y9, y10, rfl, st4⟩
      -- sum(lengths) != count_wrong(line)
      refine ⟨.ref D, rfl, D, lns L L.length, rfl, SqL.now st4.ls, .ref l, rfl, l, L, rfl, st4.ln, hL, fun v H5 s5 hv => ?_⟩
      obtain rfl := hv
      refine ⟨rfl, _, rfl, ifN (by rw [sum_is hL]; simp) ?_⟩
      have st5 := st4.mono s5
      -- len(lengths) != run_sum(line)
      refine ⟨.ref D, rfl, D, _, rfl, .inl (SqL.now st5.ls), .ref l, rfl, l, L, rfl, st5.ln, hL, fun v H6 s6 hv => ?_⟩
      obtain rfl := hv
      refine ⟨rfl, _, rfl, ifN (by rw [List.length_map, lns_len]; simp) ?_⟩
      have st6 := st5.mono s6
      -- len(groups) != ..
      refine ⟨.ref G, rfl, G, _, rfl, .inr (SqT.now st6.gt), .ref D, rfl, D, rfl, ⟨_, SqL.now st6.ls⟩, fun D2 nD2 => ?_⟩
      refine lc_list (K := K) (a := D) (xs := (lns L L.length).map V.int) (fun k H' => Same H6 H' ∧ H' D2 = some (.lst ((((lns L L.length).take k).filter fun z => decide (1 < z)).map V.int)))
        ⟨Same.put nD2, upd_same⟩ (fun k H' _ ⟨sm, _⟩ => SqL.now (sm _ _ st6.ls)) ?_ ?_
      · rintro k v H7 hv ⟨sm, hD2⟩
        obtain ⟨x, hx, rfl⟩ := int_at hv
        have step := filt_step (f := fun z => decide (1 < z)) hx
        have hsz : ((((lns L L.length).take k).filter fun z => decide (1 < z)).map V.int).length < sizeLine := by
          rw [List.length_map]
          refine small1000 (Nat.le_trans (List.length_filter_le _ _) ?_)
          rw [List.length_take]
          have := lns_small L h8 L.length
          omega
        refine ⟨rfl, .int x, rfl, x, 1, rfl, rfl, _, rfl, ?_⟩
        by_cases c : 1 < x
        · have c' : decide (1 < x) = true := decide_eq_true c
          rw [if_pos c'] at step
          refine ifY c' ⟨.int x, rfl, _, hD2, hsz, same_turn sm nD2, ?_⟩
          rw [upd_same, step, List.map_append]
          rfl
        · have c' : decide (1 < x) = false := decide_eq_false c
          rw [if_neg (by rw [c']; exact Bool.false_ne_true), List.append_nil] at step
          refine ifN c' ⟨sm, ?_⟩
          rw [step]
          exact hD2
      · rintro H7 ⟨sm, hD2⟩
        rw [List.length_map, List.take_length] at hD2
        have st7 := st6.mono sm
        obtain ⟨gs7, hg7, hp7⟩ := st7.gr
        have eg : gvs.length = ((((lns L L.length).filter fun z => decide (1 < z))).map V.int).length := by
          rw [pair_len hg7, hp7.length_eq, grp_len, List.length_map]
        refine ⟨D2, _, rfl, .inl (SqL.now hD2), rfl, _, rfl, ifN (by rw [eg]; simp) ?_⟩
        -- best
        refine ⟨.ref l, rfl, l, L, rfl, st7.ln, hL, fun v H8 s8 hv => ?_⟩
        have st8 := st7.mono s8
        rcases hv with ⟨hnil, rfl⟩ | ⟨t, m, k, rfl, ht, hm, hle⟩
        · refine ⟨.non, rfl, _, rfl, ifY rfl ?_⟩
          refine ⟨.ref D, rfl, Nat.zero_le _, fun e ne => ?_⟩
          have s9 : Same H8 (upd H8 e (.lst [])) := Same.put ne
          refine ⟨.list ((lns L L.length).map PyData.int), .list [], .lst (SqL.now (s9 _ _ st8.ls)) (dp_ints _), .lst (SqL.now upd_same) .nil, shaped_intsL _, shaped_nilL, _, rfl, ?_⟩
          rw [eqv_nilL, hnil]
          exact iteT (q _)
        · refine ⟨.ref t, rfl, _, rfl, ifN rfl ⟨_, rfl, iteF ?_⟩⟩
          refine ⟨.ref t, rfl, t, _, 0, .int m, rfl, rfl, SqT.now ht, atI_nat (j := 0) rfl, ?_⟩
          refine ⟨.ref D, rfl, D, _, rfl, SqL.now st8.ls, List.length_pos_of_mem hm, fun M hM hMle => ⟨rfl, ?_⟩⟩
          have e : m = M := by
            have h1 := hle M hM
            have h2 := hMle m hm
            omega
          rw [e]
          have e2 : decide (V.int M = V.int M) = true := decide_eq_true rfl
          rw [e2]
          exact q _
end
end OV

set_option maxRecDepth 100000
set_option maxHeartbeats 8000000
/-! the end: what the top has written; the law. -/
namespace OV
open PySem PySem.Spec PyProof.Rows L2
theorem all_mk {l : PySem.W.OpenLaw} {w : World} {K : PySem.W.Frag} {h : Heap} {mg : Str → Option Value} {fa f1 f2 f3 f4 f5 f6 f7 f8 f9 f10 f11 f12 f13 f14 f15 f16 f17 f18 f19 f20 f21 f22 f23 f24 : Addr} (X : K.In h) (G : h.Ns mainGlobals mg) (hfa : mg "law" = some (.ref fa))
    {od1 an1 od2 an2 od3 an3 od4 an4 od5 an5 od6 an6 od7 an7 od8 an8 od9 an9 od10 an10 od11 an11 od12 an12 od13 an13 od14 an14 od15 an15 od16 an16 od17 an17 od18 an18 od19 an19 od20 an20 od21 an21 od22 an22 od23 an23 od24 an24 : Option Addr} {sl1 sl2 sl3 sl4 sl5 sl6 sl7 sl8 sl9 sl10 sl11 sl12 sl13 sl14 sl15 sl16 sl17 sl18 sl19 sl20 sl21 sl22 sl23 sl24 : Array (Option Value)} {oc1 kV1 dc1 pm1 cd1 ct1 oc2 kV2 dc2 pm2 cd2 ct2 oc3 kV3 dc3 pm3 cd3 ct3 oc4 kV4 dc4 pm4 cd4 ct4 oc5 kV5 dc5 pm5 cd5 ct5 oc6 kV6 dc6 pm6 cd6 ct6 oc7 kV7 dc7 pm7 cd7 ct7 oc8 kV8 dc8 pm8 cd8 ct8 oc9 kV9 dc9 pm9 cd9 ct9 oc10 kV10 dc10 pm10 cd10 ct10 oc11 kV11 dc11 pm11 cd11 ct11 oc12 kV12 dc12 pm12 cd12 ct12 oc13 kV13 dc13 pm13 cd13 ct13 oc14 kV14 dc14 pm14 cd14 ct14 oc15 kV15 dc15 pm15 cd15 ct15 oc16 kV16 dc16 pm16 cd16 ct16 oc17 kV17 dc17 pm17 cd17 ct17 oc18 kV18 dc18 pm18 cd18 ct18 oc19 kV19 dc19 pm19 cd19 ct19 oc20 kV20 dc20 pm20 cd20 ct20 oc21 kV21 dc21 pm21 cd21 ct21 oc22 kV22 dc22 pm22 cd22 ct22 oc23 kV23 dc23 pm23 cd23 ct23 oc24 kV24 dc24 pm24 cd24 ct24 : Value} {tk : Tok}
    (a1 : PySem.W.nsIn K mainGlobals "is_integer" = some (some (.ref f1))) (l1 : K.lookup f1 = some ⟨oc1, od1, .func (PySem.W.fnOf "is_integer" "is_integer" (defArgs sInt) (defBody sInt) (defScope sInt) .none kV1 dc1 pm1 an1 cd1 ct1), sl1⟩) (c1 : PySem.W.codeIn K cd1 "is_integer" = true) (k1 : PySem.W.keepIn K (.ref f1) = true)
    (a2 : PySem.W.nsIn K mainGlobals "is_in" = some (some (.ref f2))) (l2 : K.lookup f2 = some ⟨oc2, od2, .func (PySem.W.fnOf "is_in" "is_in" (defArgs sIn) (defBody sIn) (defScope sIn) .none kV2 dc2 pm2 an2 cd2 ct2), sl2⟩) (c2 : PySem.W.codeIn K cd2 "is_in" = true) (k2 : PySem.W.keepIn K (.ref f2) = true)
    (a3 : PySem.W.nsIn K mainGlobals "is_list" = some (some (.ref f3))) (l3 : K.lookup f3 = some ⟨oc3, od3, .func (PySem.W.fnOf "is_list" "is_list" (defArgs sLst) (defBody sLst) (defScope sLst) .none kV3 dc3 pm3 an3 cd3 ct3), sl3⟩) (c3 : PySem.W.codeIn K cd3 "is_list" = true) (k3 : PySem.W.keepIn K (.ref f3) = true)
    (a4 : PySem.W.nsIn K mainGlobals "need_line" = some (some (.ref f4))) (l4 : K.lookup f4 = some ⟨oc4, od4, .func (PySem.W.fnOf "need_line" "need_line" (defArgs sNeedL) (defBody sNeedL) (defScope sNeedL) .none kV4 dc4 pm4 an4 cd4 ct4), sl4⟩) (c4 : PySem.W.codeIn K cd4 "need_line" = true) (k4 : PySem.W.keepIn K (.ref f4) = true)
    (a5 : PySem.W.nsIn K mainGlobals "need_person" = some (some (.ref f5))) (l5 : K.lookup f5 = some ⟨oc5, od5, .func (PySem.W.fnOf "need_person" "need_person" (defArgs sNeedP) (defBody sNeedP) (defScope sNeedP) .none kV5 dc5 pm5 an5 cd5 ct5), sl5⟩) (c5 : PySem.W.codeIn K cd5 "need_person" = true) (k5 : PySem.W.keepIn K (.ref f5) = true)
    (a6 : PySem.W.nsIn K mainGlobals "shorter_in" = some (some (.ref f6))) (l6 : K.lookup f6 = some ⟨oc6, od6, .func (PySem.W.fnOf "shorter_in" "shorter_in" (defArgs sShr) (defBody sShr) (defScope sShr) .none kV6 dc6 pm6 an6 cd6 ct6), sl6⟩) (c6 : PySem.W.codeIn K cd6 "shorter_in" = true) (k6 : PySem.W.keepIn K (.ref f6) = true)
    (a7 : PySem.W.nsIn K mainGlobals "shorter_ahead" = some (some (.ref f7))) (l7 : K.lookup f7 = some ⟨oc7, od7, .func (PySem.W.fnOf "shorter_ahead" "shorter_ahead" (defArgs sShrA) (defBody sShrA) (defScope sShrA) .none kV7 dc7 pm7 an7 cd7 ct7), sl7⟩) (c7 : PySem.W.codeIn K cd7 "shorter_ahead" = true) (k7 : PySem.W.keepIn K (.ref f7) = true)
    (a8 : PySem.W.nsIn K mainGlobals "taller_ahead" = some (some (.ref f8))) (l8 : K.lookup f8 = some ⟨oc8, od8, .func (PySem.W.fnOf "taller_ahead" "taller_ahead" (defArgs sTal) (defBody sTal) (defScope sTal) .none kV8 dc8 pm8 an8 cd8 ct8), sl8⟩) (c8 : PySem.W.codeIn K cd8 "taller_ahead" = true) (k8 : PySem.W.keepIn K (.ref f8) = true)
    (a9 : PySem.W.nsIn K mainGlobals "wrong_in" = some (some (.ref f9))) (l9 : K.lookup f9 = some ⟨oc9, od9, .func (PySem.W.fnOf "wrong_in" "wrong_in" (defArgs sWrn) (defBody sWrn) (defScope sWrn) .none kV9 dc9 pm9 an9 cd9 ct9), sl9⟩) (c9 : PySem.W.codeIn K cd9 "wrong_in" = true) (k9 : PySem.W.keepIn K (.ref f9) = true)
    (a10 : PySem.W.nsIn K mainGlobals "count_wrong" = some (some (.ref f10))) (l10 : K.lookup f10 = some ⟨oc10, od10, .func (PySem.W.fnOf "count_wrong" "count_wrong" (defArgs sCntW) (defBody sCntW) (defScope sCntW) .none kV10 dc10 pm10 an10 cd10 ct10), sl10⟩) (c10 : PySem.W.codeIn K cd10 "count_wrong" = true) (k10 : PySem.W.keepIn K (.ref f10) = true)
    (a11 : PySem.W.nsIn K mainGlobals "wrong_counts" = some (some (.ref f11))) (l11 : K.lookup f11 = some ⟨oc11, od11, .func (PySem.W.fnOf "wrong_counts" "wrong_counts" (defArgs sWrnC) (defBody sWrnC) (defScope sWrnC) .none kV11 dc11 pm11 an11 cd11 ct11), sl11⟩) (c11 : PySem.W.codeIn K cd11 "wrong_counts" = true) (k11 : PySem.W.keepIn K (.ref f11) = true)
    (a12 : PySem.W.nsIn K mainGlobals "movers_in" = some (some (.ref f12))) (l12 : K.lookup f12 = some ⟨oc12, od12, .func (PySem.W.fnOf "movers_in" "movers_in" (defArgs sMov) (defBody sMov) (defScope sMov) .none kV12 dc12 pm12 an12 cd12 ct12), sl12⟩) (c12 : PySem.W.codeIn K cd12 "movers_in" = true) (k12 : PySem.W.keepIn K (.ref f12) = true)
    (a13 : PySem.W.nsIn K mainGlobals "runs_in" = some (some (.ref f13))) (l13 : K.lookup f13 = some ⟨oc13, od13, .func (PySem.W.fnOf "runs_in" "runs_in" (defArgs sRunsIn) (defBody sRunsIn) (defScope sRunsIn) .none kV13 dc13 pm13 an13 cd13 ct13), sl13⟩) (c13 : PySem.W.codeIn K cd13 "runs_in" = true) (k13 : PySem.W.keepIn K (.ref f13) = true)
    (a14 : PySem.W.nsIn K mainGlobals "runs" = some (some (.ref f14))) (l14 : K.lookup f14 = some ⟨oc14, od14, .func (PySem.W.fnOf "runs" "runs" (defArgs sRuns) (defBody sRuns) (defScope sRuns) .none kV14 dc14 pm14 an14 cd14 ct14), sl14⟩) (c14 : PySem.W.codeIn K cd14 "runs" = true) (k14 : PySem.W.keepIn K (.ref f14) = true)
    (a15 : PySem.W.nsIn K mainGlobals "counts_in" = some (some (.ref f15))) (l15 : K.lookup f15 = some ⟨oc15, od15, .func (PySem.W.fnOf "counts_in" "counts_in" (defArgs sCtsIn) (defBody sCtsIn) (defScope sCtsIn) .none kV15 dc15 pm15 an15 cd15 ct15), sl15⟩) (c15 : PySem.W.codeIn K cd15 "counts_in" = true) (k15 : PySem.W.keepIn K (.ref f15) = true)
    (a16 : PySem.W.nsIn K mainGlobals "run_counts" = some (some (.ref f16))) (l16 : K.lookup f16 = some ⟨oc16, od16, .func (PySem.W.fnOf "run_counts" "run_counts" (defArgs sRunC) (defBody sRunC) (defScope sRunC) .none kV16 dc16 pm16 an16 cd16 ct16), sl16⟩) (c16 : PySem.W.codeIn K cd16 "run_counts" = true) (k16 : PySem.W.keepIn K (.ref f16) = true)
    (a17 : PySem.W.nsIn K mainGlobals "run_sum" = some (some (.ref f17))) (l17 : K.lookup f17 = some ⟨oc17, od17, .func (PySem.W.fnOf "run_sum" "run_sum" (defArgs sRunS) (defBody sRunS) (defScope sRunS) .none kV17 dc17 pm17 an17 cd17 ct17), sl17⟩) (c17 : PySem.W.codeIn K cd17 "run_sum" = true) (k17 : PySem.W.keepIn K (.ref f17) = true)
    (a18 : PySem.W.nsIn K mainGlobals "ready" = some (some (.ref f18))) (l18 : K.lookup f18 = some ⟨oc18, od18, .func (PySem.W.fnOf "ready" "ready" (defArgs sReady) (defBody sReady) (defScope sReady) .none kV18 dc18 pm18 an18 cd18 ct18), sl18⟩) (c18 : PySem.W.codeIn K cd18 "ready" = true) (k18 : PySem.W.keepIn K (.ref f18) = true)
    (a19 : PySem.W.nsIn K mainGlobals "parting" = some (some (.ref f19))) (l19 : K.lookup f19 = some ⟨oc19, od19, .func (PySem.W.fnOf "parting" "parting" (defArgs sPart) (defBody sPart) (defScope sPart) .none kV19 dc19 pm19 an19 cd19 ct19), sl19⟩) (c19 : PySem.W.codeIn K cd19 "parting" = true) (k19 : PySem.W.keepIn K (.ref f19) = true)
    (a20 : PySem.W.nsIn K mainGlobals "greatest_run" = some (some (.ref f20))) (l20 : K.lookup f20 = some ⟨oc20, od20, .func (PySem.W.fnOf "greatest_run" "greatest_run" (defArgs sBest) (defBody sBest) (defScope sBest) .none kV20 dc20 pm20 an20 cd20 ct20), sl20⟩) (c20 : PySem.W.codeIn K cd20 "greatest_run" = true) (k20 : PySem.W.keepIn K (.ref f20) = true)
    (a21 : PySem.W.nsIn K mainGlobals "run_groups" = some (some (.ref f21))) (l21 : K.lookup f21 = some ⟨oc21, od21, .func (PySem.W.fnOf "run_groups" "run_groups" (defArgs sGrp) (defBody sGrp) (defScope sGrp) .none kV21 dc21 pm21 an21 cd21 ct21), sl21⟩) (c21 : PySem.W.codeIn K cd21 "run_groups" = true) (k21 : PySem.W.keepIn K (.ref f21) = true)
    (a22 : PySem.W.nsIn K mainGlobals "_law_taken" = some (some (.ref f22))) (l22 : K.lookup f22 = some ⟨oc22, od22, .func (PySem.W.fnOf "_law_taken" "_law_taken" (defArgs sTaken) (defBody sTaken) (defScope sTaken) .none kV22 dc22 pm22 an22 cd22 ct22), sl22⟩) (c22 : PySem.W.codeIn K cd22 "_law_taken" = true) (k22 : PySem.W.keepIn K (.ref f22) = true)
    (a23 : PySem.W.nsIn K mainGlobals "_law_line" = some (some (.ref f23))) (l23 : K.lookup f23 = some ⟨oc23, od23, .func (PySem.W.fnOf "_law_line" "_law_line" (defArgs sLine) (defBody sLine) (defScope sLine) .none kV23 dc23 pm23 an23 cd23 ct23), sl23⟩) (c23 : PySem.W.codeIn K cd23 "_law_line" = true) (k23 : PySem.W.keepIn K (.ref f23) = true)
    (a24 : PySem.W.nsIn K mainGlobals "law" = some (some (.ref f24))) (l24 : K.lookup f24 = some ⟨oc24, od24, .func (PySem.W.fnOf "law" "law" (defArgs sLaw) (defBody sLaw) (defScope sLaw) .none kV24 dc24 pm24 an24 cd24 ct24), sl24⟩) (c24 : PySem.W.codeIn K cd24 "law" = true) (k24 : PySem.W.keepIn K (.ref f24) = true)
    (aM : PySem.W.nsIn K mainGlobals "MOST_PEOPLE" = some (some (.int 8 tk)))
    (z_isinstance : PySem.W.nsIn K mainGlobals "isinstance" = some none) (z_int : PySem.W.nsIn K mainGlobals "int" = some none) (z_bool : PySem.W.nsIn K mainGlobals "bool" = some none) (z_tuple : PySem.W.nsIn K mainGlobals "tuple" = some none) (z_len : PySem.W.nsIn K mainGlobals "len" = some none) (z_enumerate : PySem.W.nsIn K mainGlobals "enumerate" = some none) (z_sorted : PySem.W.nsIn K mainGlobals "sorted" = some none) (z_range : PySem.W.nsIn K mainGlobals "range" = some none) (z_list : PySem.W.nsIn K mainGlobals "list" = some none) (z_sum : PySem.W.nsIn K mainGlobals "sum" = some none) (z_min : PySem.W.nsIn K mainGlobals "min" = some none) (z_max : PySem.W.nsIn K mainGlobals "max" = some none) :
    ∃ fd : FuncData, (∀ (s : Shared) (v : Value), BindsTo s fd ⟨[v], []⟩ [("_law_script", v)]) ∧ ∀ base : Heap, K.In base → base.Ns mainGlobals mg → FnOk l.prog w K mg base CX0 5 fa fd ["_law_script"] (spLaw K) := by
  have e := hfa.symm.trans (PySem.W.mg_of X G a24)
  cases e
  have B : Bi mg := ⟨PySem.W.mg_none_of X G z_isinstance, PySem.W.mg_none_of X G z_int, PySem.W.mg_none_of X G z_bool, PySem.W.mg_none_of X G z_tuple, PySem.W.mg_none_of X G z_len, PySem.W.mg_none_of X G z_enumerate, PySem.W.mg_none_of X G z_sorted, PySem.W.mg_none_of X G z_range, PySem.W.mg_none_of X G z_list, PySem.W.mg_none_of X G z_sum, PySem.W.mg_none_of X G z_min, PySem.W.mg_none_of X G z_max⟩
  have gM := PySem.W.mg_of X G aM
  have F1 := fun_mk (st := sInt) l1 c1 k1
  have F2 := fun_mk (st := sIn) l2 c2 k2
  have F3 := fun_mk (st := sLst) l3 c3 k3
  have F4 := fun_mk (st := sNeedL) l4 c4 k4
  have F5 := fun_mk (st := sNeedP) l5 c5 k5
  have F6 := fun_mk (st := sShr) l6 c6 k6
  have F7 := fun_mk (st := sShrA) l7 c7 k7
  have F8 := fun_mk (st := sTal) l8 c8 k8
  have F9 := fun_mk (st := sWrn) l9 c9 k9
  have F10 := fun_mk (st := sCntW) l10 c10 k10
  have F11 := fun_mk (st := sWrnC) l11 c11 k11
  have F12 := fun_mk (st := sMov) l12 c12 k12
  have F13 := fun_mk (st := sRunsIn) l13 c13 k13
  have F14 := fun_mk (st := sRuns) l14 c14 k14
  have F15 := fun_mk (st := sCtsIn) l15 c15 k15
  have F16 := fun_mk (st := sRunC) l16 c16 k16
  have F17 := fun_mk (st := sRunS) l17 c17 k17
  have F18 := fun_mk (st := sReady) l18 c18 k18
  have F19 := fun_mk (st := sPart) l19 c19 k19
  have F20 := fun_mk (st := sBest) l20 c20 k20
  have F21 := fun_mk (st := sGrp) l21 c21 k21
  have F22 := fun_mk (st := sTaken) l22 c22 k22
  have F23 := fun_mk (st := sLine) l23 c23 k23
  have F24 := fun_mk (st := sLaw) l24 c24 k24
  have b1 := F1.binds (ps := ["value"]) fun _ _ _ _ _ _ us hl => match us, hl with | [_], _ => rfl
  have b2 := F2.binds (ps := ["value", "least", "most"]) fun _ _ _ _ _ _ us hl => match us, hl with | [_, _, _], _ => rfl
  have b3 := F3.binds (ps := ["value", "least", "most"]) fun _ _ _ _ _ _ us hl => match us, hl with | [_, _, _], _ => rfl
  have b4 := F4.binds (ps := ["line"]) fun _ _ _ _ _ _ us hl => match us, hl with | [_], _ => rfl
  have b5 := F5.binds (ps := ["line", "person"]) fun _ _ _ _ _ _ us hl => match us, hl with | [_, _], _ => rfl
  have b6 := F6.binds (ps := ["line", "person"]) fun _ _ _ _ _ _ us hl => match us, hl with | [_, _], _ => rfl
  have b7 := F7.binds (ps := ["line", "person"]) fun _ _ _ _ _ _ us hl => match us, hl with | [_, _], _ => rfl
  have b8 := F8.binds (ps := ["line", "person"]) fun _ _ _ _ _ _ us hl => match us, hl with | [_, _], _ => rfl
  have b9 := F9.binds (ps := ["line"]) fun _ _ _ _ _ _ us hl => match us, hl with | [_], _ => rfl
  have b10 := F10.binds (ps := ["line"]) fun _ _ _ _ _ _ us hl => match us, hl with | [_], _ => rfl
  have b11 := F11.binds (ps := ["line"]) fun _ _ _ _ _ _ us hl => match us, hl with | [_], _ => rfl
  have b12 := F12.binds (ps := ["line"]) fun _ _ _ _ _ _ us hl => match us, hl with | [_], _ => rfl
  have b13 := F13.binds (ps := ["line", "person"]) fun _ _ _ _ _ _ us hl => match us, hl with | [_, _], _ => rfl
  have b14 := F14.binds (ps := ["line", "person"]) fun _ _ _ _ _ _ us hl => match us, hl with | [_, _], _ => rfl
  have b15 := F15.binds (ps := ["line"]) fun _ _ _ _ _ _ us hl => match us, hl with | [_], _ => rfl
  have b16 := F16.binds (ps := ["line"]) fun _ _ _ _ _ _ us hl => match us, hl with | [_], _ => rfl
  have b17 := F17.binds (ps := ["line"]) fun _ _ _ _ _ _ us hl => match us, hl with | [_], _ => rfl
  have b18 := F18.binds (ps := ["line", "person"]) fun _ _ _ _ _ _ us hl => match us, hl with | [_, _], _ => rfl
  have b19 := F19.binds (ps := ["line", "person"]) fun _ _ _ _ _ _ us hl => match us, hl with | [_, _], _ => rfl
  have b20 := F20.binds (ps := ["line"]) fun _ _ _ _ _ _ us hl => match us, hl with | [_], _ => rfl
  have b21 := F21.binds (ps := ["line"]) fun _ _ _ _ _ _ us hl => match us, hl with | [_], _ => rfl
  have b22 := F22.binds (ps := ["_law_row", "_law_many"]) fun _ _ _ _ _ _ us hl => match us, hl with | [_, _], _ => rfl
  have b23 := F23.binds (ps := ["_law_row", "_law_most"]) fun _ _ _ _ _ _ us hl => match us, hl with | [_, _], _ => rfl
  refine ⟨PySem.W.fnOf "law" "law" (defArgs sLaw) (defBody sLaw) (defScope sLaw) .none kV24 dc24 pm24 an24 cd24 ct24, fun s v => .of_eq rfl, fun base _ _ => ?_⟩
  have d_is_integer : Dn l.prog w K mg base 1 "is_integer" spInt := ⟨⟨_, _, _, ok_int F1 B, PySem.W.mg_of X G a1, k1, b1⟩⟩
  have d_is_in : Dn l.prog w K mg base 2 "is_in" spIn := ⟨⟨_, _, _, ok_in F2 d_is_integer, PySem.W.mg_of X G a2, k2, b2⟩⟩
  have d_is_list : Dn l.prog w K mg base 1 "is_list" spLst := ⟨⟨_, _, _, ok_lst F3 B, PySem.W.mg_of X G a3, k3, b3⟩⟩
  have d_need_line : Dn l.prog w K mg base 3 "need_line" spNeedL := ⟨⟨_, _, _, ok_needL F4 B gM d_is_in d_is_list, PySem.W.mg_of X G a4, k4, b4⟩⟩
  have d_need_person : Dn l.prog w K mg base 3 "need_person" spNeedP := ⟨⟨_, _, _, ok_needP F5 B d_is_in, PySem.W.mg_of X G a5, k5, b5⟩⟩
  have d_shorter_in : Dn l.prog w K mg base 1 "shorter_in" spShr := ⟨⟨_, _, _, ok_shr F6, PySem.W.mg_of X G a6, k6, b6⟩⟩
  have d_shorter_ahead : Dn l.prog w K mg base 4 "shorter_ahead" spShrA := ⟨⟨_, _, _, ok_shrA F7 B d_need_line d_need_person d_shorter_in, PySem.W.mg_of X G a7, k7, b7⟩⟩
  have d_taller_ahead : Dn l.prog w K mg base 4 "taller_ahead" spTal := ⟨⟨_, _, _, ok_tal F8 d_need_line d_need_person, PySem.W.mg_of X G a8, k8, b8⟩⟩
  have d_wrong_in : Dn l.prog w K mg base 2 "wrong_in" spWrn := ⟨⟨_, _, _, ok_wrn F9 B d_shorter_in, PySem.W.mg_of X G a9, k9, b9⟩⟩
  have d_count_wrong : Dn l.prog w K mg base 4 "count_wrong" spCntW := ⟨⟨_, _, _, ok_cntW F10 B d_need_line d_wrong_in, PySem.W.mg_of X G a10, k10, b10⟩⟩
  have d_wrong_counts : Dn l.prog w K mg base 4 "wrong_counts" spWrnC := ⟨⟨_, _, _, ok_wrnC F11 B d_need_line d_shorter_in, PySem.W.mg_of X G a11, k11, b11⟩⟩
  have d_movers_in : Dn l.prog w K mg base 1 "movers_in" spMov := ⟨⟨_, _, _, ok_mov F12 B, PySem.W.mg_of X G a12, k12, b12⟩⟩
  have d_runs_in : Dn l.prog w K mg base 1 "runs_in" spRunsIn := ⟨⟨_, _, _, ok_runsIn F13 B, PySem.W.mg_of X G a13, k13, b13⟩⟩
  have d_runs : Dn l.prog w K mg base 4 "runs" spRuns := ⟨⟨_, _, _, ok_runs F14 B d_need_line d_need_person d_runs_in, PySem.W.mg_of X G a14, k14, b14⟩⟩
  have d_counts_in : Dn l.prog w K mg base 2 "counts_in" spCtsIn := ⟨⟨_, _, _, ok_ctsIn F15 B d_runs_in, PySem.W.mg_of X G a15, k15, b15⟩⟩
  have d_run_counts : Dn l.prog w K mg base 4 "run_counts" spRunC := ⟨⟨_, _, _, ok_runC F16 B d_need_line d_counts_in, PySem.W.mg_of X G a16, k16, b16⟩⟩
  have d_run_sum : Dn l.prog w K mg base 4 "run_sum" spRunS := ⟨⟨_, _, _, ok_runS F17 B d_need_line d_counts_in, PySem.W.mg_of X G a17, k17, b17⟩⟩
  have d_ready : Dn l.prog w K mg base 4 "ready" spReady := ⟨⟨_, _, _, ok_ready F18 d_need_line d_need_person d_movers_in, PySem.W.mg_of X G a18, k18, b18⟩⟩
  have d_parting : Dn l.prog w K mg base 4 "parting" spPart := ⟨⟨_, _, _, ok_part F19 B d_need_line d_need_person d_runs_in, PySem.W.mg_of X G a19, k19, b19⟩⟩
  have d_greatest_run : Dn l.prog w K mg base 4 "greatest_run" spBest := ⟨⟨_, _, _, ok_best F20 B d_need_line d_runs_in, PySem.W.mg_of X G a20, k20, b20⟩⟩
  have d_run_groups : Dn l.prog w K mg base 4 "run_groups" spGrp := ⟨⟨_, _, _, ok_grp F21 B d_need_line d_runs_in, PySem.W.mg_of X G a21, k21, b21⟩⟩
  have d__law_taken : Dn l.prog w K mg base 1 "_law_taken" (spTaken K) := ⟨⟨_, _, _, ok_taken F22 B, PySem.W.mg_of X G a22, k22, b22⟩⟩
  have d__law_line : Dn l.prog w K mg base 2 "_law_line" (spLine K) := ⟨⟨_, _, _, ok_line F23 B d__law_taken, PySem.W.mg_of X G a23, k23, b23⟩⟩
  have C : Defs l.prog w K mg base := ⟨d__law_line, d_run_groups, d_runs, d_shorter_ahead, d_wrong_counts, d_run_counts, d_parting, d_ready, d_taller_ahead, d_count_wrong, d_run_sum, d_greatest_run⟩
  exact ok_law F24 B C
end OV
open PySem PySem.W PyProof.Rows
set_option maxHeartbeats 0 in
theorem PySem.Challenge.cw_overtake_k84_whole_runs_and_pairs_holds : PySem.Challenge.rw_overtake_k84_whole_runs_and_pairs.Holds := by
  w_on; o_law; k_head; (case hw => w_witness2)
  k_fill
  refine L2.walk_of (l := PySem.Challenge.rw_overtake_k84_whole_runs_and_pairs) (n := 63) (k := 5) (x := "_law_script") (CX := fun _ => L2.CX0) (sp := fun w => OV.spLaw _) rfl (by decide) rfl ⟨rfl, by decide, by decide⟩ (fun w h Y => PySem.W.kIn_of Y) ?F (fun _ _ a ns hl _ hS => ⟨a, ns, rfl, hS, fun _ => rfl⟩) (fun _ _ _ _ _ h => h)
  case F =>
    intro w mg fa h KX G hmg
    refine' OV.all_mk KX G hmg ?a1 ?l1 ?c1 ?k1 ?a2 ?l2 ?c2 ?k2 ?a3 ?l3 ?c3 ?k3 ?a4 ?l4 ?c4 ?k4 ?a5 ?l5 ?c5 ?k5 ?a6 ?l6 ?c6 ?k6 ?a7 ?l7 ?c7 ?k7 ?a8 ?l8 ?c8 ?k8 ?a9 ?l9 ?c9 ?k9 ?a10 ?l10 ?c10 ?k10 ?a11 ?l11 ?c11 ?k11 ?a12 ?l12 ?c12 ?k12 ?a13 ?l13 ?c13 ?k13 ?a14 ?l14 ?c14 ?k14 ?a15 ?l15 ?c15 ?k15 ?a16 ?l16 ?c16 ?k16 ?a17 ?l17 ?c17 ?k17 ?a18 ?l18 ?c18 ?k18 ?a19 ?l19 ?c19 ?k19 ?a20 ?l20 ?c20 ?k20 ?a21 ?l21 ?c21 ?k21 ?a22 ?l22 ?c22 ?k22 ?a23 ?l23 ?c23 ?k23 ?a24 ?l24 ?c24 ?k24 ?aM ?z_isinstance ?z_int ?z_bool ?z_tuple ?z_len ?z_enumerate ?z_sorted ?z_range ?z_list ?z_sum ?z_min ?z_max
    (case a1 => k_is); (case l1 => k_is); (case c1 => k_is); (case k1 => k_is); (case a2 => k_is); (case l2 => k_is); (case c2 => k_is); (case k2 => k_is)
    (case a3 => k_is); (case l3 => k_is); (case c3 => k_is); (case k3 => k_is); (case a4 => k_is); (case l4 => k_is); (case c4 => k_is); (case k4 => k_is)
    (case a5 => k_is); (case l5 => k_is); (case c5 => k_is); (case k5 => k_is); (case a6 => k_is); (case l6 => k_is); (case c6 => k_is); (case k6 => k_is)
    (case a7 => k_is); (case l7 => k_is); (case c7 => k_is); (case k7 => k_is); (case a8 => k_is); (case l8 => k_is); (case c8 => k_is); (case k8 => k_is)
    (case a9 => k_is); (case l9 => k_is); (case c9 => k_is); (case k9 => k_is); (case a10 => k_is); (case l10 => k_is); (case c10 => k_is); (case k10 => k_is)
    (case a11 => k_is); (case l11 => k_is); (case c11 => k_is); (case k11 => k_is); (case a12 => k_is); (case l12 => k_is); (case c12 => k_is); (case k12 => k_is)
    (case a13 => k_is); (case l13 => k_is); (case c13 => k_is); (case k13 => k_is); (case a14 => k_is); (case l14 => k_is); (case c14 => k_is); (case k14 => k_is)
    (case a15 => k_is); (case l15 => k_is); (case c15 => k_is); (case k15 => k_is); (case a16 => k_is); (case l16 => k_is); (case c16 => k_is); (case k16 => k_is)
    (case a17 => k_is); (case l17 => k_is); (case c17 => k_is); (case k17 => k_is); (case a18 => k_is); (case l18 => k_is); (case c18 => k_is); (case k18 => k_is)
    (case a19 => k_is); (case l19 => k_is); (case c19 => k_is); (case k19 => k_is); (case a20 => k_is); (case l20 => k_is); (case c20 => k_is); (case k20 => k_is)
    (case a21 => k_is); (case l21 => k_is); (case c21 => k_is); (case k21 => k_is); (case a22 => k_is); (case l22 => k_is); (case c22 => k_is); (case k22 => k_is)
    (case a23 => k_is); (case l23 => k_is); (case c23 => k_is); (case k23 => k_is); (case a24 => k_is); (case l24 => k_is); (case c24 => k_is); (case k24 => k_is)
    (case aM => k_is); (case z_isinstance => k_is); (case z_int => k_is); (case z_bool => k_is); (case z_tuple => k_is); (case z_len => k_is); (case z_enumerate => k_is); (case z_sorted => k_is)
    (case z_range => k_is); (case z_list => k_is); (case z_sum => k_is); (case z_min => k_is); (case z_max => k_is)
#print axioms PySem.Challenge.cw_overtake_k84_whole_runs_and_pairs_holds
