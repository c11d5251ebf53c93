import PyProof.Rows.All
import Wide.All
import OpenK.AllK
import Wide.FinOn
import HandS.ForMost
import HandS.Walk
import KE.GoesZip
import KE.GoesEnum
import HandS.Defaults
import HandS.WordsExc
import HandS.IsInst
import HandS.Star
import HandS.Style
import HandS.Property
import HandS.Replace
import HandS.Exc
import HandS.Codes
import HandS.HeadHook1
import HandS.RaiseMore
import PyProof.ReprLen
import PyProof.ReprRoads
import HandS.Ends
import HandS.HeadEnd
import HandS.TupMul
import HandS.Conv
import PyProof.ListStr
import HandS.More
import HandS.Head0
import HandS.Head1
import HandS.Head2
import HandS.HeadHook2
import PySem.Challenge.RW_guardhopes_k33_fitting_machines
set_option Elab.async false
set_option linter.all false
set_option maxRecDepth 100000
set_option maxHeartbeats 0
namespace GH
/-! endless words -/
abbrev W := Nat → Nat
def app (u : List Nat) (a : W) : W := fun n => if h : n < u.length then u[n] else a (n - u.length)
def rep (v : List Nat) : W := fun n => v.getD (n % v.length) 0
theorem app_lt {u : List Nat} {a : W} {n : Nat} (h : n < u.length) : app u a n = u[n] := by
  unfold app; rw [dif_pos h]
theorem app_ge {u : List Nat} {a : W} {n : Nat} (h : u.length ≤ n) : app u a n = a (n - u.length) := by
  unfold app; rw [dif_neg (by omega)]
theorem app_add (u : List Nat) (a : W) (n : Nat) : app u a (u.length + n) = a n := by
  rw [app_ge (by omega)]; congr 1; omega
theorem app_nil (a : W) : app [] a = a := by
  funext n; rw [app_ge (by simp)]; simp
theorem app_append (u v : List Nat) (a : W) : app (u ++ v) a = app u (app v a) := by
  funext n
  by_cases h : n < u.length
  · rw [app_lt (by simp; omega), app_lt h, List.getElem_append_left h]
  · rw [app_ge (u := u) (by omega)]
    by_cases h2 : n - u.length < v.length
    · rw [app_lt (by simp; omega), app_lt h2, List.getElem_append_right (by omega)]
    · rw [app_ge (by simp; omega), app_ge (by omega)]
      congr 1; simp; omega
/-- the one endless word that begins with v and goes on as itself -/
theorem rep_uniq {v : List Nat} (hv : v ≠ []) {a : W} (h : a = app v a) : a = rep v := by
  have hl : 0 < v.length := List.length_pos_iff.mpr hv
  funext n
  induction n using Nat.strongRecOn with
  | ind n ih =>
    rw [h]
    by_cases hn : n < v.length
    · rw [app_lt hn]
      unfold rep
      rw [Nat.mod_eq_of_lt hn, List.getD_eq_getElem?_getD, List.getElem?_eq_getElem hn]; rfl
    · rw [app_ge (by omega), ih _ (by omega)]
      unfold rep
      rw [← Nat.mod_eq_sub_mod (by omega)]
theorem app_rep {v : List Nat} (hv : v ≠ []) : app v (rep v) = rep v := by
  have hl : 0 < v.length := List.length_pos_iff.mpr hv
  funext n
  by_cases hn : n < v.length
  · rw [app_lt hn]
    unfold rep
    rw [Nat.mod_eq_of_lt hn, List.getD_eq_getElem?_getD, List.getElem?_eq_getElem hn]; rfl
  · rw [app_ge (by omega)]
    unfold rep
    rw [← Nat.mod_eq_sub_mod (by omega)]
def pow (v : List Nat) : Nat → List Nat
  | 0 => []
  | n + 1 => v ++ pow v n
theorem app_pow {v : List Nat} (hv : v ≠ []) : ∀ m, app (pow v m) (rep v) = rep v
  | 0 => app_nil _
  | m + 1 => by
    show app (v ++ pow v m) (rep v) = rep v
    rw [app_append, app_pow hv m, app_rep hv]
theorem pow_ne {v : List Nat} (hv : v ≠ []) {m : Nat} (hm : 0 < m) : pow v m ≠ [] := by
  cases m with
  | zero => omega
  | succ m =>
    intro h
    exact hv (List.append_eq_nil_iff.mp h).1
theorem rep_pow {v : List Nat} (hv : v ≠ []) {m : Nat} (hm : 0 < m) : rep (pow v m) = rep v :=
  (rep_uniq (pow_ne hv hm) (app_pow hv m).symm).symm
theorem rep_turn (v w : List Nat) (h : v ++ w ≠ []) : app v (rep (w ++ v)) = rep (v ++ w) := by
  have h2 : w ++ v ≠ [] := by
    intro e
    obtain ⟨a, b⟩ := List.append_eq_nil_iff.mp e
    exact h (by rw [a, b]; rfl)
  have e : app w (rep (v ++ w)) = rep (w ++ v) := rep_uniq h2 (by
    rw [app_append, ← app_append v w, app_rep h])
  rw [← e, ← app_append, app_rep h]
/-! machines: letters, rows (colour, next states) -/
abbrev Row := Nat × List Nat
def stp (L : List Nat) (R : List Row) (s c : Nat) : Nat := ((R.getD s (0, [])).2).getD (L.idxOf c) 0
def col (R : List Row) (s : Nat) : Nat := (R.getD s (0, [])).1
def way (L : List Nat) (R : List Row) : Nat → List Nat → List Nat
  | _, [] => []
  | s, c :: w => stp L R s c :: way L R (stp L R s c) w
def endS (L : List Nat) (R : List Row) (s : Nat) (w : List Nat) : Nat := w.foldl (stp L R) s
theorem way_append (L : List Nat) (R : List Row) : ∀ (u v : List Nat) (s : Nat), way L R s (u ++ v) = way L R s u ++ way L R (endS L R s u) v
  | [], _, _ => rfl
  | c :: u, v, s => by
    show stp L R s c :: way L R (stp L R s c) (u ++ v) = _
    rw [way_append L R u v]; rfl
theorem way_length (L : List Nat) (R : List Row) : ∀ (u : List Nat) (s : Nat), (way L R s u).length = u.length
  | [], _ => rfl
  | c :: u, s => by
    show (way L R (stp L R s c) u).length + 1 = u.length + 1
    rw [way_length L R u]
theorem way_last (L : List Nat) (R : List Row) : ∀ (u : List Nat) (s : Nat), (s :: way L R s u).getLast? = some (endS L R s u)
  | [], _ => rfl
  | c :: u, s => by
    show (s :: stp L R s c :: way L R (stp L R s c) u).getLast? = some (endS L R (stp L R s c) u)
    rw [List.getLast?_cons_cons, way_last L R u]
theorem endS_append (L : List Nat) (R : List Row) (u v : List Nat) (s : Nat) : endS L R s (u ++ v) = endS L R (endS L R s u) v := by
  unfold endS; rw [List.foldl_append]
/-- the run: the state behind n letters -/
def run (L : List Nat) (R : List Row) (s : Nat) (a : W) : Nat → Nat
  | 0 => s
  | n + 1 => stp L R (run L R s a n) (a n)
theorem run_shift (L : List Nat) (R : List Row) (s : Nat) (a : W) : ∀ n m, run L R s a (n + m) = run L R (run L R s a n) (fun k => a (n + k)) m
  | n, 0 => rfl
  | n, m + 1 => by
    show stp L R (run L R s a (n + m)) (a (n + m)) = _
    rw [run_shift L R s a n m]; rfl
theorem run_app (L : List Nat) (R : List Row) : ∀ (u : List Nat) (s : Nat) (a : W), run L R s (app u a) u.length = endS L R s u
  | [], _, _ => rfl
  | c :: u, s, a => by
    have e : run L R s (app (c :: u) a) (1 + u.length) = run L R (run L R s (app (c :: u) a) 1) (fun k => app (c :: u) a (1 + k)) u.length := run_shift ..
    have e1 : run L R s (app (c :: u) a) 1 = stp L R s c := rfl
    have e2 : (fun k => app (c :: u) a (1 + k)) = app u a := by
      funext k
      have := app_append [c] u a
      show app ([c] ++ u) a (1 + k) = app u a k
      rw [this, show 1 = [c].length from rfl, app_add]
    rw [List.length_cons, Nat.add_comm, e, e1, e2, run_app L R u]; rfl
theorem run_app_add (L : List Nat) (R : List Row) (u : List Nat) (s : Nat) (a : W) (n : Nat) : run L R s (app u a) (u.length + n) = run L R (endS L R s u) a n := by
  rw [run_shift, run_app]
  congr 1
  funext k
  exact app_add u a k
theorem run_way (L : List Nat) (R : List Row) : ∀ (u : List Nat) (s : Nat) (a : W) (i : Nat) (h : i < u.length), (way L R s u)[i]? = some (run L R s (app u a) (i + 1))
  | c :: u, s, a, 0, h => by
    show some (stp L R s c) = some (stp L R s (app (c :: u) a 0))
    rw [app_lt (by simp)]; rfl
  | c :: u, s, a, i + 1, h => by
    have h' : i < u.length := by simpa using h
    show (way L R (stp L R s c) u)[i]? = _
    rw [run_way L R u (stp L R s c) a i h']
    have e : app (c :: u) a = app [c] (app u a) := app_append [c] u a
    have e2 := run_app_add L R [c] s (app u a) (i + 1)
    rw [e, show i + 1 + 1 = [c].length + (i + 1) by simp; omega, e2]; rfl
/-- a colour comes again and again -/
def Io (L : List Nat) (R : List Row) (s : Nat) (a : W) (c : Nat) : Prop := ∀ n, ∃ m, n ≤ m ∧ col R (run L R s a (m + 1)) = c
/-- the endless run from s lies in the wish -/
def Lies (L : List Nat) (R : List Row) (s : Nat) (a : W) : Prop := ∃ c, Io L R s a c ∧ (∀ c', Io L R s a c' → c' ≤ c) ∧ c % 2 = 0
theorem Io_app (L : List Nat) (R : List Row) (u : List Nat) (s : Nat) (a : W) (c : Nat) : Io L R s (app u a) c ↔ Io L R (endS L R s u) a c := by
  constructor
  · intro h n
    obtain ⟨m, hm, e⟩ := h (u.length + n)
    refine ⟨m - u.length, by omega, ?_⟩
    rw [← run_app_add L R u s a, show u.length + (m - u.length + 1) = m + 1 by omega]
    exact e
  · intro h n
    obtain ⟨m, hm, e⟩ := h n
    refine ⟨u.length + m, by omega, ?_⟩
    rw [show u.length + m + 1 = u.length + (m + 1) by omega, run_app_add]
    exact e
theorem Lies_app (L : List Nat) (R : List Row) (u : List Nat) (s : Nat) (a : W) : Lies L R s (app u a) ↔ Lies L R (endS L R s u) a := by
  unfold Lies
  simp only [Io_app]
/-- the greatest of some numbers -/
def IsMax (l : List Nat) (m : Nat) : Prop := m ∈ l ∧ ∀ x ∈ l, x ≤ m
/-- if the colours that come again and again are those of a list, its greatest decides -/
theorem lies_of_max {L : List Nat} {R : List Row} {s : Nat} {a : W} {l : List Nat} {m : Nat} (h : ∀ c, Io L R s a c ↔ c ∈ l) (hm : IsMax l m) : Lies L R s a ↔ m % 2 = 0 := by
  constructor
  · rintro ⟨c, h1, h2, h3⟩
    have e : c = m := Nat.le_antisymm (hm.2 c ((h c).mp h1)) (h2 m ((h m).mpr hm.1))
    rw [← e]; exact h3
  · intro e
    exact ⟨m, (h m).mpr hm.1, fun c' h' => hm.2 c' ((h c').mp h'), e⟩
/-! a round that is gone through again and again -/
def iter (f : Nat → Nat) : Nat → Nat → Nat
  | 0, s => s
  | n + 1, s => iter f n (f s)
theorem iter_succ (f : Nat → Nat) : ∀ n s, iter f (n + 1) s = f (iter f n s)
  | 0, _ => rfl
  | n + 1, s => iter_succ f n (f s)
theorem iter_add (f : Nat → Nat) : ∀ n m s, iter f (n + m) s = iter f m (iter f n s)
  | 0, m, s => by rw [Nat.zero_add]; rfl
  | n + 1, m, s => by rw [Nat.succ_add]; exact iter_add f n m (f s)
theorem endS_pow (L : List Nat) (R : List Row) (v : List Nat) : ∀ n s, endS L R s (pow v n) = iter (fun x => endS L R x v) n s
  | 0, _ => rfl
  | n + 1, s => by
    show endS L R s (v ++ pow v n) = _
    rw [endS_append, endS_pow L R v n]; rfl
theorem pow_length (v : List Nat) : ∀ n, (pow v n).length = n * v.length
  | 0 => by simp [pow]
  | n + 1 => by
    show (v ++ pow v n).length = _
    rw [List.length_append, pow_length v n, Nat.succ_mul, Nat.add_comm]
/-- behind n rounds, i letters more -/
theorem run_rep {L : List Nat} {R : List Row} {v : List Nat} (hv : v ≠ []) (s n i : Nat) (hi : i < v.length) :
    (way L R (iter (fun x => endS L R x v) n s) v)[i]? = some (run L R s (rep v) (n * v.length + i + 1)) := by
  rw [run_way L R v _ (rep v) i hi, app_rep hv]
  have e := run_app_add L R (pow v n) s (rep v) (i + 1)
  rw [app_pow hv, pow_length, endS_pow] at e
  rw [show n * v.length + i + 1 = n * v.length + (i + 1) by omega, e]
/-- the states come round: from j on with the period p -/
theorem iter_period {f : Nat → Nat} {s j p : Nat} (h : iter f (j + p) s = iter f j s) : ∀ q r, iter f (j + q * p + r) s = iter f (j + r) s
  | 0, r => by simp
  | q + 1, r => by
    have e : j + (q + 1) * p + r = (j + p) + (q * p + r) := by rw [Nat.succ_mul]; omega
    rw [e, iter_add, h, ← iter_add, show j + (q * p + r) = j + q * p + r by omega, iter_period h q r]
theorem io_rep {L : List Nat} {R : List Row} {v : List Nat} (hv : v ≠ []) {s j p : Nat} (hp : 0 < p) (h : iter (fun x => endS L R x v) (j + p) s = iter (fun x => endS L R x v) j s) (c : Nat) :
    Io L R s (rep v) c ↔ ∃ r, r < p ∧ ∃ x ∈ way L R (iter (fun x => endS L R x v) (j + r) s) v, col R x = c := by
  have hl : 0 < v.length := List.length_pos_iff.mpr hv
  constructor
  · intro hio
    obtain ⟨m, hm, e⟩ := hio (j * v.length)
    have e1 : m / v.length * v.length + m % v.length + 1 = m + 1 := by
      rw [Nat.mul_comm, Nat.div_add_mod]
    have hi : m % v.length < v.length := Nat.mod_lt _ hl
    have hq : j ≤ m / v.length := (Nat.le_div_iff_mul_le hl).mpr hm
    have hr := run_rep (L := L) (R := R) hv s (m / v.length) (m % v.length) hi
    rw [e1] at hr
    refine ⟨(m / v.length - j) % p, Nat.mod_lt _ hp, run L R s (rep v) (m + 1), ?_, e⟩
    have e2 : m / v.length = j + (m / v.length - j) / p * p + (m / v.length - j) % p := by
      have := Nat.div_add_mod (m / v.length - j) p
      rw [Nat.mul_comm] at this
      omega
    rw [e2, iter_period h] at hr
    exact List.mem_of_getElem? hr
  · rintro ⟨r, hr, x, hx, e⟩ n
    obtain ⟨i, hi⟩ := List.getElem?_of_mem hx
    have hil : i < v.length := by
      have := (List.getElem?_eq_some_iff.mp hi).1
      rw [way_length] at this; exact this
    refine ⟨(j + n * p + r) * v.length + i, ?_, ?_⟩
    · have h1 : n ≤ n * p := Nat.le_mul_of_pos_right n hp
      have h2 : n * p ≤ (j + n * p + r) := by omega
      have h3 : (j + n * p + r) ≤ (j + n * p + r) * v.length := Nat.le_mul_of_pos_right _ hl
      omega
    · have hh := run_rep (L := L) (R := R) hv s (j + n * p + r) i hil
      rw [iter_period h, hi] at hh
      rw [← Option.some.inj hh]; exact e
end GH
namespace GH
theorem nodup_bound : ∀ (n : Nat) (l : List Nat), l.Nodup → (∀ x ∈ l, x < n) → l.length ≤ n
  | 0, l, _, h => by
    cases l with
    | nil => simp
    | cons a r => exact absurd (h a (by simp)) (by omega)
  | n + 1, l, nd, h => by
    by_cases hm : n ∈ l
    · have ih := nodup_bound n (l.erase n) (nd.erase n) (fun x hx => by
        have := (nd.mem_erase_iff).mp hx
        have := h x this.2
        omega)
      rw [List.length_erase_of_mem hm] at ih
      omega
    · have ih := nodup_bound n l nd (fun x hx => by
        have := h x hx
        have : x ≠ n := fun e => hm (e ▸ hx)
        omega)
      omega
/-- the states behind so many rounds -/
def orbit (f : Nat → Nat) (s k : Nat) : List Nat := (List.range k).map fun i => iter f i s
theorem orbit_succ (f : Nat → Nat) (s k : Nat) : orbit f s (k + 1) = orbit f s k ++ [iter f k s] := by
  unfold orbit; rw [List.range_succ, List.map_append]; rfl
theorem orbit_length (f : Nat → Nat) (s k : Nat) : (orbit f s k).length = k := by simp [orbit]
theorem orbit_get {f : Nat → Nat} {s k i : Nat} (h : i < k) : (orbit f s k)[i]? = some (iter f i s) := by simp [orbit, h]
/-- the states that are gone through in the rounds from j on -/
def rounds (L : List Nat) (R : List Row) (v : List Nat) (s j n : Nat) : List Nat := (List.range' j n).flatMap fun i => way L R (iter (fun x => endS L R x v) i s) v
theorem rounds_succ (L : List Nat) (R : List Row) (v : List Nat) (s j n : Nat) : rounds L R v s j (n + 1) = rounds L R v s j n ++ way L R (iter (fun x => endS L R x v) (j + n) s) v := by
  unfold rounds
  rw [List.range'_concat, List.flatMap_append]
  simp
theorem rounds_ne {L : List Nat} {R : List Row} {v : List Nat} {s j n : Nat} (hv : v ≠ []) (hn : 0 < n) : rounds L R v s j n ≠ [] := by
  intro e
  cases n with
  | zero => omega
  | succ n =>
    rw [rounds_succ] at e
    have z := (List.append_eq_nil_iff.mp e).2
    have := way_length L R v (iter (fun x => endS L R x v) (j + n) s)
    rw [z] at this
    exact hv (List.length_eq_zero_iff.mp this.symm)
theorem lies_rounds {L : List Nat} {R : List Row} {u v : List Nat} (hv : v ≠ []) {j k m : Nat} (hj : j < k) (h : iter (fun x => endS L R x v) k (endS L R 0 u) = iter (fun x => endS L R x v) j (endS L R 0 u))
    (hm : IsMax ((rounds L R v (endS L R 0 u) j (k - j)).map (col R)) m) : Lies L R 0 (app u (rep v)) ↔ m % 2 = 0 := by
  rw [Lies_app]
  refine lies_of_max (fun c => ?_) hm
  have h' : iter (fun x => endS L R x v) (j + (k - j)) (endS L R 0 u) = iter (fun x => endS L R x v) j (endS L R 0 u) := by
    rw [show j + (k - j) = k by omega]; exact h
  rw [io_rep hv (by omega : 0 < k - j) h' c]
  constructor
  · rintro ⟨r, hr, x, hx, e⟩
    refine List.mem_map.mpr ⟨x, ?_, e⟩
    exact List.mem_flatMap.mpr ⟨j + r, by simp; omega, hx⟩
  · intro hc
    obtain ⟨x, hx, e⟩ := List.mem_map.mp hc
    obtain ⟨i, hi, hx⟩ := List.mem_flatMap.mp hx
    have hi' : j ≤ i ∧ i < j + (k - j) := by
      have := List.mem_range'.mp hi
      obtain ⟨a, h1, h2⟩ := this
      omega
    exact ⟨i - j, by omega, x, by rw [show j + (i - j) = i by omega]; exact hx, e⟩
/-- states stay states -/
def Closed (L : List Nat) (R : List Row) : Prop := ∀ s c, s < R.length → c ∈ L → stp L R s c < R.length
theorem way_lt {L : List Nat} {R : List Row} (hc : Closed L R) : ∀ (w : List Nat) (s : Nat), s < R.length → (∀ c ∈ w, c ∈ L) → ∀ x ∈ way L R s w, x < R.length
  | [], _, _, _, x, hx => by cases hx
  | c :: w, s, hs, hw, x, hx => by
    have h1 := hc s c hs (hw c (by simp))
    rcases List.mem_cons.mp hx with e | e
    · rw [e]; exact h1
    · exact way_lt hc w _ h1 (fun d hd => hw d (by simp [hd])) x e
theorem endS_lt {L : List Nat} {R : List Row} (hc : Closed L R) : ∀ (w : List Nat) (s : Nat), s < R.length → (∀ c ∈ w, c ∈ L) → endS L R s w < R.length
  | [], _, hs, _ => hs
  | c :: w, s, hs, hw => endS_lt hc w _ (hc s c hs (hw c (by simp))) fun d hd => hw d (by simp [hd])
theorem iter_lt {L : List Nat} {R : List Row} (hc : Closed L R) {v : List Nat} (hv : ∀ c ∈ v, c ∈ L) : ∀ (k s : Nat), s < R.length → iter (fun x => endS L R x v) k s < R.length
  | 0, _, hs => hs
  | k + 1, s, hs => iter_lt hc hv k _ (endS_lt hc v s hs hv)
theorem rounds_lt {L : List Nat} {R : List Row} (hc : Closed L R) {v : List Nat} (hv : ∀ c ∈ v, c ∈ L) {s : Nat} (hs : s < R.length) (j n : Nat) : ∀ x ∈ rounds L R v s j n, x < R.length := by
  intro x hx
  obtain ⟨i, _, hx⟩ := List.mem_flatMap.mp hx
  exact way_lt hc v _ (iter_lt hc hv i s hs) hv x hx
theorem rounds_length (L : List Nat) (R : List Row) (v : List Nat) (s j : Nat) : ∀ n, (rounds L R v s j n).length = n * v.length
  | 0 => by simp [rounds]
  | n + 1 => by rw [rounds_succ, List.length_append, rounds_length L R v s j n, way_length, Nat.succ_mul]
end GH
namespace GH
/-! lassos that tell the same run -/
theorem same1 {u v : List Nat} (hv : v ≠ []) {m : Nat} (hm : 0 < m) : app u (rep (pow v m)) = app u (rep v) := by rw [rep_pow hv hm]
theorem same3 {u v : List Nat} (hv : v ≠ []) : app (u ++ v) (rep v) = app u (rep v) := by rw [app_append, app_rep hv]
theorem turn_take {v : List Nat} (hv : v ≠ []) (k : Nat) : app (v.take k) (rep (v.drop k ++ v.take k)) = rep v := by
  rw [rep_turn (v.take k) (v.drop k) (by rw [List.take_append_drop]; exact hv), List.take_append_drop]
theorem turned_ne {v : List Nat} (hv : v ≠ []) (k : Nat) : v.drop k ++ v.take k ≠ [] := by
  intro h
  have e := congrArg List.length h
  have : 0 < v.length := List.length_pos_iff.mpr hv
  simp only [List.length_append, List.length_drop, List.length_take, List.length_nil] at e
  omega
theorem same4 {u v : List Nat} (hv : v ≠ []) (k : Nat) : app (u ++ v.take k) (rep (v.drop k ++ v.take k)) = app u (rep v) := by
  rw [app_append, turn_take hv]
theorem same5 {u v : List Nat} (hv : v ≠ []) (k : Nat) {m : Nat} (hm : 0 < m) : app (u ++ pow v m ++ v.take k) (rep (pow (v.drop k ++ v.take k) m)) = app u (rep v) := by
  rw [rep_pow (turned_ne hv k) hm, app_append, app_append, turn_take hv, app_pow hv]
theorem same6 (u v : List Nat) (c : Nat) : app u (rep (c :: v)) = app (u ++ [c]) (rep (v ++ [c])) := by
  rw [app_append, rep_turn [c] v (by simp)]; rfl
theorem rep_mem {v : List Nat} (hv : v ≠ []) (n : Nat) : rep v n ∈ v := by
  have hl : 0 < v.length := List.length_pos_iff.mpr hv
  unfold rep
  rw [List.getD_eq_getElem?_getD, List.getElem?_eq_getElem (Nat.mod_lt n hl)]
  exact List.getElem_mem _
theorem app_mem {u v L : List Nat} (hv : v ≠ []) (h1 : ∀ c ∈ u, c ∈ L) (h2 : ∀ c ∈ v, c ∈ L) (n : Nat) : app u (rep v) n ∈ L := by
  by_cases h : n < u.length
  · rw [app_lt h]; exact h1 _ (List.getElem_mem h)
  · rw [app_ge (by omega)]; exact h2 _ (rep_mem hv _)
/-! two states exchanged -/
def sw (a k : Nat) : Nat := if k = 0 then a else if k = a then 0 else k
theorem sw_sw (a k : Nat) : sw a (sw a k) = k := by
  unfold sw
  by_cases h0 : k = 0
  · subst h0
    rw [if_pos rfl]
    by_cases ha : a = 0
    · rw [if_pos ha, ha]
    · rw [if_neg ha, if_pos rfl]
  · rw [if_neg h0]
    by_cases h1 : k = a
    · rw [if_pos h1, if_pos rfl, h1]
    · rw [if_neg h1, if_neg h0, if_neg h1]
theorem sw_lt {a k n : Nat} (ha : a < n) (hk : k < n) : sw a k < n := by
  unfold sw
  by_cases h0 : k = 0
  · rw [if_pos h0]; exact ha
  · rw [if_neg h0]
    by_cases h1 : k = a
    · rw [if_pos h1]; omega
    · rw [if_neg h1]; exact hk
def swRow (R : List Row) (a k : Nat) : Row := (col R (sw a k), (R.getD (sw a k) (0, [])).2.map (sw a))
def swR (R : List Row) (a : Nat) : List Row := (List.range R.length).map (swRow R a)
theorem swR_length (R : List Row) (a : Nat) : (swR R a).length = R.length := by simp [swR]
theorem swR_get {R : List Row} {a s : Nat} (hs : s < R.length) : (swR R a).getD s (0, []) = swRow R a s := by
  rw [List.getD_eq_getElem?_getD]
  unfold swR
  rw [List.getElem?_map, List.getElem?_range hs]; rfl
theorem swR_col {R : List Row} {a s : Nat} (hs : s < R.length) : col (swR R a) s = col R (sw a s) := by
  unfold col
  rw [swR_get hs]; rfl
theorem swR_stp {L : List Nat} {R : List Row} {a s c : Nat} (hs : s < R.length) (hc : L.idxOf c < ((R.getD (sw a s) (0, [])).2).length) : stp L (swR R a) s c = sw a (stp L R (sw a s) c) := by
  unfold stp
  rw [swR_get hs]
  show ((R.getD (sw a s) (0, [])).2.map (sw a)).getD (L.idxOf c) 0 = _
  rw [List.getD_eq_getElem?_getD, List.getElem?_map, List.getElem?_eq_getElem hc, List.getD_eq_getElem?_getD (l := (R.getD (sw a s) (0, [])).2), List.getElem?_eq_getElem hc]
  rfl
theorem run_lt {L : List Nat} {R : List Row} (hc : Closed L R) {s : Nat} (hs : s < R.length) {x : W} (hx : ∀ n, x n ∈ L) : ∀ n, run L R s x n < R.length
  | 0 => hs
  | n + 1 => hc _ _ (run_lt hc hs hx n) (hx n)
/-- rows as long as the letters -/
def Full (L : List Nat) (R : List Row) : Prop := ∀ s c, s < R.length → c ∈ L → L.idxOf c < ((R.getD s (0, [])).2).length
theorem swR_run {L : List Nat} {R : List Row} (hc : Closed L R) (hf : Full L R) {a s : Nat} (ha : a < R.length) (hs : s < R.length) {x : W} (hx : ∀ n, x n ∈ L) : ∀ n, run L (swR R a) s x n = sw a (run L R (sw a s) x n)
  | 0 => by show s = sw a (sw a s); rw [sw_sw]
  | n + 1 => by
    have h1 := run_lt hc (sw_lt ha hs) hx n
    show stp L (swR R a) (run L (swR R a) s x n) (x n) = sw a (stp L R (run L R (sw a s) x n) (x n))
    rw [swR_run hc hf ha hs hx n, swR_stp (sw_lt ha h1) (hf _ _ (by rw [sw_sw]; exact h1) (hx n)), sw_sw]
theorem swR_lies {L : List Nat} {R : List Row} (hc : Closed L R) (hf : Full L R) {a s : Nat} (ha : a < R.length) (hs : s < R.length) {x : W} (hx : ∀ n, x n ∈ L) : Lies L (swR R a) s x ↔ Lies L R (sw a s) x := by
  have e : ∀ c, Io L (swR R a) s x c ↔ Io L R (sw a s) x c := fun c => by
    unfold Io
    have e1 : ∀ m, col (swR R a) (run L (swR R a) s x (m + 1)) = col R (run L R (sw a s) x (m + 1)) := fun m => by
      have h1 := run_lt hc (sw_lt ha hs) hx (m + 1)
      rw [swR_run hc hf ha hs hx, swR_col (sw_lt ha h1), sw_sw]
    simp only [e1]
  unfold Lies
  simp only [e]
end GH
namespace GH
/-! states come back -/
theorem comes_back {f : Nat → Nat} {n s : Nat} (h : ∀ k, iter f k s < n) : ∃ j p, 0 < p ∧ j + p ≤ n ∧ iter f (j + p) s = iter f j s := by
  apply Classical.byContradiction
  intro hn
  have no : ∀ j p, 0 < p → j + p ≤ n → iter f (j + p) s ≠ iter f j s := fun j p h1 h2 e => hn ⟨j, p, h1, h2, e⟩
  have nd : ∀ k, k ≤ n + 1 → (orbit f s k).Nodup := by
    intro k
    induction k with
    | zero => intro _; exact List.nodup_nil
    | succ k ih =>
      intro hk
      rw [orbit_succ, List.nodup_append]
      refine ⟨ih (by omega), by simp, fun a ha b hb => ?_⟩
      rw [List.mem_singleton.mp hb]
      obtain ⟨i, hi, rfl⟩ := List.mem_map.mp ha
      have hi' : i < k := by simpa using hi
      intro e
      refine no i (k - i) (by omega) (by omega) ?_
      rw [show i + (k - i) = k by omega]; exact e.symm
  have := nodup_bound n _ (nd (n + 1) (Nat.le_refl _)) (fun x hx => by
    obtain ⟨i, _, rfl⟩ := List.mem_map.mp hx
    exact h i)
  rw [orbit_length] at this
  omega
/-- behind n rounds, n rounds more show what is met again and again -/
theorem lies_window {L : List Nat} {R : List Row} {u v : List Nat} (hv : v ≠ []) {n m : Nat} (hlt : ∀ k, iter (fun x => endS L R x v) k (endS L R 0 u) < n)
    (hm : IsMax ((rounds L R v (endS L R 0 u) n n).map (col R)) m) : Lies L R 0 (app u (rep v)) ↔ m % 2 = 0 := by
  obtain ⟨j, p, hp, hjp, h⟩ := comes_back hlt
  have h' : iter (fun x => endS L R x v) (n + p) (endS L R 0 u) = iter (fun x => endS L R x v) n (endS L R 0 u) := by
    have := iter_period h 1 (n - j)
    rw [show j + 1 * p + (n - j) = n + p by omega, show j + (n - j) = n by omega] at this
    exact this
  rw [Lies_app]
  refine lies_of_max (fun c => ?_) hm
  rw [io_rep hv hp h' c]
  constructor
  · rintro ⟨r, hr, x, hx, e⟩
    refine List.mem_map.mpr ⟨x, ?_, e⟩
    exact List.mem_flatMap.mpr ⟨n + r, by simp; omega, hx⟩
  · intro hc
    obtain ⟨x, hx, e⟩ := List.mem_map.mp hc
    obtain ⟨i, hi, hx⟩ := List.mem_flatMap.mp hx
    obtain ⟨a, h1, h2⟩ := List.mem_range'.mp hi
    have e2 : i = n + a / p * p + a % p := by
      have := Nat.div_add_mod a p
      rw [Nat.mul_comm] at this
      omega
    refine ⟨a % p, Nat.mod_lt _ hp, x, ?_, e⟩
    rw [e2, iter_period h'] at hx
    exact hx
/-- a state that leads to itself -/
theorem lies_lone {L : List Nat} {c : Nat} {g : List Nat} (hg : ∀ t ∈ g, t = 0) (a : W) : Lies L [(c, g)] 0 a ↔ c % 2 = 0 := by
  have hs : ∀ x, stp L [(c, g)] 0 x = 0 := fun x => by
    show (g.getD (L.idxOf x) 0) = 0
    rw [List.getD_eq_getElem?_getD]
    cases e : g[L.idxOf x]? with
    | none => rfl
    | some t => exact hg t (List.mem_of_getElem? e)
  have hr : ∀ (n : Nat) (b : W), run L [(c, g)] 0 b n = 0 := by
    intro n
    induction n with
    | zero => intro b; rfl
    | succ n ih =>
      intro b
      have := run_shift L [(c, g)] 0 b n 1
      rw [this, ih]
      exact hs _
  have io : ∀ d, Io L [(c, g)] 0 a d ↔ d ∈ [c] := fun d => by
    constructor
    · intro h
      obtain ⟨m, _, e⟩ := h 0
      rw [hr] at e
      rw [← e]; simp [col]
    · intro h n
      refine ⟨n, Nat.le_refl _, ?_⟩
      rw [hr, List.mem_singleton.mp h]
      simp [col]
  exact lies_of_max io ⟨by simp, by simp⟩
end GH
namespace GH
open PySem PySem.Spec PyProof.Rows L2
/-! what enumerate and zip draw from: a text, a tuple -/
inductive Src where
  | txt (x : Str)
  | tup (a : Addr) (xs : List V)
namespace Src
def val : Src → V
  | .txt x => .str x
  | .tup a _ => .ref a
def items : Src → List V
  | .txt x => x.cps.toList.map fun c => V.str ⟨#[c]⟩
  | .tup _ xs => xs
def At (K : PySem.W.Frag) (H : Hp) : Src → Prop
  | .txt _ => True
  | .tup a xs => SqT K H a xs
/-- the iterator at it has drawn i -/
def On (h : Heap) (it : Addr) (i : Nat) : Src → Prop
  | .txt x => ∃ t, h.IsStrIter it (strIterType x) x t i
  | .tup a _ => h.IsTupleIter it a i
theorem On.move {h h' : Heap} {it : Addr} {i : Nat} : ∀ {s : Src}, s.On h it i → (∀ o, h.get? it = some o → h'.get? it = some o) → s.On h' it i
  | .txt _, ⟨t, ob, q, r⟩, k => ⟨t, ob, k ob q, r⟩
  | .tup _ _, st, k => Heap.IsTupleIter.at st k
theorem On.obj {h : Heap} {it : Addr} {i : Nat} : ∀ {s : Src}, s.On h it i → ∃ o, h.get? it = some o ∧ ∀ v, o.data ≠ .cell v
  | .txt _, ⟨t, ob, q, _, d⟩ => ⟨ob, q, fun v z => by rw [d] at z; cases z⟩
  | .tup _ _, ⟨ob, q, _, d⟩ => ⟨ob, q, fun v z => by rw [d] at z; cases z⟩
/-- what the library's rules ask of it at a state -/
structure Gives (X : Cx) (s : Shared) (A : Around) (H : Hp) (it : Addr) (i : Nat) (src : Src) (fp : List Addr) (P : Nat → Value → Prop) (St : Nat → Heap → Prop) : Prop where
  d : Draws X.prog X.w A it fp src.items.length P St
  st : St i s.heap
  mem : it ∈ fp
  sub : ∀ b ∈ fp, b = it ∨ (H b ≠ none ∨ ∃ o, X.base.get? b = some o)
  yl : ∀ j v, P j v → ∃ x, src.items[j]? = some x ∧ RelV x v
  on : ∀ j h, St j h → src.On h it j
theorem gives {X : Cx} {pins : List (Addr × Obj)} {σ : L2.St} {H : Hp} {s : Shared} {A : Around} {it : Addr} {i : Nat} (hh : A.handled = none) (I : Inv X pins σ H s) : ∀ {src : Src}, src.At X.K H → src.On s.heap it i → ∃ fp P St, Gives X s A H it i src fp P St
  | .txt x, _, ⟨t, on⟩ => by
    have e : (Src.txt x).items.length = x.cps.size := by simp [items]
    have d := Draws.text (prog := X.prog) (w := X.w) hh it x t
    rw [← e] at d
    refine ⟨[it], _, _, ⟨d, on, by simp, fun b hb => .inl (by simpa using hb), fun j v hv => ?_, fun j h st => ⟨t, st⟩⟩⟩
    obtain ⟨c, u, hc, rfl⟩ := hv
    exact ⟨.str ⟨#[c]⟩, by simp [items, hc], u, rfl⟩
  | .tup a xs, hat, on => by
    have hat' : SqT X.K H a xs := hat
    obtain ⟨its, rv, p, _⟩ := I.tuple hat'
    have hne : a ≠ it := by
      intro e
      obtain ⟨o, ho, hc, n, hd⟩ := p
      obtain ⟨o2, ho2, hc2, hd2⟩ := on
      rw [e, ho2] at ho
      cases ho
      rw [hc] at hc2
      exact absurd hc2 (by decide)
    have el : its.toArray.size = xs.length := by
      have := rv.length
      simp [this]
    have d := Draws.tuple (prog := X.prog) (w := X.w) hh it a hne its.toArray
    rw [show its.toArray.size = (Src.tup a xs).items.length from el] at d
    refine ⟨[it, a], _, _, ⟨d, ⟨on, p⟩, by simp, fun b hb => ?_, fun j v hv => ?_, fun j h st => st.1⟩⟩
    · have e' : b = it ∨ b = a := by simpa using hb
      rcases e' with z | z
      · exact .inl z
      · refine .inr ?_
        rw [z]
        rcases hat' with (h1 | ⟨o, h1⟩) | h1
        · exact .inl (by rw [h1]; simp)
        · exact .inl (by rw [h1]; simp)
        · obtain ⟨o, its2, n2, lk, _⟩ := h1
          exact .inr ⟨o, I.ok.mod.kin _ _ lk⟩
    · have hv' : its[j]? = some v := by simpa using hv
      cases hx : xs[j]? with
      | none =>
        have := rv.none_of hx
        rw [this] at hv'; cases hv'
      | some x =>
        obtain ⟨u, hu, ru⟩ := rv.get hx
        rw [hu] at hv'
        cases hv'
        exact ⟨x, hx, ru⟩
/-- an iterator's own cell is none of what is read -/
theorem Gives.out {X : Cx} {pins : List (Addr × Obj)} {σ : L2.St} {H : Hp} {s : Shared} {A : Around} {it b : Addr} {i : Nat} {src : Src} {fp : List Addr} {P : Nat → Value → Prop} {St : Nat → Heap → Prop} (g : Gives X s A H it i src fp P St) (I : Inv X pins σ H s) (hb : FpOk X pins H b) (hx : X.base.get? b = none) (hne : b ≠ it) : b ∉ fp := fun hm => by
  rcases g.sub b hm with z | z | ⟨o, z⟩
  · exact hne z
  · exact z hb.1
  · rw [hx] at z; cases z
end Src
end GH
namespace GH
open PySem PySem.Spec PyProof.Rows L2
theorem fp_base {X : Cx} {pins : List (Addr × Obj)} {σ : L2.St} {H : Hp} {s : Shared} {b : Addr} (I : Inv X pins σ H s) (f : FpOk X pins H b) : X.base.get? b = none := by
  cases e : X.base.get? b with
  | none => rfl
  | some o =>
    rcases f.2.2.2.1 with z | z
    · exact absurd z (I.ok.noex b o e)
    · exact absurd (Nat.lt_of_lt_of_le (Heap.lt_size (I.ok.bs b o e).1) z) (Nat.lt_irrefl _)
/-! zip of two -/
def ItZ (K : PySem.W.Frag) (s1 s2 : Src) : It where
  go := fun i H => s1.At K H ∧ s2.At K H ∧ i < s1.items.length ∧ i < s2.items.length
  yld := fun i H v H' => ∃ T x y, v = .ref T ∧ H T = none ∧ H' = upd H T (.tup [x, y]) ∧ s1.items[i]? = some x ∧ s2.items[i]? = some y
  stop := fun i H => s1.At K H ∧ s2.At K H ∧ i = min s1.items.length s2.items.length
structure Five (z TI TO i1 i2 : Addr) : Prop where
  a1 : TI ≠ z
  a2 : TO ≠ z
  a3 : TI ≠ TO
  a4 : TI ≠ i1
  a5 : TI ≠ i2
  a6 : z ≠ i1
  a7 : z ≠ i2
  a8 : TO ≠ i1
  a9 : TO ≠ i2
  a0 : i1 ≠ i2
theorem five_of (n : Nat) : Five (n + 4) (n + 2) (n + 3) n (n + 1) := by
  constructor <;> (show (_ : Nat) ≠ _) <;> omega
theorem turn_zipG {P : Program} {w : World} {K : PySem.W.Frag} {elts : List Expr} {kk : Nat} {tpos : Pos} {z TI TO i1 i2 : Addr} {s1 s2 : Src} (F : Five z TI TO i1 i2) :
    Turn P w K (.Tuple elts kk tpos) (ItZ K s1 s2) [z, TI, TO, i1, i2] z (fun i h => IsZip h z TI TO .none ∧ IsTupOf2 h TI (.ref i1) (.ref i2) ∧ (∃ p q, IsTupOf2 h TO p q) ∧ s1.On h i1 i ∧ s2.On h i2 i) where
  mem := by simp
  obj := fun i h st c hc => by
    obtain ⟨hz, hI, ⟨p, q, hO⟩, h1, h2⟩ := st
    have e : c = z ∨ c = TI ∨ c = TO ∨ c = i1 ∨ c = i2 := by simpa using hc
    rcases e with rfl | rfl | rfl | rfl | rfl
    · exact ⟨_, hz, fun v q => nomatch q⟩
    · exact ⟨_, hI, fun v q => nomatch q⟩
    · exact ⟨_, hO, fun v q => nomatch q⟩
    · exact h1.obj
    · exact h2.obj
  keep := fun i h h' st k => by
    obtain ⟨hz, hI, ⟨p, q, hO⟩, h1, h2⟩ := st
    exact ⟨k z (by simp) _ hz, k TI (by simp) _ hI, ⟨p, q, k TO (by simp) _ hO⟩, h1.move fun o e => k i1 (by simp) o e, h2.move fun o e => k i2 (by simp) o e⟩
  item := by
    intro X eP ew eK hc i pins s σ H E I hf st hg
    subst eP ew eK
    obtain ⟨hz, hI, ⟨p, q, hO⟩, h1, h2⟩ := st
    obtain ⟨A1, A2, l1, l2⟩ := hg
    obtain ⟨fp1, P1, S1, g1⟩ := Src.gives (A := X.A.in1) (it := i1) (i := i) (src := s1) (I.ok.hd hc) I A1 h1
    obtain ⟨fp2, P2, S2, g2⟩ := Src.gives (A := X.A.in1) (it := i2) (i := i) (src := s2) (I.ok.hd hc) I A2 h2
    have nb : ∀ b ∈ [z, TI, TO, i1, i2], FpOk X pins H b ∧ X.base.get? b = none := fun b hb => ⟨hf b hb, fp_base I (hf b hb)⟩
    have o1 : ∀ b ∈ [z, TI, TO, i1, i2], b ≠ i1 → b ∉ fp1 := fun b hb hn => g1.out I (nb b hb).1 (nb b hb).2 hn
    have o2 : ∀ b ∈ [z, TI, TO, i1, i2], b ≠ i2 → b ∉ fp2 := fun b hb hn => g2.out I (nb b hb).1 (nb b hb).2 hn
    have sep : ZipSep2 z TI TO i1 i2 fp1 fp2 := ⟨F.a1, F.a2, F.a3, F.a4, g1.mem, o1 z (by simp) F.a6, o1 TO (by simp) F.a8, F.a5, g2.mem, o2 z (by simp) F.a7, o2 TO (by simp) F.a9, o2 i1 (by simp) F.a0, o1 i2 (by simp) F.a0.symm⟩
    have zl : z < s.heap.objs.size := Heap.lt_size hz
    refine wpAny_pyNext_zipD2_item sep g1.d g2.d hz hI hO g1.st g2.st l1 l2 fun u1 u2 h' tk y1 y2 z' O' n1 n2 hT hsz hk => ?_
    obtain ⟨x1, e1, r1⟩ := g1.yl i u1 y1
    obtain ⟨x2, e2, r2⟩ := g2.yl i u2 y2
    refine ⟨_, rfl, wpAny_letOwnedTupleGo_zip (s := { s with heap := h', toks := tk }) z' fun h'' z'' sb => ?_⟩
    have hT2 : h''.get? s.heap.objs.size = some { cls := .type "tuple", data := .seq #[u1, u2] } := (sb.2 _ (Nat.ne_of_gt zl)).trans hT
    have new : ObjOk X.prog X.w (upd H s.heap.objs.size (.tup [x1, x2])) h'' s.heap.objs.size (.tup [x1, x2]) :=
      ⟨by show 2 ≤ sizeLine; decide, [u1, u2], .cons r1 (.cons r2 .nil), ⟨_, hT2, rfl, _, rfl⟩⟩
    have I1 : Inv X pins σ (upd H s.heap.objs.size (.tup [x1, x2])) { s with heap := h'', toks := tk } :=
      I.turnedNew (t' := tk) (ch := [z, TI, TO, i1, i2]) (fun c o hb e => (sb.2 c (fun e' => hb (by simp [e']))).trans (hk c o (fun e' => hb (by simp [e'])) (fun e' => hb (by simp [e'])) (fun e' => hb (by simp [e'])) (fun e' => hb (by simp [e'])) e)) hf (Nat.le_refl _) new
    refine ⟨.ref s.heap.objs.size, _, I1, rfl, ⟨_, x1, x2, rfl, I.hok.fresh (Nat.le_refl _), rfl, e1, e2⟩, ⟨z'', ?_, ⟨u1, u2, ?_⟩, ?_, ?_⟩, fun c hcm => ?_⟩
    · exact (sb.2 _ F.a1).trans (hk _ _ F.a1 F.a3 F.a4 F.a5 hI)
    · exact (sb.2 _ F.a2).trans O'
    · exact (g1.on _ _ n1).move fun o e => (sb.2 _ F.a6.symm).trans e
    · exact (g2.on _ _ n2).move fun o e => (sb.2 _ F.a7.symm).trans e
    · have lt : c < s.heap.objs.size := by
        have e' : c = z ∨ c = TI ∨ c = TO ∨ c = i1 ∨ c = i2 := by simpa using hcm
        rcases e' with rfl | rfl | rfl | rfl | rfl
        · exact zl
        · exact Heap.lt_size hI
        · exact Heap.lt_size hO
        · obtain ⟨_, e, _⟩ := h1.obj; exact Heap.lt_size e
        · obtain ⟨_, e, _⟩ := h2.obj; exact Heap.lt_size e
      rw [upd_ne (Nat.ne_of_lt lt)]
      exact (hf c hcm).1
  done := by
    intro X eP ew eK hc i pins s σ H E I hf st hg
    subst eP ew eK
    obtain ⟨hz, hI, ⟨p, q, hO⟩, h1, h2⟩ := st
    obtain ⟨A1, A2, he⟩ := hg
    obtain ⟨fp1, P1, S1, g1⟩ := Src.gives (A := X.A.in1) (it := i1) (i := i) (src := s1) (I.ok.hd hc) I A1 h1
    obtain ⟨fp2, P2, S2, g2⟩ := Src.gives (A := X.A.in1) (it := i2) (i := i) (src := s2) (I.ok.hd hc) I A2 h2
    have nb : ∀ b ∈ [z, TI, TO, i1, i2], FpOk X pins H b ∧ X.base.get? b = none := fun b hb => ⟨hf b hb, fp_base I (hf b hb)⟩
    have o1 : ∀ b ∈ [z, TI, TO, i1, i2], b ≠ i1 → b ∉ fp1 := fun b hb hn => g1.out I (nb b hb).1 (nb b hb).2 hn
    have o2 : ∀ b ∈ [z, TI, TO, i1, i2], b ≠ i2 → b ∉ fp2 := fun b hb hn => g2.out I (nb b hb).1 (nb b hb).2 hn
    have sep : ZipSep2 z TI TO i1 i2 fp1 fp2 := ⟨F.a1, F.a2, F.a3, F.a4, g1.mem, o1 z (by simp) F.a6, o1 TO (by simp) F.a8, F.a5, g2.mem, o2 z (by simp) F.a7, o2 TO (by simp) F.a9, o2 i1 (by simp) F.a0, o1 i2 (by simp) F.a0.symm⟩
    exact wpAny_pyNext_zipD2_end sep g1.d g2.d hz hI hO g1.st g2.st (by omega) (by omega) (by omega) fun h' tk hk => ⟨rfl, I.turnedL (t' := tk) (ch := [z, TI, TO, i1, i2]) (fun c o hb e =>
      hk c o (fun e' => hb (by simp [e'])) (fun e' => hb (by simp [e'])) (fun e' => hb (by simp [e'])) (fun e' => hb (by simp [e'])) e) hf⟩
  self := fun A i s Q E st h => wpAny_pyIter_zip st.1 h
theorem walk_zipG {K : PySem.W.Frag} {s1 s2 : Src} : Walk (ItZ K s1 s2) (min s1.items.length s2.items.length) (fun H => s1.At K H ∧ s2.At K H) (YPair (fun i => s1.items[i]?) (fun i => s2.items[i]?)) :=
  ⟨fun i H hi g => ⟨g.1, g.2, by omega, by omega⟩, fun H g => ⟨g.1, g.2, rfl⟩, fun i H x H' _ _ y => y⟩
/-- what zip takes -/
def iZipG (K : PySem.W.Frag) (ta : TA) : TI := fun σ H R => ta σ H fun vs H1 => ∃ s1 s2 : Src, vs = [s1.val, s2.val] ∧ s1.At K H1 ∧ s2.At K H1 ∧ R (ItZ K s1 s2) H1
/-- how a source's iterator is made -/
theorem src_begins {X : Cx} {pins : List (Addr × Obj)} {σ : L2.St} {H : Hp} {s : Shared} (I : Inv X pins σ H s) : ∀ {src : Src} {u : Value}, RelV src.val u → src.At X.K H →
    ∃ (o : Obj) (G : Heap → Prop), Begins u o G ∧ G s.heap ∧ ∀ (h : Heap) (it : Addr), h.get? it = some o → src.On h it 0
  | .txt x, _, ⟨t, rfl⟩, _ => ⟨_, _, begins_text x t, trivial, fun h it e => ⟨t, _, e, rfl, rfl⟩⟩
  | .tup a xs, u, r, hat => by
    obtain ⟨its, rv, p, _⟩ := I.tuple (show SqT X.K H a xs from hat)
    cases (show u = Value.ref a from r)
    exact ⟨_, _, begins_tuple a its.toArray, p, fun h it e => ⟨_, e, rfl, rfl⟩⟩
theorem pi_zipG {X : Cx} {e e2 : Expr} {ta : TA} {p pos tpos : Pos} {elts : List Expr} {kk : Nat} (hg : Gl X "zip") (hm : X.mg "zip" = none) (ha : PA X [e, e2] ta)
    (hs : starEach [e, e2] X.env = (false, eval e X.env) :: starEach [e2] X.env := by rfl) (hpl : (backTo pos (starEach [e2] X.env)).any (·.1) = false := by rfl) :
    PI X (.Tuple elts kk tpos) (.Call (.Name "zip" p) [e, e2] [] pos) (iZipG X.K ta) := by
  constructor
  intro pins s σ H R I h
  refine Call_ (ld_blt I hg hm PyProof.Rows.boot_zip (PyProof.Rows.callWith_type1 (thn (ha.run pos pins s σ H _ I h) fun us s1 hh => ?_) hs hpl))
  obtain ⟨vs, H1, I1, rr, a, b, ev, A1, A2, q⟩ := hh
  subst ev
  cases rr with
  | cons r1 rr =>
    cases rr with
    | cons r2 rr =>
      cases rr
      obtain ⟨o1, G1, B1, k1, on1⟩ := src_begins I1 r1 A1
      obtain ⟨o2, G2, B2, k2, on2⟩ := src_begins I1 r2 A2
      refine zip_begins2 B1 B2 k1 k2 fun h' hz hI hO e1 e2 hsz hk => wpAny_pyIter_zip hz ?_
      have I2 : Inv X pins σ H1 { s1 with heap := h' } := I1.kept (t' := s1.toks) hk
      refine ⟨s1.heap.objs.size + 4, [s1.heap.objs.size + 4, s1.heap.objs.size + 2, s1.heap.objs.size + 3, s1.heap.objs.size, s1.heap.objs.size + 1], _, _, H1, rfl, I2, turn_zipG ?_, ⟨hz, hI, ⟨_, _, hO⟩, on1 _ _ e1, on2 _ _ e2⟩, fun c hcm => ?_, q⟩
      · exact five_of s1.heap.objs.size
      · have e' : c = s1.heap.objs.size + 4 ∨ c = s1.heap.objs.size + 2 ∨ c = s1.heap.objs.size + 3 ∨ c = s1.heap.objs.size ∨ c = s1.heap.objs.size + 1 := by simpa using hcm
        have hle : s1.heap.objs.size ≤ c := by
          rcases e' with z | z | z | z | z
          · rw [z]; exact Nat.le_add_right _ _
          · rw [z]; exact Nat.le_add_right _ _
          · rw [z]; exact Nat.le_add_right _ _
          · rw [z]; exact Nat.le_refl _
          · rw [z]; exact Nat.le_add_right _ _
        exact I1.fpOk hle (I1.hok.fresh hle)
/-! enumerate of one -/
def ItE (K : PySem.W.Frag) (s1 : Src) : It where
  go := fun i H => s1.At K H ∧ i < s1.items.length
  yld := fun i H v H' => ∃ T x y, v = .ref T ∧ H T = none ∧ H' = upd H T (.tup [x, y]) ∧ some (V.int (i : Nat)) = some x ∧ s1.items[i]? = some y
  stop := fun i H => s1.At K H ∧ i = s1.items.length
theorem turn_enumG {P : Program} {w : World} {K : PySem.W.Frag} {elts : List Expr} {kk : Nat} {tpos : Pos} {e it : Addr} {s1 : Src} (ne : e ≠ it) :
    Turn P w K (.Tuple elts kk tpos) (ItE K s1) [e, it] e (fun i h => (∃ old, IsEnum h e it ((i : Nat) : Int) old) ∧ s1.On h it i) where
  mem := by simp
  obj := fun i h st c hc => by
    obtain ⟨⟨old, he⟩, h1⟩ := st
    have e' : c = e ∨ c = it := by simpa using hc
    rcases e' with rfl | rfl
    · exact ⟨_, he, fun v q => nomatch q⟩
    · exact h1.obj
  keep := fun i h h' st k => by
    obtain ⟨⟨old, he⟩, h1⟩ := st
    exact ⟨⟨old, k e (by simp) _ he⟩, h1.move fun o q => k it (by simp) o q⟩
  item := by
    intro X eP ew eK hc i pins s σ H E I hf st hg
    subst eP ew eK
    obtain ⟨⟨old, he⟩, h1⟩ := st
    obtain ⟨A1, l1⟩ := hg
    obtain ⟨fp1, P1, S1, g1⟩ := Src.gives (A := X.A.in1) (it := it) (i := i) (src := s1) (I.ok.hd hc) I A1 h1
    have hx : e ∉ fp1 := g1.out I (hf e (by simp)) (fp_base I (hf e (by simp))) ne
    have el : e < s.heap.objs.size := Heap.lt_size he
    have il : it < s.heap.objs.size := by obtain ⟨_, q, _⟩ := h1.obj; exact Heap.lt_size q
    refine wpAny_pyNext_enum_itemD g1.d he g1.st l1 ne hx fun u h' tk y1 out n1 hT hsz hk => ?_
    obtain ⟨x1, e1, r1⟩ := g1.yl i u y1
    refine ⟨_, rfl, wpAny_letOwnedTupleGo_enum (s := { s with heap := h', toks := tk + 1 }) out fun h'' he' sb => ?_⟩
    have hT2 : h''.get? s.heap.objs.size = some { cls := .type "tuple", data := .seq #[.int i tk, u] } := (sb.2 _ (Nat.ne_of_gt el)).trans hT
    have new : ObjOk X.prog X.w (upd H s.heap.objs.size (.tup [.int (i : Nat), x1])) h'' s.heap.objs.size (.tup [.int (i : Nat), x1]) :=
      ⟨by show 2 ≤ sizeLine; decide, [.int i tk, u], .cons ⟨_, rfl⟩ (.cons r1 .nil), ⟨_, hT2, rfl, _, rfl⟩⟩
    have I1 : Inv X pins σ (upd H s.heap.objs.size (.tup [.int (i : Nat), x1])) { s with heap := h'', toks := tk + 1 } :=
      I.turnedNew (t' := tk + 1) (ch := [e, it]) (fun c o hb q => (sb.2 c (fun z => hb (by simp [z]))).trans (hk c o (fun z => hb (by simp [z])) (fun z => hb (by simp [z])) q)) hf (Nat.le_refl _) new
    refine ⟨.ref s.heap.objs.size, _, I1, rfl, ⟨_, .int (i : Nat), x1, rfl, I.hok.fresh (Nat.le_refl _), rfl, rfl, e1⟩, ⟨⟨u, ?_⟩, ?_⟩, fun c hcm => ?_⟩
    · rw [show ((i + 1 : Nat) : Int) = (i : Int) + 1 by omega]
      exact he'
    · exact (g1.on _ _ n1).move fun o q => (sb.2 _ ne.symm).trans q
    · have lt : c < s.heap.objs.size := by
        have e' : c = e ∨ c = it := by simpa using hcm
        rcases e' with rfl | rfl
        · exact el
        · exact il
      rw [upd_ne (Nat.ne_of_lt lt)]
      exact (hf c hcm).1
  done := by
    intro X eP ew eK hc i pins s σ H E I hf st hg
    subst eP ew eK
    obtain ⟨⟨old, he⟩, h1⟩ := st
    obtain ⟨A1, hl⟩ := hg
    subst hl
    obtain ⟨fp1, P1, S1, g1⟩ := Src.gives (A := X.A.in1) (it := it) (i := s1.items.length) (src := s1) (I.ok.hd hc) I A1 h1
    obtain ⟨f0, f1, f2, f3, f4, f5⟩ := hf it (by simp)
    exact wpAny_pyNext_enum_endD g1.d he g1.st fun h' eb => ⟨rfl, I.turned (t' := s.toks) (fun b o hb q => eb b o hb q) f0 f1 f3 f4 f5⟩
  self := fun A i s Q E st h => by
    obtain ⟨⟨old, he⟩, _⟩ := st
    exact wpAny_pyIter_enum he h
theorem walk_enumG {K : PySem.W.Frag} {s1 : Src} : Walk (ItE K s1) s1.items.length (fun H => s1.At K H) (YPair (fun i => some (.int (i : Nat))) (fun i => s1.items[i]?)) :=
  ⟨fun i H hi g => ⟨g, hi⟩, fun H g => ⟨g, rfl⟩, fun i H x H' _ _ y => y⟩
theorem meets_enum1 {v : Value} {o : Obj} {G : Heap → Prop} (B : Begins v o G) :
    Meets (Builtin.«enumerate.__new__» ⟨[.type "enumerate", v], []⟩) (fun _ R s => G s.heap ∧
      R (.ok (.ret (.ref (s.heap.push o).objs.size))) { s with heap := (s.heap.push o).push { cls := .type "enumerate", data := .fields #[.none, .bool false, .ref s.heap.objs.size, rawInt 0, .none, .none] } }) :=
  .of_wp fun prog w A R s hh => by
    obtain ⟨hp, g, d, tk, os⟩ := s
    obtain ⟨h1, h⟩ := hh
    have hsub := sub_enumerate
    have q1 : ∀ {A' : Around} {E : Value → Shared → Prop} {Q : Value → Shared → Prop}, Q (.ref hp.objs.size) ⟨hp.push o, g, d, tk, os⟩ → wpAny (model prog w) A' (pyIter v) Q E ⟨hp, g, d, tk, os⟩ := fun z => B.iter prog w _ _ ⟨hp, g, d, tk, os⟩ _ h1 z
    wp_walk using q1
    refine wpAny_stack_any fun st => wpAny_pure ?_
    split
    · rename_i c _ _ _ _ _
      cases (c == Value.type "enumerate") <;> (wp_walk using q1; exact ⟨_, rfl, h⟩)
    · wp_walk using q1
      exact ⟨_, rfl, h⟩
theorem enum_begins1 {prog : Program} {w : World} {A : Around} {E : Value → Shared → Prop} {s : Shared} {v : Value} {o : Obj} {G : Heap → Prop} {Q : Value → Shared → Prop} (B : Begins v o G) (h1 : G s.heap)
    (h : ∀ h', IsEnum h' (s.heap.objs.size + 1) s.heap.objs.size 0 .none → h'.get? s.heap.objs.size = some o → (∀ b u, s.heap.get? b = some u → h'.get? b = some u) → Q (.ref (s.heap.objs.size + 1)) { s with heap := h' }) :
    wpAny (model prog w) A (call (.type "enumerate") [v]) Q E s := by
  refine callType_new F.called_enumerate (by decide) (F.typeCall_enumerate_1 _) (F.newCall_enumerate_1 _) (fun obj => F.args_object_init_2 obj _) F.entry_enumerate_new (meets_enum1 B) ⟨h1, ?_⟩
  have hz : (s.heap.push o).objs.size = s.heap.objs.size + 1 := Heap.size_push ..
  show _ ∧ _
  rw [hz]
  have he : IsEnum ((s.heap.push o).push { cls := .type "enumerate", data := .fields #[.none, .bool false, .ref s.heap.objs.size, rawInt 0, .none, .none] }) (s.heap.objs.size + 1) s.heap.objs.size 0 .none := by
    have z := Heap.get?_push_size (s.heap.push o) (o := { cls := .type "enumerate", data := .fields #[.none, .bool false, .ref s.heap.objs.size, rawInt 0, .none, .none] }) rfl
    rw [hz] at z
    exact z
  exact ⟨⟨_, he, rfl⟩, h _ he (Heap.get?_push_of_some _ (Heap.get?_push_size _ B.free)) fun b u x => Heap.get?_push_of_some _ (Heap.get?_push_of_some _ x)⟩
def iEnumG (K : PySem.W.Frag) (ta : TA) : TI := fun σ H R => ta σ H fun vs H1 => ∃ s1 : Src, vs = [s1.val] ∧ s1.At K H1 ∧ R (ItE K s1) H1
theorem pi_enumG {X : Cx} {e : Expr} {ta : TA} {p pos tpos : Pos} {elts : List Expr} {kk : Nat} (hg : Gl X "enumerate") (hm : X.mg "enumerate" = none) (ha : PA X [e] ta) (hs : starEach [e] X.env = [(false, eval e X.env)] := by rfl) :
    PI X (.Tuple elts kk tpos) (.Call (.Name "enumerate" p) [e] [] pos) (iEnumG X.K ta) := by
  constructor
  intro pins s σ H R I h
  refine Call_ (ld_blt I hg hm boot_enumerate (PyProof.Rows.callWith_type1 (thn (ha.run pos pins s σ H _ I h) fun us s1 hh => ?_) hs rfl))
  obtain ⟨vs, H1, I1, rr, a, ev, A1, q⟩ := hh
  subst ev
  cases rr with
  | cons r1 rr =>
    cases rr
    obtain ⟨o1, G1, B1, k1, on1⟩ := src_begins I1 r1 A1
    refine enum_begins1 B1 k1 fun h' he e1 hk => wpAny_pyIter_enum he ?_
    have I2 : Inv X pins σ H1 { s1 with heap := h' } := I1.kept (t' := s1.toks) hk
    refine ⟨s1.heap.objs.size + 1, [s1.heap.objs.size + 1, s1.heap.objs.size], _, _, H1, rfl, I2, turn_enumG (Nat.succ_ne_self _), ⟨⟨.none, he⟩, on1 _ _ e1⟩, fun c hcm => ?_, q⟩
    have e' : c = s1.heap.objs.size + 1 ∨ c = s1.heap.objs.size := by simpa using hcm
    have hle : s1.heap.objs.size ≤ c := by
      rcases e' with z | z
      · rw [z]; exact Nat.le_add_right _ _
      · rw [z]; exact Nat.le_refl _
    exact I1.fpOk hle (I1.hok.fresh hle)
end GH
namespace GH
open PySem PySem.Spec PyProof.Rows L2
/-! ### heaps -/
/-- all but x as it was -/
def Besides (x : Addr) (H H' : Hp) : Prop := ∀ b o, b ≠ x → H b = some o → H' b = some o
/-- tuples and locked things never change -/
structure Tups (H H' : Hp) : Prop where
  t : ∀ b xs, H b = some (.tup xs) → H' b = some (.tup xs)
  f : ∀ b o u, H b = some (.frz o u) → H' b = some (.frz o u)
theorem Tups.refl (H : Hp) : Tups H H := ⟨fun _ _ e => e, fun _ _ _ e => e⟩
theorem Tups.trans {H H1 H2 : Hp} (a : Tups H H1) (b : Tups H1 H2) : Tups H H2 := ⟨fun c xs e => b.t c xs (a.t c xs e), fun c o u e => b.f c o u (a.f c o u e)⟩
theorem Same.tups {H H' : Hp} (s : Same H H') : Tups H H' := ⟨fun b xs e => s b _ e, fun b o u e => s b _ e⟩
theorem Tups.seq {K : PySem.W.Frag} {H H' : Hp} {a : Addr} {xs : List V} (s : Tups H H') (h : SqT K H a xs) : SqT K H' a xs := by
  rcases h with (h | ⟨o, h⟩) | h
  · exact .inl (.inl (s.t _ _ h))
  · exact .inl (.inr ⟨o, s.f _ _ _ h⟩)
  · exact .inr h
theorem Same.new {H : Hp} {p : Addr} {o : HO} (h : H p = none) : Same H (upd H p o) := fun b x e => by
  rw [upd_ne (ne_of_none e h)]; exact e
theorem Same.mut {H H' : Hp} {p : Addr} {o : HO} (s : Same H H') (h : H p = none) : Same H (upd H' p o) := fun b x e => by
  rw [upd_ne (ne_of_none e h)]; exact s b x e
theorem Same.seqT {K : PySem.W.Frag} {H H' : Hp} {a : Addr} {xs : List V} (s : Same H H') (h : SqT K H a xs) : SqT K H' a xs := (Same.tups s).seq h
theorem Besides.refl (x : Addr) (H : Hp) : Besides x H H := fun _ _ _ e => e
theorem Besides.trans {x : Addr} {H H1 H2 : Hp} (a : Besides x H H1) (b : Besides x H1 H2) : Besides x H H2 := fun c o n e => b c o n (a c o n e)
theorem Same.but {x : Addr} {H H' : Hp} (s : Same H H') : Besides x H H' := fun b o _ e => s b o e
theorem Besides.upd {x : Addr} {H H' : Hp} {o : HO} (s : Besides x H H') : Besides x H (upd H' x o) := fun b u n e => by
  rw [upd_ne n]; exact s b u n e
theorem Besides.new {x p : Addr} {H H' : Hp} {o : HO} (s : Besides x H H') (h : H' p = none) : Besides x H (L2.upd H' p o) := fun b u n e => by
  have e' := s b u n e
  rw [upd_ne (ne_of_none e' h)]; exact e'
/-- x a list on the way -/
theorem Besides.tups {x : Addr} {H H' : Hp} {xs : List V} (s : Besides x H H') (h : H x = some (.lst xs)) : Tups H H' := by
  refine ⟨fun b ys e => s b _ (fun z => ?_) e, fun b o u e => s b _ (fun z => ?_) e⟩
  · rw [z, h] at e; cases e
  · rw [z, h] at e; cases e
theorem Besides.seqT {K : PySem.W.Frag} {x : Addr} {H H' : Hp} {xs ys : List V} {a : Addr} (s : Besides x H H') (h : H x = some (.lst xs)) (q : SqT K H a ys) : SqT K H' a ys := (s.tups h).seq q
theorem fresh_of {H H' : Hp} {p : Addr} (s : Same H H') (h : H' p = none) : H p = none := Same.free s h
/-! ### defs by name -/
structure Ok (P : Program) (w : World) (K : PySem.W.Frag) (mg : Str → Option Value) (base : Heap) (n : Nat) (x : Str) (ps : List Str) (sp : Sp) : Prop where
  ex : ∃ f fd, FnOk P w K mg base CX0 n f fd ps sp ∧ Binds K fd ps [] ∧ mg x = some (.ref f) ∧ PySem.W.keepIn K (.ref f) = true ∧ (∀ (s : Shared) (us : List Value), us.length = ps.length → BindsTo s fd ⟨us, []⟩ (ps.zip us)) ∧ ∃ oc od osl, K.lookup f = some ⟨oc, od, .func fd, osl⟩
section
variable {X : Cx} {n : Nat} {x : Str} {ps : List Str} {sp : Sp} {p pos : Pos} {e : Expr} {es : List Expr} {t : TA}
theorem pe_fn (O : Ok X.prog X.w X.K X.mg X.base n x ps sp) (hr : Room n X.A) (hg : Gl X x) (ha : PA X (e :: es) t) (hdb : (x == ("__debug__" : Str)) = false := by decide)
    (he : starEach (e :: es) X.env = (false, eval e X.env) :: starEach es X.env := by rfl) (hpl : (backTo pos (starEach es X.env)).any (·.1) = false := by rfl) :
    PE X (.Call (.Name x p) (e :: es) [] pos) (tCall sp [] E0 t) := by
  obtain ⟨f, fd, F, b, m, k, _⟩ := O.ex
  exact pe_call F hr hg m k b .nil pass0 ha hdb he hpl
end
/-- a def of the text keeps its promise -/
theorem ok_of {P : Program} {w : World} {K : PySem.W.Frag} {mg : Str → Option Value} {base : Heap} {k : Nat} {x : Str} {st : Stmt} {f : Addr} {fd : FuncData} {N ps : List Str} {sp : Sp} (F : Fun K x x st f fd) (m : mg x = some (.ref f)) (S : FnScope N ps (defScope st))
    (hb : ∀ (kV doc pm : Value) (an : Option Addr) (cdv ct : Value) (us : List Value), us.length = ps.length → bindArgs (PySem.W.fnOf x x (defArgs st) (defBody st) (defScope st) .none kV doc pm an cdv ct) ⟨us, []⟩ = pure (ps.zip us))
    (len : ∀ vs H Q E, sp vs H Q E → vs.length = ps.length)
    (body : ∀ (cdv : Value) (A : Around) (outer : List Env) (s : Shared) (H : Hp) (vs : List V) (Q : VK) (E : XK), Room k (A.deeper (envOfC x (defScope st) s.heap.objs.size f cdv)) → sp vs H Q E →
      ∃ t, PSs (cxOf CX0 P w K mg base N x (defScope st) f cdv A outer s H E).nox (defBody st) t ∧ t { nx := fun _ H' => Q .non H', rt := Q } (start N vs) H) : Ok P w K mg base (k + 1) x ps sp := by
  have z := F.ok S len body
  have b := F.binds hb
  have kp := F.kp
  obtain ⟨oc, od, kV, doc, pm, an, cdv, ct, osl, rfl, lk, hcd⟩ := F.ex
  exact ⟨f, _, z, b, m, kp, fun s us hl => .of_eq (hb kV doc pm an cdv ct us hl), oc, od, osl, lk⟩
/-! ### a text again and again -/
theorem foldl_cat : ∀ (n : Nat) (b a : Array Nat), ((List.replicate n b).foldl (· ++ ·) a).toList = a.toList ++ pow b.toList n
  | 0, b, a => by simp [pow]
  | n + 1, b, a => by
    rw [List.replicate_succ, List.foldl_cons, foldl_cat n b (a ++ b)]
    simp [pow]
theorem pow_nil : ∀ n, pow [] n = []
  | 0 => rfl
  | n + 1 => by show [] ++ pow [] n = []; rw [pow_nil n]; rfl
def rMulS : R2 := fun x y H Q => ∃ (l : List Nat) (n : Nat), x = .str (SX.S l) ∧ y = .int (n : Int) ∧ 1 ≤ n ∧ n ≤ 1000 ∧ l.length ≤ 1000 ∧ Q (.str (SX.S (pow l n))) H
theorem op_mulS {X : Cx} : OpR X (binaryOp .Mult) rMulS := by
  intro pins s σ H x y v u Q I rx ry h
  obtain ⟨l, n, rfl, rfl, h1, h2, h3, q⟩ := h
  obtain ⟨t, rfl⟩ := rx
  obtain ⟨t', rfl⟩ := ry
  have hl : (SX.S l).length = l.length := SX.S_len l
  have hmul : l.length * n ≤ 1000 * 1000 := Nat.mul_le_mul h3 h2
  refine PySem.P.mul_str (by simp; omega) (fun _ _ => ?_) (fun _ _ => ?_) ?_
  · rw [hl]
    have h4 : (1000 : Int) ≤ (2 ^ 63 - 1) / (n : Int) := Int.le_ediv_of_mul_le (by omega) (by omega)
    omega
  · rw [hl, Int.toNat_natCast]
    show decide (l.length * n > sizeLine) = false
    rw [sizeLine_eq]
    exact decide_eq_false (by omega)
  · rw [if_neg (by omega)]
    by_cases hc : ((n : Int) == 1 || (SX.S l).length == 0) = true
    · rw [if_pos hc]
      have e : pow l n = l := by
        rcases Bool.or_eq_true_iff.mp hc with z | z
        · have : n = 1 := by have := eq_of_beq z; omega
          subst this
          show l ++ [] = l
          simp
        · have : l.length = 0 := by have := eq_of_beq z; rw [hl] at this; exact this
          have : l = [] := List.length_eq_zero_iff.mp this
          subst this
          exact pow_nil n
      rw [e] at q
      exact ⟨.str (SX.S l), H, I, ⟨t, rfl⟩, q⟩
    · rw [if_neg hc]
      have e : (⟨(List.replicate ((n : Int)).toNat (SX.S l).cps).foldl (· ++ ·) #[]⟩ : Str) = SX.S (pow l n) := by
        have z := foldl_cat n (SX.S l).cps #[]
        rw [Int.toNat_natCast]
        unfold SX.S at z ⊢
        congr 1
        apply Array.ext'
        rw [z]; simp
      rw [e]
      refine ⟨?_, .str _, H, I.tok _, ⟨_, rfl⟩, q⟩
      rw [SX.S_len, pow_length, Nat.mul_comm, sizeLine_eq]
      omega
end GH
namespace GH
open PySem PySem.Spec PyProof.Rows L2
/-! ### lists side by side -/
theorem paired_snoc {α β : Type} {R : α → β → Prop} : ∀ {xs : List α} {ys : List β} {x : α} {y : β}, Paired R xs ys → R x y → Paired R (xs ++ [x]) (ys ++ [y])
  | _, _, _, _, .nil, r => .cons r .nil
  | _, _, _, _, .cons q t, r => .cons q (paired_snoc t r)
theorem paired_get {α β : Type} {R : α → β → Prop} : ∀ {xs : List α} {ys : List β} {i : Nat} {x : α}, Paired R xs ys → xs[i]? = some x → ∃ y, ys[i]? = some y ∧ R x y
  | _, _, _, _, .nil, e => by simp at e
  | _, _, 0, _, .cons r _, e => by simp at e; subst e; exact ⟨_, rfl, r⟩
  | _, _, i + 1, x, .cons _ t, e => by
    obtain ⟨y, h1, h2⟩ := paired_get (i := i) t (by simpa using e)
    exact ⟨y, by simpa using h1, h2⟩
theorem paired_get' {α β : Type} {R : α → β → Prop} : ∀ {xs : List α} {ys : List β} {i : Nat} {y : β}, Paired R xs ys → ys[i]? = some y → ∃ x, xs[i]? = some x ∧ R x y
  | _, _, _, _, .nil, e => by simp at e
  | _, _, 0, _, .cons r _, e => by simp at e; subst e; exact ⟨_, rfl, r⟩
  | _, _, i + 1, y, .cons _ t, e => by
    obtain ⟨x, h1, h2⟩ := paired_get' (i := i) t (by simpa using e)
    exact ⟨x, by simpa using h1, h2⟩
theorem paired_eq {α β : Type} {f : β → α} : ∀ {xs : List α} {ys : List β}, Paired (fun x y => x = f y) xs ys → xs = ys.map f
  | _, _, .nil => rfl
  | _, _, .cons r t => by rw [r, paired_eq t]; rfl
theorem paired_mapR {α β : Type} {R : α → β → Prop} {f : β → α} (h : ∀ b, R (f b) b) : ∀ ys : List β, Paired R (ys.map f) ys
  | [] => .nil
  | y :: r => .cons (h y) (paired_mapR h r)
/-! ### comprehensions whose element leaves all else as it was -/
theorem lc_rel {J : It} {n : Nat} {G : Hp → Prop} {Y : Nat → Hp → V → Hp → Prop} (w : Walk J n G Y) {g : TG} {te : TE} {vs : List Nat} {σ : L2.St} {H1 : Hp} {D : Addr} {Qd : Hp → Prop} {β : Type} (Rel : Hp → V → β → Prop) (out : List β) (hn : out.length = n) (hsz : n ≤ 100000) (hD : H1 D = none)
    (mono : ∀ H H' y b, Tups H H' → Rel H y b → Rel H' y b) (hG : ∀ H, Same H1 H → G H)
    (hs : ∀ i x H H' b (Qe : VK), out[i]? = some b → Same H1 H → Y i H x H' → (∀ y H4, Same H H4 → Rel H4 y b → Qe y H4) → g x (wipe σ vs) H' fun σ2 H2 => wipe σ2 vs = wipe σ vs ∧ te σ2 H2 Qe)
    (hd : ∀ H ys, Same H1 H → H D = some (.lst ys) → Paired (Rel H) ys out → Qd H) :
    ∃ W : Nat → Nat → Hp → Prop, (∃ m, W 0 m (upd H1 D (.lst []))) ∧ ∀ i m H, W i m H →
      (J.stop i H ∧ Qd H) ∨ (J.go i H ∧ ∃ Nx : Hp → Prop, (∀ H', Nx H' → ∃ m', m' < m ∧ W (i + 1) m' H') ∧ ∀ x H', J.yld i H x H' → g x (wipe σ vs) H' fun σ2 H2 => wipe σ2 vs = wipe σ vs ∧ tYes σ2 H2 fun b H3 =>
        if b = true then te σ2 H3 fun y H4 => ∃ acc, H4 D = some (.lst acc) ∧ acc.length < sizeLine ∧ Nx (upd H4 D (.lst (acc ++ [y]))) else Nx H3) := by
  refine lc_it w (fun i H => Same H1 H ∧ ∃ ys, H D = some (.lst ys) ∧ Paired (Rel H) ys (out.take i)) ⟨Same.new hD, [], upd_same, .nil⟩ (fun i H _ p => hG H p.1) (fun i x H H' hi p y => ?_) (fun H p => ?_)
  · obtain ⟨s1, ys, eD, pr⟩ := p
    have hb : out[i]? = some (out[i]'(by omega)) := List.getElem?_eq_getElem (by omega)
    refine hs i x H H' _ _ hb s1 y fun v H4 s4 r4 => ⟨ys, s4 D _ eD, ?_, ?_⟩
    · have e := Paired.length pr
      rw [List.length_take] at e
      rw [sizeLine_eq]
      omega
    · have tt : Tups H4 (upd H4 D (.lst (ys ++ [v]))) := by
        have e4 := s4 D _ eD
        refine ⟨fun b xs e => ?_, fun b o u e => ?_⟩
        · rw [upd_ne (fun z => by rw [z, e4] at e; cases e)]; exact e
        · rw [upd_ne (fun z => by rw [z, e4] at e; cases e)]; exact e
      refine ⟨Same.mut (Same.trans s1 s4) hD, ys ++ [v], upd_same, ?_⟩
      rw [List.take_add_one, hb]
      refine paired_snoc (L2.Paired.mapP pr fun a b q => mono _ _ _ _ ((Same.tups s4).trans tt) q) (mono _ _ _ _ tt r4)
  · obtain ⟨s1, ys, eD, pr⟩ := p
    rw [List.take_of_length_le (by omega)] at pr
    exact hd H ys s1 eD pr
/-- .. that gives a plain value -/
theorem lc_val {J : It} {n : Nat} {G : Hp → Prop} {Y : Nat → Hp → V → Hp → Prop} (w : Walk J n G Y) {g : TG} {te : TE} {vs : List Nat} {σ : L2.St} {H1 : Hp} {D : Addr} {Qd : Hp → Prop} (out : List V) (hn : out.length = n) (hsz : n ≤ 100000) (hD : H1 D = none) (hG : ∀ H, Same H1 H → G H)
    (hs : ∀ i x H H' b (Qe : VK), out[i]? = some b → Same H1 H → Y i H x H' → (∀ H4, Same H H4 → Qe b H4) → g x (wipe σ vs) H' fun σ2 H2 => wipe σ2 vs = wipe σ vs ∧ te σ2 H2 Qe)
    (hd : ∀ H, Same H1 H → H D = some (.lst out) → Qd H) :
    ∃ W : Nat → Nat → Hp → Prop, (∃ m, W 0 m (upd H1 D (.lst []))) ∧ ∀ i m H, W i m H →
      (J.stop i H ∧ Qd H) ∨ (J.go i H ∧ ∃ Nx : Hp → Prop, (∀ H', Nx H' → ∃ m', m' < m ∧ W (i + 1) m' H') ∧ ∀ x H', J.yld i H x H' → g x (wipe σ vs) H' fun σ2 H2 => wipe σ2 vs = wipe σ vs ∧ tYes σ2 H2 fun b H3 =>
        if b = true then te σ2 H3 fun y H4 => ∃ acc, H4 D = some (.lst acc) ∧ acc.length < sizeLine ∧ Nx (upd H4 D (.lst (acc ++ [y]))) else Nx H3) := by
  refine lc_rel w (fun _ y b => y = b) out hn hsz hD (fun _ _ _ _ _ e => e) hG (fun i x H H' b Qe hb s y q => hs i x H H' b Qe hb s y fun H4 s4 => q b H4 s4 rfl) fun H ys s e pr => hd H s ?_
  have z := paired_eq (f := id) pr
  rw [List.map_id] at z
  rw [e, z]
/-! ### two clauses -/
theorem lc2_out {J : It} {n : Nat} {G : Hp → Prop} {Y : Nat → Hp → V → Hp → Prop} (w : Walk J n G Y) {g g1 : TG} {tt tt1 : TT} {wi1 : TI} {te : TE} {vs vs1 : List Nat} {σ : L2.St} {H1 : Hp} {D : Addr} {Qd : Hp → Prop} (Pv : Nat → Hp → Prop) (h0 : Pv 0 (upd H1 D (.lst []))) (hG : ∀ i H, i ≤ n → Pv i H → G H)
    (hs : ∀ i x H H', i < n → Pv i H → Y i H x H' → g x (wipe σ vs) H' fun σ2 H2 => wipe σ2 vs = wipe σ vs ∧ tt σ2 H2 fun b H3 =>
      if b = true then wi1 σ2 H3 fun J1 H4 => ∃ W1 : Nat → Nat → Hp → Prop, (∃ m, W1 0 m H4) ∧ ∀ j k H, W1 j k H →
        (J1.stop j H ∧ Pv (i + 1) H) ∨ (J1.go j H ∧ ∃ Nx1 : Hp → Prop, (∀ H', Nx1 H' → ∃ k', k' < k ∧ W1 (j + 1) k' H') ∧ ∀ x H', J1.yld j H x H' → g1 x (wipe σ2 vs1) H' fun σ3 H5 => wipe σ3 vs1 = wipe σ2 vs1 ∧ tt1 σ3 H5 fun b H6 =>
          if b = true then te σ3 H6 fun y H7 => ∃ acc, H7 D = some (.lst acc) ∧ acc.length < sizeLine ∧ Nx1 (upd H7 D (.lst (acc ++ [y]))) else Nx1 H6)
      else Pv (i + 1) H3) (hd : ∀ H, Pv n H → Qd H) :
    ∃ W : Nat → Nat → Hp → Prop, (∃ m, W 0 m (upd H1 D (.lst []))) ∧ ∀ i m H, W i m H →
      (J.stop i H ∧ Qd H) ∨ (J.go i H ∧ ∃ Nx : Hp → Prop, (∀ H', Nx H' → ∃ m', m' < m ∧ W (i + 1) m' H') ∧ ∀ x H', J.yld i H x H' → g x (wipe σ vs) H' fun σ2 H2 => wipe σ2 vs = wipe σ vs ∧ tt σ2 H2 fun b H3 =>
        if b = true then wi1 σ2 H3 fun J1 H4 => ∃ W1 : Nat → Nat → Hp → Prop, (∃ m, W1 0 m H4) ∧ ∀ j k H, W1 j k H →
          (J1.stop j H ∧ Nx H) ∨ (J1.go j H ∧ ∃ Nx1 : Hp → Prop, (∀ H', Nx1 H' → ∃ k', k' < k ∧ W1 (j + 1) k' H') ∧ ∀ x H', J1.yld j H x H' → g1 x (wipe σ2 vs1) H' fun σ3 H5 => wipe σ3 vs1 = wipe σ2 vs1 ∧ tt1 σ3 H5 fun b H6 =>
            if b = true then te σ3 H6 fun y H7 => ∃ acc, H7 D = some (.lst acc) ∧ acc.length < sizeLine ∧ Nx1 (upd H7 D (.lst (acc ++ [y]))) else Nx1 H6)
        else Nx H3) := by
  refine ⟨fun i m H => m = n - i ∧ i ≤ n ∧ Pv i H, ⟨n, by simp, Nat.zero_le _, h0⟩, ?_⟩
  rintro i m H ⟨rfl, hi, p⟩
  have q := hG i H hi p
  by_cases hlt : i < n
  · exact .inr ⟨w.goes i H hlt q, Pv (i + 1), fun H' p' => ⟨n - (i + 1), by omega, rfl, hlt, p'⟩, fun x H' y => hs i x H H' hlt p (w.yields i H x H' hlt q y)⟩
  · have e : i = n := by omega
    subst e
    exact .inl ⟨w.stops H q, hd H p⟩
theorem lc2_in {J1 : It} {n : Nat} {G : Hp → Prop} {Y : Nat → Hp → V → Hp → Prop} (w : Walk J1 n G Y) {g1 : TG} {tt1 : TT} {te : TE} {vs1 : List Nat} {σ2 : L2.St} {H4 : Hp} {D : Addr} {Nx : Hp → Prop} (Pw : Nat → Hp → Prop) (h0 : Pw 0 H4) (hG : ∀ i H, i ≤ n → Pw i H → G H)
    (hs : ∀ i x H H', i < n → Pw i H → Y i H x H' → g1 x (wipe σ2 vs1) H' fun σ3 H5 => wipe σ3 vs1 = wipe σ2 vs1 ∧ tt1 σ3 H5 fun b H6 =>
      if b = true then te σ3 H6 fun y H7 => ∃ acc, H7 D = some (.lst acc) ∧ acc.length < sizeLine ∧ Pw (i + 1) (upd H7 D (.lst (acc ++ [y]))) else Pw (i + 1) H6) (hd : ∀ H, Pw n H → Nx H) :
    ∃ W1 : Nat → Nat → Hp → Prop, (∃ m, W1 0 m H4) ∧ ∀ j k H, W1 j k H →
      (J1.stop j H ∧ Nx H) ∨ (J1.go j H ∧ ∃ Nx1 : Hp → Prop, (∀ H', Nx1 H' → ∃ k', k' < k ∧ W1 (j + 1) k' H') ∧ ∀ x H', J1.yld j H x H' → g1 x (wipe σ2 vs1) H' fun σ3 H5 => wipe σ3 vs1 = wipe σ2 vs1 ∧ tt1 σ3 H5 fun b H6 =>
        if b = true then te σ3 H6 fun y H7 => ∃ acc, H7 D = some (.lst acc) ∧ acc.length < sizeLine ∧ Nx1 (upd H7 D (.lst (acc ++ [y]))) else Nx1 H6) := by
  refine ⟨fun i m H => m = n - i ∧ i ≤ n ∧ Pw i H, ⟨n, by simp, Nat.zero_le _, h0⟩, ?_⟩
  rintro i m H ⟨rfl, hi, p⟩
  have q := hG i H hi p
  by_cases hlt : i < n
  · exact .inr ⟨w.goes i H hlt q, Pw (i + 1), fun H' p' => ⟨n - (i + 1), by omega, rfl, hlt, p'⟩, fun x H' y => hs i x H H' hlt p (w.yields i H x H' hlt q y)⟩
  · have e : i = n := by omega
    subst e
    exact .inl ⟨w.stops H q, hd H p⟩
end GH
namespace GH
open PySem PySem.Spec PyProof.Rows L2
/-- the built-in names that the text does not bind -/
structure Blt (mg : Str → Option Value) : Prop where
  len_ : mg "len" = none
  all_ : mg "all" = none
  isinstance_ : mg "isinstance" = none
  zip_ : mg "zip" = none
  enumerate_ : mg "enumerate" = none
  range_ : mg "range" = none
  max_ : mg "max" = none
  min_ : mg "min" = none
  abs_ : mg "abs" = none
  divmod_ : mg "divmod" = none
  int_ : mg "int" = none
  str_ : mg "str" = none
  bool_ : mg "bool" = none
  tuple_ : mg "tuple" = none
  list_ : mg "list" = none
  repr_ : mg "repr" = none
  any_ : mg "any" = none
  sorted_ : mg "sorted" = none
  dict_ : mg "dict" = none
  set_ : mg "set" = none
section
variable {X : Cx} {e e2 : Expr} {ta : TA} {p pos : Pos}
theorem Blt.pLen {K : PySem.W.Frag} {mg : Str → Option Value} (B : Blt mg) (ha : PA X [e] ta) (hmg : X.mg = mg := by rfl) (hK : X.K = K := by rfl)  (hg : Gl X "len" := by rfl) (he : starEach [e] X.env = (false, eval e X.env) :: starEach [] X.env := by rfl) (hpl : (backTo pos (starEach [] X.env)).any (·.1) = false := by rfl) :
    PE X (.Call (.Name "len" p) [e] [] pos) (tCB (fun xs H Q => ∃ x n, xs = [x] ∧ LenV K x H n ∧ Q (.int n) H) ta) := by
  subst hmg
  subst hK
  exact pe_callB call_len hg B.len_ PySem.boot_len ha (by decide) (by decide) he hpl
theorem Blt.pAll {K : PySem.W.Frag} {mg : Str → Option Value} (B : Blt mg) (ha : PA X [e] ta) (hmg : X.mg = mg := by rfl) (hK : X.K = K := by rfl) (hc : X.calm = true := by rfl) (hg : Gl X "all" := by rfl) (he : starEach [e] X.env = (false, eval e X.env) :: starEach [] X.env := by rfl) (hpl : (backTo pos (starEach [] X.env)).any (·.1) = false := by rfl) :
    PE X (.Call (.Name "all" p) [e] [] pos) (tCB (rAll K) ta) := by
  subst hmg
  subst hK
  exact pe_callB (cr_all hc) hg B.all_ boot_all ha (by decide) (by decide) he hpl
theorem Blt.pIsinstance {K : PySem.W.Frag} {mg : Str → Option Value} (B : Blt mg) (ha : PA X [e, e2] ta) (hmg : X.mg = mg := by rfl) (hK : X.K = K := by rfl)  (hg : Gl X "isinstance" := by rfl) (he : starEach [e, e2] X.env = (false, eval e X.env) :: starEach [e2] X.env := by rfl) (hpl : (backTo pos (starEach [e2] X.env)).any (·.1) = false := by rfl) :
    PE X (.Call (.Name "isinstance" p) [e, e2] [] pos) (tCB (rIsi K) ta) := by
  subst hmg
  subst hK
  exact pe_callB call_isi hg B.isinstance_ PyProof.Rows.boot_isinstance ha (by decide) (by decide) he hpl
theorem Blt.pMax1 {K : PySem.W.Frag} {mg : Str → Option Value} (B : Blt mg) (ha : PA X [e] ta) (hmg : X.mg = mg := by rfl) (hK : X.K = K := by rfl) (hc : X.calm = true := by rfl) (hg : Gl X "max" := by rfl) (he : starEach [e] X.env = (false, eval e X.env) :: starEach [] X.env := by rfl) (hpl : (backTo pos (starEach [] X.env)).any (·.1) = false := by rfl) :
    PE X (.Call (.Name "max" p) [e] [] pos) (tCB (rMax K) ta) := by
  subst hmg
  subst hK
  exact pe_callB (cr_max hc) hg B.max_ PyProof.Rows.boot_max ha (by decide) (by decide) he hpl
theorem Blt.pMax2 {mg : Str → Option Value} (B : Blt mg) (ha : PA X [e, e2] ta) (hmg : X.mg = mg := by rfl) (hc : X.calm = true := by rfl) (hg : Gl X "max" := by rfl) (he : starEach [e, e2] X.env = (false, eval e X.env) :: starEach [e2] X.env := by rfl) (hpl : (backTo pos (starEach [e2] X.env)).any (·.1) = false := by rfl) :
    PE X (.Call (.Name "max" p) [e, e2] [] pos) (tCB (fun xs H Q => ∃ i j, xs = [.int i, .int j] ∧ Q (.int (if j > i then j else i)) H) ta) := by
  subst hmg
  skip
  exact pe_callB (call_max2 hc) hg B.max_ PyProof.Rows.boot_max ha (by decide) (by decide) he hpl
theorem Blt.pMin2 {mg : Str → Option Value} (B : Blt mg) (ha : PA X [e, e2] ta) (hmg : X.mg = mg := by rfl) (hc : X.calm = true := by rfl) (hg : Gl X "min" := by rfl) (he : starEach [e, e2] X.env = (false, eval e X.env) :: starEach [e2] X.env := by rfl) (hpl : (backTo pos (starEach [e2] X.env)).any (·.1) = false := by rfl) :
    PE X (.Call (.Name "min" p) [e, e2] [] pos) (tCB (fun xs H Q => ∃ i j, xs = [.int i, .int j] ∧ Q (.int (if j < i then j else i)) H) ta) := by
  subst hmg
  skip
  exact pe_callB (call_min2 hc) hg B.min_ PyProof.Rows.boot_min ha (by decide) (by decide) he hpl
theorem Blt.pAbs {mg : Str → Option Value} (B : Blt mg) (ha : PA X [e] ta) (hmg : X.mg = mg := by rfl)  (hg : Gl X "abs" := by rfl) (he : starEach [e] X.env = (false, eval e X.env) :: starEach [] X.env := by rfl) (hpl : (backTo pos (starEach [] X.env)).any (·.1) = false := by rfl) :
    PE X (.Call (.Name "abs" p) [e] [] pos) (tCB (fun xs H Q => ∃ i, xs = [.int i] ∧ Q (.int (if i < 0 then -i else i)) H) ta) := by
  subst hmg
  skip
  exact pe_callB call_abs hg B.abs_ PyProof.Rows.boot_abs ha (by decide) (by decide) he hpl
theorem Blt.pDivmod {mg : Str → Option Value} (B : Blt mg) (ha : PA X [e, e2] ta) (hmg : X.mg = mg := by rfl)  (hg : Gl X "divmod" := by rfl) (he : starEach [e, e2] X.env = (false, eval e X.env) :: starEach [e2] X.env := by rfl) (hpl : (backTo pos (starEach [e2] X.env)).any (·.1) = false := by rfl) :
    PE X (.Call (.Name "divmod" p) [e, e2] [] pos) (tCB (fun xs H Q => ∃ i j, xs = [.int i, .int j] ∧ CDiv i j ∧ ∀ p, H p = none → Q (.ref p) (upd H p (.tup [.int (i / j), .int (i % j)]))) ta) := by
  subst hmg
  skip
  exact pe_callB call_divmod hg B.divmod_ PyProof.Rows.boot_divmod ha (by decide) (by decide) he hpl
theorem Blt.pInt {mg : Str → Option Value} (B : Blt mg) (ha : PA X [e] ta) (hmg : X.mg = mg := by rfl)  (hg : Gl X "int" := by rfl) (he : starEach [e] X.env = (false, eval e X.env) :: starEach [] X.env := by rfl) (hpl : (backTo pos (starEach [] X.env)).any (·.1) = false := by rfl) :
    PE X (.Call (.Name "int" p) [e] [] pos) (tCB (fun xs H Q => (∃ i, xs = [.int i] ∧ Q (.int i) H) ∨ ∃ k, xs = [.bl k] ∧ Q (.int (if k then 1 else 0)) H) ta) := by
  subst hmg
  skip
  exact pe_callTy call_int1 hg B.int_ PyProof.Rows.boot_int ha (by decide) (by decide) he hpl
theorem Blt.pTuple {K : PySem.W.Frag} {mg : Str → Option Value} (B : Blt mg) (ha : PA X [e] ta) (hmg : X.mg = mg := by rfl) (hK : X.K = K := by rfl)  (hg : Gl X "tuple" := by rfl) (he : starEach [e] X.env = (false, eval e X.env) :: starEach [] X.env := by rfl) (hpl : (backTo pos (starEach [] X.env)).any (·.1) = false := by rfl) :
    PE X (.Call (.Name "tuple" p) [e] [] pos) (tCB (fun xs H Q => ∃ p ys, xs = [.ref p] ∧ ((SqL K H p ys ∧ ∀ l, H l = none → Q (.ref l) (upd H l (.tup ys))) ∨ (SqT K H p ys ∧ Q (.ref p) H))) ta) := by
  subst hmg
  subst hK
  exact pe_callTy call_tuple_of hg B.tuple_ PyProof.Rows.boot_tuple ha (by decide) (by decide) he hpl
theorem Blt.pList {K : PySem.W.Frag} {mg : Str → Option Value} (B : Blt mg) (ha : PA X [e] ta) (hmg : X.mg = mg := by rfl) (hK : X.K = K := by rfl)  (hg : Gl X "list" := by rfl) (he : starEach [e] X.env = (false, eval e X.env) :: starEach [] X.env := by rfl) (hpl : (backTo pos (starEach [] X.env)).any (·.1) = false := by rfl) :
    PE X (.Call (.Name "list" p) [e] [] pos) (tCB (fun xs H Q => ∃ p ys, xs = [.ref p] ∧ (SqL K H p ys ∨ SqT K H p ys) ∧ ∀ l, H l = none → Q (.ref l) (upd H l (.lst ys))) ta) := by
  subst hmg
  subst hK
  exact pe_callTy call_list_of hg B.list_ (by decide +kernel) ha (by decide) (by decide) he hpl
end
/-! the rules that look at the written part, with it told -/
section
variable {X : Cx} {K : PySem.W.Frag}
theorem ix_seqK (h : X.K = K := by rfl) : IxR X (rIx K) := by subst h; exact ix_seq
theorem ix_listK (h : X.K = K := by rfl) : IxR X (rIxL K) := by subst h; exact ix_list
theorem ix_tupK (h : X.K = K := by rfl) : IxR X (rIxT K) := by subst h; exact ix_tup
theorem op_inK (h : X.K = K := by rfl) : OpR X (compareOp .In) (rIn K false) := by subst h; exact op_in_seq
theorem op_notInK (h : X.K = K := by rfl) : OpR X (compareOp .NotIn) (rIn K true) := by subst h; exact op_notIn_seq
theorem op_eqDK (hu : X.A.units + 64 < cLine) (h : X.K = K := by rfl) : OpR X (compareOp .Eq) (rEqD K) := by subst h; exact op_eqD hu
theorem op_neDK (hu : X.A.units + 64 < cLine) (h : X.K = K := by rfl) : OpR X (compareOp .NotEq) (rNeD K) := by subst h; exact op_neD hu
theorem sl_listK (h : X.K = K := by rfl) : SlR X (rSlL K) := by subst h; exact sl_list
theorem sl_tupK (h : X.K = K := by rfl) : SlR X (rSlT K) := by subst h; exact sl_tup
theorem mt_indexK (h : X.K = K := by rfl) : MtR X "list.index" (rIndex K) := by subst h; exact mt_index
theorem pi_listK {tg l : Expr} {tl : TE} (hl : PE X l tl) (h : X.K = K := by rfl) : PI X tg l (iList K tl) := by subst h; exact pi_list hl
theorem pi_tupK {tg l : Expr} {tl : TE} (hl : PE X l tl) (h : X.K = K := by rfl) : PI X tg l (iTup K tl) := by subst h; exact pi_tup hl
theorem pa_starK {e : Expr} {es : List Expr} {te : TE} {t : TA} {p : Pos} (he : PE X e te) (hr : PA X es t) (h : X.K = K := by rfl) (hs : starEach (.Starred e p :: es) X.env = (true, eval e X.env) :: starEach es X.env := by rfl) : PA X (.Starred e p :: es) (StX.tStar K te t) := by
  subst h; exact StX.pa_star he hr hs
theorem pi_zipK {e e2 : Expr} {ta : TA} {p pos tpos : Pos} {elts : List Expr} {kk : Nat} (hm : X.mg "zip" = none) (ha : PA X [e, e2] ta) (h : X.K = K := by rfl) (hg : Gl X "zip" := by rfl)
    (hs : starEach [e, e2] X.env = (false, eval e X.env) :: starEach [e2] X.env := by rfl) (hpl : (backTo pos (starEach [e2] X.env)).any (·.1) = false := by rfl) :
    PI X (.Tuple elts kk tpos) (.Call (.Name "zip" p) [e, e2] [] pos) (iZipG K ta) := by subst h; exact pi_zipG hg hm ha hs hpl
theorem pi_enumK {e : Expr} {ta : TA} {p pos tpos : Pos} {elts : List Expr} {kk : Nat} (hm : X.mg "enumerate" = none) (ha : PA X [e] ta) (h : X.K = K := by rfl) (hg : Gl X "enumerate" := by rfl) (hs : starEach [e] X.env = [(false, eval e X.env)] := by rfl) :
    PI X (.Tuple elts kk tpos) (.Call (.Name "enumerate" p) [e] [] pos) (iEnumG K ta) := by subst h; exact pi_enumG hg hm ha hs
theorem pe_joinK {o e : Expr} {to te : TE} {apos pos : Pos} (ho : PE X o to) (he : PE X e te) (h : X.K = K := by rfl) (hs : starEach [e] X.env = [(false, eval e X.env)] := by rfl) (hbase : attributeBase o "join" X.env (eval o X.env) = eval o X.env := by rfl) (hline : (apos.endLine == pos.line) = true := by rfl) :
    PE X (.Call (.Attribute o "join" apos) [e] [] pos) (tM1 (fun x xs H Q => ∃ a p, ∃ ys : List Str, x = .str a ∧ xs = [.ref p] ∧ (SqL K H p (ys.map V.str) ∨ SqT K H p (ys.map V.str)) ∧ (ys.map (·.length)).sum + ys.length * a.length ≤ 16777216 ∧ Q (.str (Txt.join a ys)) H) to te) := by
  subst h; exact pe_join ho he hs hbase hline
theorem pe_bmK {T : String} {name : Str} {id : String} {r : V → List V → Hp → VK → Prop} {o e : Expr} {es : List Expr} {to : TE} {t : TA} {apos cpos : Pos} (pa : PlainAttrs T) (slot : Slot T name id) (hty : typeOf (.builtin id) = pure (.type "method_descriptor")) (hm : MtR X id r) (ho : PE X o to) (ha : PA X (e :: es) t) (h : X.K = K := by rfl)
    (hbase : attributeBase o name X.env (eval o X.env) = eval o X.env := by rfl)
    (hfew : ((backTo cpos (starEach (e :: es) X.env)).all (fun x => !x.1) && (backToKw cpos (keywordEach [] X.env)).all (fun x => x.1.isSome) && decide ((e :: es).length + ([] : List Keyword).length + (if ([] : List Keyword).isEmpty then 0 else 1) < 30)) = true := by rfl)
    (hline : (apos.endLine == cpos.line) = true := by rfl) (hs : starEach (e :: es) X.env = (false, eval e X.env) :: starEach es X.env := by rfl) (hplain : (backTo cpos (starEach es X.env)).any (·.1) = false := by rfl) :
    PE X (.Call (.Attribute o name apos) (e :: es) [] cpos) (tBM K T r to t) := by
  subst h; exact pe_bm pa slot hty hm ho ha hbase hfew hline hs hplain
end
/-- a constant of the module -/
def Cst (mg : Str → Option Value) (x : Str) (v : V) : Prop := ∃ u, mg x = some u ∧ RelV v u
theorem pe_cst {X : Cx} {x : Str} {v : V} {pos : Pos} (h : Cst X.mg x v) (hg : Gl X x := by rfl) (hd : (x == ("__debug__" : Str)) = false := by decide) : PE X (.Name x pos) (tC v) := by
  obtain ⟨u, m, r⟩ := h
  exact pe_glob hg m r hd
/-- a built-in type as a value -/
theorem pe_type {X : Cx} {x : Str} {T : String} {pos : Pos} (hm : X.mg x = none) (hv : bootBuiltins x = some (.type T)) (hg : Gl X x := by rfl) (hn : x ≠ "__name__" := by decide) (hd : (x == ("__debug__" : Str)) = false := by decide) : PE X (.Name x pos) (tC (.ty T)) := pe_bltn hg hm hv rfl hn hd
/-- a tuple's type -/
theorem ty_tup {K : PySem.W.Frag} {H : Hp} {a : Addr} {xs : List V} (h : SqT K H a xs) : TyX K H (.ref a) (.type "tuple") := by
  rcases h with (h | ⟨o, h⟩) | ⟨o, its, n, lk, hc, _⟩
  · exact .base (.tup h)
  · exact .fTuple h
  · exact .kTuple lk hc
theorem len_small {n : Nat} (h : n ≤ 100000) : n ≤ sizeLine := by rw [sizeLine_eq]; omega
end GH
namespace GH
open PySem PySem.Spec PyProof.Rows L2
/-- a def of the module -/
def Def (K : PySem.W.Frag) (mg : Str → Option Value) (x : Str) (st : Stmt) : Prop := ∃ f fd, Fun K x x st f fd ∧ mg x = some (.ref f)
theorem ok_def {P : Program} {w : World} {K : PySem.W.Frag} {mg : Str → Option Value} {base : Heap} {k : Nat} {x : Str} {st : Stmt} {N ps : List Str} {sp : Sp} (F : Def K mg x st) (S : FnScope N ps (defScope st))
    (hb : ∀ (kV doc pm : Value) (an : Option Addr) (cdv ct : Value) (us : List Value), us.length = ps.length → bindArgs (PySem.W.fnOf x x (defArgs st) (defBody st) (defScope st) .none kV doc pm an cdv ct) ⟨us, []⟩ = pure (ps.zip us))
    (len : ∀ vs H Q E, sp vs H Q E → vs.length = ps.length)
    (body : ∀ (f : Addr) (cdv : Value) (A : Around) (outer : List Env) (s : Shared) (H : Hp) (vs : List V) (Q : VK) (E : XK), Room k (A.deeper (envOfC x (defScope st) s.heap.objs.size f cdv)) → sp vs H Q E →
      ∃ t, PSs (cxOf CX0 P w K mg base N x (defScope st) f cdv A outer s H E).nox (defBody st) t ∧ t { nx := fun _ H' => Q .non H', rt := Q } (start N vs) H) : Ok P w K mg base (k + 1) x ps sp := by
  obtain ⟨f, fd, F1, m⟩ := F
  exact ok_of F1 m S hb len (body f)
/-- what the text says of the class Machine -/
structure MachCls (K : PySem.W.Frag) (mg : Str → Option Value) (sI sL sS : Stmt) : Prop where
  ex : ∃ (C fI pL gL pS gS : Addr) (fdI fdL fdS : FuncData), mg "Machine" = some (.ref C) ∧ Cls K C ∧ Mk K C fI ∧ NoAttr K C "held_letters" ∧ NoAttr K C "held_states" ∧
    Fun K "__init__" "Machine.__init__" sI fI fdI ∧ PropOf K C "letters" pL gL ∧ Fun K "letters" "Machine.letters" sL gL fdL ∧ PropOf K C "states" pS gS ∧ Fun K "states" "Machine.states" sS gS fdS ∧
    PySem.W.findIn K (.ref C) "__class__" = some (some (.builtin "object.__class__")) ∧ PySem.W.specialIn K (.builtin "object.__class__") "__get__" = some (some (.builtin "getset_descriptor.__get__")) ∧ PySem.W.takesIn K (.builtin "object.__class__") = some true ∧
    PySem.W.mroIn K C (.type "object") = some true ∧ PySem.W.kitOne K (.ref C) (.ref C) = some true
/-- the class's address -/
def machC (mg : Str → Option Value) : Addr := match mg "Machine" with
  | some (.ref C) => C
  | _ => 0
section
variable {K : PySem.W.Frag} {mg : Str → Option Value} {sI sL sS : Stmt}
theorem MachCls.c (M : MachCls K mg sI sL sS) : ∃ (fI pL gL pS gS : Addr) (fdI fdL fdS : FuncData), mg "Machine" = some (.ref (machC mg)) ∧ Cls K (machC mg) ∧ Mk K (machC mg) fI ∧ NoAttr K (machC mg) "held_letters" ∧ NoAttr K (machC mg) "held_states" ∧
    Fun K "__init__" "Machine.__init__" sI fI fdI ∧ PropOf K (machC mg) "letters" pL gL ∧ Fun K "letters" "Machine.letters" sL gL fdL ∧ PropOf K (machC mg) "states" pS gS ∧ Fun K "states" "Machine.states" sS gS fdS := by
  obtain ⟨C, fI, pL, gL, pS, gS, fdI, fdL, fdS, m, h1, h2, h3, h4, h5, h6, h7, h8, h9, _⟩ := M.ex
  have e : machC mg = C := by unfold machC; rw [m]
  rw [e]
  exact ⟨fI, pL, gL, pS, gS, fdI, fdL, fdS, m, h1, h2, h3, h4, h5, h6, h7, h8, h9⟩
theorem MachCls.g (M : MachCls K mg sI sL sS) : mg "Machine" = some (.ref (machC mg)) := by
  obtain ⟨_, _, _, _, _, _, _, _, m, _⟩ := M.c
  exact m
theorem MachCls.cl (M : MachCls K mg sI sL sS) : Cls K (machC mg) := by
  obtain ⟨_, _, _, _, _, _, _, _, _, m, _⟩ := M.c
  exact m
theorem MachCls.n1 (M : MachCls K mg sI sL sS) : NoAttr K (machC mg) "held_letters" := by
  obtain ⟨_, _, _, _, _, _, _, _, _, _, _, m, _⟩ := M.c
  exact m
theorem MachCls.n2 (M : MachCls K mg sI sL sS) : NoAttr K (machC mg) "held_states" := by
  obtain ⟨_, _, _, _, _, _, _, _, _, _, _, _, m, _⟩ := M.c
  exact m
theorem MachCls.ty (M : MachCls K mg sI sL sS) {H : Hp} {a dx : Addr} {fs : List (Str × V)} (e : H a = some (.ins (machC mg) dx fs)) : TyX K H (.ref a) (.ref (machC mg)) ∧ PySem.W.kitOne K (.ref (machC mg)) (.ref (machC mg)) = some true := by
  obtain ⟨C, fI, pL, gL, pS, gS, fdI, fdL, fdS, m, h1, h2, h3, h4, h5, h6, h7, h8, h9, a1, a2, a3, a4, a5⟩ := M.ex
  have z : machC mg = C := by unfold machC; rw [m]
  rw [z] at e ⊢
  exact ⟨.base (.ins e h1 a1 a2 a3 a4), a5⟩
end
/-! the fields of a machine -/
def mF (s q : V) : List (Str × V) := [("held_letters", s), ("held_states", q)]
theorem mF_l (s q : V) : (mF s q).lookup ("held_letters" : Str) = some s := by
  unfold mF
  rw [List.lookup_cons, show (("held_letters" : Str) == "held_letters") = true by decide +kernel]
theorem mF_s (s q : V) : (mF s q).lookup ("held_states" : Str) = some q := by
  unfold mF
  rw [List.lookup_cons, show (("held_states" : Str) == "held_letters") = false by decide +kernel, List.lookup_cons, show (("held_states" : Str) == "held_states") = true by decide +kernel]
theorem mF_put (s q : V) : putF "held_states" q (putF "held_letters" s []) = mF s q := by
  show (if ("held_letters" : Str) = "held_states" then _ else (("held_letters" : Str), s) :: putF "held_states" q []) = mF s q
  rw [if_neg (by decide +kernel)]
  rfl
section
variable {X : Cx} {sI sL sS : Stmt} {e : Expr} {te : TE} {pos : Pos}
theorem fn_get {P : Program} {w : World} {K : PySem.W.Frag} {mg : Str → Option Value} {base : Heap} {name qual f : Str} {st : Stmt} {fa C : Addr} {fd : FuncData} (F : Fun K name qual st fa fd) (S : FnScope ["self"] ["self"] (defScope st)) (hb : ∃ p1 p2 p3, defBody st = [.Return (some (.Attribute (.Name "self" p1) f p2)) p3]) (c : Cls K C) (n : NoAttr K C f) :
    FnOk P w K mg base CX0 1 fa fd ["self"] (getSp C f) := by
  obtain ⟨p1, p2, p3, hb⟩ := hb
  obtain ⟨oc, od, kV, doc, pm, an, cdv, ct, osl, rfl, lk, hcd⟩ := F.ex
  exact fn_getter lk hcd S rfl hb c n
end
end GH
namespace GH
open PySem PySem.Spec PyProof.Rows L2
/-! ### what a datum's text may come to -/
mutual
def okD : PyData → Prop
  | .none | .bool _ => True
  | .int i => i.natAbs.log2 < 1920
  | .str x => ∀ c ∈ x.cps.toList, c < 16 ^ 8
  | .list xs | .tuple xs => okAll xs
  | .dict _ => False
def okAll : List PyData → Prop
  | [] => True
  | x :: xs => okD x ∧ okAll xs
end
mutual
def cost : PyData → Nat
  | .none | .bool _ => 5
  | .int _ => 1930
  | .str x => 10 * x.cps.size + 2
  | .list xs | .tuple xs => costAll xs + 3
  | .dict _ => 0
def costAll : List PyData → Nat
  | [] => 0
  | x :: xs => cost x + 2 + costAll xs
end
mutual
theorem okD_showable : ∀ d : PyData, okD d → d.showable = true ∧ d.hasDict = false
  | .none, _ => ⟨rfl, rfl⟩
  | .bool _, _ => ⟨rfl, rfl⟩
  | .int i, h => ⟨decide_eq_true (by simpa only [okD] using h), rfl⟩
  | .str _, _ => ⟨rfl, rfl⟩
  | .list xs, h => by
    have := okAll_showable xs (by simpa only [okD] using h)
    simpa only [PyData.showable, PyData.hasDict] using this
  | .tuple xs, h => by
    have := okAll_showable xs (by simpa only [okD] using h)
    simpa only [PyData.showable, PyData.hasDict] using this
  | .dict _, h => by simp only [okD] at h
theorem okAll_showable : ∀ xs : List PyData, okAll xs → PyData.showableAll xs = true ∧ PyData.hasDictAll xs = false
  | [], _ => ⟨rfl, rfl⟩
  | x :: xs, h => by
    have h' : okD x ∧ okAll xs := by simpa only [okAll] using h
    have h1 := okD_showable x h'.1
    have h2 := okAll_showable xs h'.2
    simp only [PyData.showableAll, PyData.hasDictAll, h1.1, h1.2, h2.1, h2.2]
    decide
end
mutual
theorem shown_cost : ∀ d : PyData, okD d → d.shown.length ≤ cost d
  | .none, _ => by
    have e : (PyData.shown .none).length = 4 := rfl
    simp only [cost]; omega
  | .bool b, _ => by
    have e : (PyData.shown (.bool b)).length ≤ 5 := by cases b <;> decide
    simp only [cost]; omega
  | .int i, h => by
    have h' : i.natAbs.log2 < 1920 := by simpa only [okD] using h
    have e := int_text_length_le (by decide) h'
    have e2 : (PyData.shown (.int i)).length = (toString i).length := by
      simp only [PyData.shown]
      exact PySem.ofString_length _
    simp only [cost]; omega
  | .str x, h => by
    have h' : ∀ c ∈ x.cps.toList, c < 16 ^ 8 := by simpa only [okD] using h
    have e := StrLaws.reprText_len x h'
    have e2 : x.length = x.cps.size := rfl
    simp only [PyData.shown, cost]; omega
  | .list xs, h => by
    have h1 := shownAll_cost xs (by simpa only [okD] using h)
    have h2 := listText_len_le (PyData.shownAll xs)
    have h3 := PyData.shownAll_length xs
    simp only [PyData.shown, cost]; omega
  | .tuple xs, h => by
    have h1 := shownAll_cost xs (by simpa only [okD] using h)
    have h2 := tupleText_len_le (PyData.shownAll xs)
    have h3 := PyData.shownAll_length xs
    simp only [PyData.shown, cost]; omega
  | .dict _, h => by simp only [okD] at h
theorem shownAll_cost : ∀ xs : List PyData, okAll xs → ((PyData.shownAll xs).map (·.length)).sum + 2 * xs.length ≤ costAll xs
  | [], _ => by simp [PyData.shownAll, costAll]
  | x :: xs, h => by
    have h' : okD x ∧ okAll xs := by simpa only [okAll] using h
    have h1 := shown_cost x h'.1
    have h2 := shownAll_cost xs h'.2
    simp only [PyData.shownAll, costAll, List.map_cons, List.sum_cons, List.length_cons]
    omega
end
theorem okInt {i : Int} (h : i.natAbs < 2 ^ 64) : okD (.int i) := by
  simp only [okD]
  by_cases h0 : i.natAbs = 0
  · rw [h0]; decide
  · exact Nat.lt_of_lt_of_le ((Nat.log2_lt h0).mpr h) (by decide)
theorem okNat {n : Nat} (h : n < 2 ^ 64) : okD (.int (n : Nat)) := okInt (by simpa using h)
theorem okBool (b : Bool) : okD (.bool b) := by simp only [okD]
theorem okNil : okAll [] := by simp only [okAll]
theorem okCons {x : PyData} {xs : List PyData} (a : okD x) (b : okAll xs) : okAll (x :: xs) := by simp only [okAll]; exact ⟨a, b⟩
theorem okLst {xs : List PyData} (a : okAll xs) : okD (.list xs) := by simp only [okD]; exact a
theorem okTup {xs : List PyData} (a : okAll xs) : okD (.tuple xs) := by simp only [okD]; exact a
/-! numbers in a row -/
def natD (l : List Nat) : List PyData := l.map fun n => .int (n : Nat)
theorem dp_nats {K : PySem.W.Frag} {H : Hp} : ∀ l : List Nat, DpAll K H (l.map fun n => V.int (n : Nat)) (natD l)
  | [] => .nil
  | _ :: r => .cons (.int _) (dp_nats r)
theorem ok_nats : ∀ l : List Nat, (∀ n ∈ l, n < 2 ^ 64) → okAll (natD l)
  | [], _ => okNil
  | n :: r, h => okCons (okNat (h n List.mem_cons_self)) (ok_nats r fun m hm => h m (List.mem_cons_of_mem _ hm))
theorem cost_nats : ∀ l : List Nat, costAll (natD l) = 1932 * l.length
  | [] => by simp [natD, costAll]
  | n :: r => by
    show cost _ + 2 + costAll (natD r) = _
    rw [cost_nats r]
    simp only [cost, List.length_cons]
    omega
theorem depth_nats : ∀ l : List Nat, PyData.depthAll (natD l) = 0
  | [] => by simp [natD, PyData.depthAll]
  | n :: r => by
    show max (PyData.depth _) (PyData.depthAll (natD r)) = 0
    rw [depth_nats r]
    simp [PyData.depth]
/-! ### repr of a datum, where no repr is under way -/
def rRepr (K : PySem.W.Frag) : List V → Hp → VK → Prop := fun xs H Q => ∃ x d, xs = [x] ∧ Dp K H x d ∧ okD d ∧ d.depth ≤ 60 ∧ cost d ≤ 10000000 ∧ Q (.str d.shown) H
theorem call_reprD {X : Cx} {k : Nat} (hg : X.A.guards = some []) (hr : Room k X.A) : CallR X (.builtin "repr") (rRepr X.K) := by
  intro pins s σ H xs us Q I r h
  obtain ⟨x, d, rfl, hd, ok, dp, cs, q⟩ := h
  obtain ⟨u, rfl, ru⟩ := vals1 r
  have hz : d.shown.length ≤ sizeLine := by
    have := shown_cost d ok
    rw [sizeLine_eq]; omega
  cases hd with
  | non => cases ru; exact PySem.P.repr_of_none ⟨.str _, H, I.tok _, ⟨_, rfl⟩, q⟩
  | bl b => cases ru; exact PySem.P.repr_of_bool ⟨.str _, H, I.tok _, ⟨_, rfl⟩, by cases b <;> exact q⟩
  | int i =>
    obtain ⟨t, rfl⟩ := ru
    exact PySem.P.repr_of_int (by simpa only [okD] using ok) ⟨.str _, H, I.tok _, ⟨_, rfl⟩, q⟩
  | str y =>
    obtain ⟨t, rfl⟩ := ru
    exact PySem.P.repr_of_str ⟨.str _, H, I.tok _, ⟨_, rfl⟩, q⟩ hz
  | lst hs ha =>
    obtain ⟨as, rd⟩ := Dp.reads I _ _ _ (.lst hs ha) ru
    cases ru
    have o := okD_showable _ ok
    exact repr_of_reads' rd o.1 (PyData.noDict_hsm o.2) hg (by have := hr.units; omega) (fun _ _ e => e) (fun h' u tk hk => ⟨.str _, H, I.kept hk, ⟨_, rfl⟩, q⟩) hz
  | tup hs ha =>
    obtain ⟨as, rd⟩ := Dp.reads I _ _ _ (.tup hs ha) ru
    cases ru
    have o := okD_showable _ ok
    exact repr_of_reads' rd o.1 (PyData.noDict_hsm o.2) hg (by have := hr.units; omega) (fun _ _ e => e) (fun h' u tk hk => ⟨.str _, H, I.kept hk, ⟨_, rfl⟩, q⟩) hz
theorem pe_repr {X : Cx} {K : PySem.W.Frag} {mg : Str → Option Value} {k : Nat} {e : Expr} {ta : TA} {p pos : Pos} (hm : mg "repr" = none) (hq : X.A.guards = some []) (hr : Room k X.A) (ha : PA X [e] ta) (hmg : X.mg = mg := by rfl) (hK : X.K = K := by rfl) (hg : Gl X "repr" := by rfl)
    (he : starEach [e] X.env = (false, eval e X.env) :: starEach [] X.env := by rfl) (hpl : (backTo pos (starEach [] X.env)).any (·.1) = false := by rfl) : PE X (.Call (.Name "repr" p) [e] [] pos) (tCB (rRepr K) ta) := by
  subst hmg
  subst hK
  exact pe_callB (call_reprD hq hr) hg hm (by decide +kernel) ha (by decide) (by decide) he hpl
end GH
namespace GH
open PySem PySem.Spec PyProof.Rows L2
/-! ### a def's promise where no repr is under way -/
structure FnG (P : Program) (w : World) (K : PySem.W.Frag) (mg : Str → Option Value) (base : Heap) (k : Nat) (f : Addr) (fd : FuncData) (ps : List Str) (sp : Sp) : Prop where
  ln : ∀ vs H Q E, sp vs H Q E → vs.length = ps.length
  go : ∀ (A : Around) (ou : List Env) (s : Shared) (H : Hp) (args : Args) (us : List Value) (vs : List V) (Q : VK) (E : XK), A.guards = some [] → Room k A → Env0 P w K mg base A ou s H → BindsTo s fd args (ps.zip us) → Vals vs us → sp vs H Q E →
    codeAny (model P w) A (.call (.ref f) args) (CR CX0 ou P w H s Q E) s
section
variable {X : Cx} {k : Nat} {f : Addr} {fd : FuncData} {ps : List Str} {sp : Sp} {x : Str} {p pos : Pos} {e : Expr} {es : List Expr} {t : TA}
theorem go_fn {pins : List (Addr × Obj)} {σ : L2.St} {H : Hp} {s : Shared} {Q : VK} {us : List Value} {vs : List V} (F : FnG X.prog X.w X.K X.mg X.base k f fd ps sp) (gd : X.A.guards = some []) (hr : Room k X.A) (hb : Binds X.K fd ps [])
    (I : Inv X pins σ H s) (r : Vals vs us) (h : sp vs H Q E0) : wpAny (model X.prog X.w) X.A (call (.ref f) us) (EP X pins σ Q) X.xe s := by
  have hl : (us ++ []).length = ps.length := by rw [List.append_nil, ← r.length]; exact F.ln _ _ _ _ h
  have bt := hb s us I.kIn hl
  rw [List.append_nil] at bt
  refine wpAny_call (codeAny_mono (F.go X.A X.stack s H ⟨us, []⟩ us vs Q E0 gd hr I.env0 bt r h) fun o s' hq => ?_)
  cases o with
  | error e => exact False.elim hq
  | ok fl => cases fl with
    | ret u => exact I.after hq
    | next => exact False.elim hq
    | brk => exact False.elim hq
    | cont => exact False.elim hq
end
structure OkG (P : Program) (w : World) (K : PySem.W.Frag) (mg : Str → Option Value) (base : Heap) (n : Nat) (x : Str) (ps : List Str) (sp : Sp) : Prop where
  ex : ∃ f fd, FnG P w K mg base n f fd ps sp ∧ Binds K fd ps [] ∧ mg x = some (.ref f) ∧ PySem.W.keepIn K (.ref f) = true ∧ (∀ (s : Shared) (us : List Value), us.length = ps.length → BindsTo s fd ⟨us, []⟩ (ps.zip us)) ∧ ∃ oc od osl, K.lookup f = some ⟨oc, od, .func fd, osl⟩
theorem pe_fnG {X : Cx} {n : Nat} {x : Str} {ps : List Str} {sp : Sp} {p pos : Pos} {e : Expr} {es : List Expr} {t : TA} (O : OkG X.prog X.w X.K X.mg X.base n x ps sp) (gd : X.A.guards = some []) (hr : Room n X.A) (hg : Gl X x) (ha : PA X (e :: es) t) (hdb : (x == ("__debug__" : Str)) = false := by decide)
    (he : starEach (e :: es) X.env = (false, eval e X.env) :: starEach es X.env := by rfl) (hpl : (backTo pos (starEach es X.env)).any (·.1) = false := by rfl) :
    PE X (.Call (.Name x p) (e :: es) [] pos) (tCall sp [] E0 t) := by
  obtain ⟨f, fd, F, b, m, k, _⟩ := O.ex
  refine ⟨fun pins s σ H Q I h => ?_⟩
  refine wpAny_Call_Name_kw (ld_glob I hg m ?_ hdb)
  refine PySem.W.callWith_K (h₀ := X.base) I.ok.mod.kin k (thn (ha.run pos pins s σ H _ I h) fun us s1 ⟨vs, H1, I1, r, q⟩ => ⟨I1.kIn, ?_⟩) he hpl
  have q : sp (vs ++ []) H1 Q E0 := q
  rw [List.append_nil] at q
  exact go_fn F gd hr b I1 r q
/-- a def of the text, by its body -/
theorem okG_def {P : Program} {w : World} {K : PySem.W.Frag} {mg : Str → Option Value} {base : Heap} {k : Nat} {x : Str} {st : Stmt} {N ps : List Str} {sp : Sp} (F : Def K mg x st) (S : FnScope N ps (defScope st))
    (hb : ∀ (kV doc pm : Value) (an : Option Addr) (cdv ct : Value) (us : List Value), us.length = ps.length → bindArgs (PySem.W.fnOf x x (defArgs st) (defBody st) (defScope st) .none kV doc pm an cdv ct) ⟨us, []⟩ = pure (ps.zip us))
    (len : ∀ vs H Q E, sp vs H Q E → vs.length = ps.length)
    (body : ∀ (f : Addr) (cdv : Value) (A : Around) (outer : List Env) (s : Shared) (H : Hp) (vs : List V) (Q : VK) (E : XK), A.guards = some [] → Room k (A.deeper (envOfC x (defScope st) s.heap.objs.size f cdv)) → sp vs H Q E →
      ∃ t, PSs (cxOf CX0 P w K mg base N x (defScope st) f cdv A outer s H E).nox (defBody st) t ∧ t { nx := fun _ H' => Q .non H', rt := Q } (start N vs) H) : OkG P w K mg base (k + 1) x ps sp := by
  obtain ⟨f, fd, F1, m⟩ := F
  have bnd := F1.binds hb
  have kp := F1.kp
  obtain ⟨oc, od, kV, doc, pm, an, cdv, ct, osl, rfl, lk, hcd⟩ := F1.ex
  refine ⟨f, _, ⟨len, fun A ou s H args us vs Q E gd hr ev bt rl hs => ?_⟩, bnd, m, kp, fun s us hl => .of_eq (hb kV doc pm an cdv ct us hl), oc, od, osl, lk⟩
  have hv := len _ _ _ _ hs
  have inH : K.In s.heap := ev.mod.kin.keeps fun b o e => (ev.bs b o e).1
  have nlm : s.heap.NoLimit := ev.mod.nolimit.keeps fun b o e => (ev.bs b o e).1
  have knd : ∀ y ∈ ps.zip us, (defScope st).names.lookup y.1 = some .local ∨ ((defScope st).names.lookup y.1 = some .cell ∧ ((cellsFrom (s.heap.objs.size + 1) (defScope st).names []).lookup y.1).isSome = true) := fun ⟨n, v⟩ hy => by
    rcases S.par n (List.of_mem_zip hy).1 with z | z
    · exact .inl z
    · exact .inr ⟨z, PySem.W.cellsFrom_some _ _ _ (.inl z)⟩
  refine codeAny_call_function hr.depth (inH _ _ lk) rfl S.co S.gen rfl (PySem.W.codeRec_of inH hcd) (bt _ _ _ _ ?_)
  refine wpAny_newFunctionEnv_cells S.kind knd fun env he s1 fr => ?_
  subst he
  refine ⟨nlm.keeps fr.toInCall.keep, codeAny_func ?_⟩
  obtain ⟨t, ht, hq⟩ := body f cdv A ou s H vs Q E gd (hr.deeper _) hs
  have I : Inv (cxOf CX0 P w K mg base N x (defScope st) f cdv A ou s H E) [] (start N vs) H s1 := inv_start S hr.hd ev hv rl fr
  have ht2 : PSs (cxOf CX0 P w K mg base N x (defScope st) f cdv A ou s H E) (defBody st) t := ht.nox
  refine wpAny_mono (ht2.run [] s1 (start N vs) H _ I hq) (fun fl s' hz => ?_) fun e s' hz => hz
  cases fl with
  | ret u =>
    obtain ⟨v, σ', H', J, rv, q⟩ := hz
    exact ⟨v, H', J.os, J.bare, J.base, J.hok, rv, q⟩
  | next =>
    obtain ⟨σ', H', J, q⟩ := hz
    exact ⟨.non, H', J.os, J.bare, J.base, J.hok, rfl, q⟩
  | brk => obtain ⟨_, _, _, q⟩ := hz; exact False.elim q
  | cont => obtain ⟨_, _, _, q⟩ := hz; exact False.elim q
theorem OkG.every {P : Program} {w : World} {K : PySem.W.Frag} {mg : Str → Option Value} {n : Nat} {x p : Str} {sp : Sp} {f : Addr} (O : ∀ base : Heap, OkG P w K mg base n x [p] sp) (m : mg x = some (.ref f)) :
    ∃ fd : FuncData, (∀ (s : Shared) (u : Value), BindsTo s fd ⟨[u], []⟩ [(p, u)]) ∧ ∀ base : Heap, FnG P w K mg base n f fd [p] sp := by
  obtain ⟨f0, fd, F, b, m0, k, bt, oc, od, osl, lk⟩ := (O default).ex
  rw [m] at m0
  cases m0
  refine ⟨fd, fun s u => bt s [u] rfl, fun base => ?_⟩
  obtain ⟨f1, fd1, F1, _, m1, _, _, oc1, od1, osl1, lk1⟩ := (O base).ex
  rw [m] at m1
  cases m1
  rw [lk] at lk1
  cases lk1
  exact F1
/-! ### the law's call -/
theorem go_law {P : Program} {w : World} {K : PySem.W.Frag} {mg mb : Str → Option Value} {k : Nat} {fa a : Addr} {fd : FuncData} {x : Str} {sp : Sp} {s1 : Shared} {vs : List Value} {ns : List Int}
    (KX : K.In s1.heap) (hns : s1.heap.Ns mainGlobals mg) (hb : s1.heap.Ns builtinsNs mb) (hbb : ∀ x : Str, x ≠ "__name__" → mb x = bootBuiltins x) (lim : s1.heap.NoLimit) (gn : s1.gens = #[])
    (ha : s1.heap.get? a = some { cls := .type "list", data := .seq vs.toArray }) (hi : IntsAre vs ns) (hl : ns.length ≤ sizeLine) (hr : Room k callerA)
    (F : ∀ base : Heap, FnG P w K mg base k fa fd [x] sp) (hbind : ∀ (s : Shared) (u : Value), BindsTo s fd ⟨[u], []⟩ [(x, u)])
    (hsp : ∀ H : Hp, SqL K H a (ns.map V.int) → sp [.ref a] H (fun v _ => v = .bl true) fun _ _ _ => False) :
    codeAny (model P w) callerA (.call (.ref fa) ⟨[.ref a], []⟩) (fun r s' => r = .ok (.ret (.bool true)) ∧ OldK s1.heap s'.heap ∧ s'.os = s1.os ∧ AllBare s'.gens) s1 := by
  have rv := vals_ints hi
  have hlen := hi.length
  have mid : ∀ H : Hp, Only H → SqL K H a (ns.map V.int) → HOk P w H s1.heap → (∀ b, H b ≠ none → b = a) → (H a ≠ none → K.lookup a = none) →
      codeAny (model P w) callerA (.call (.ref fa) ⟨[.ref a], []⟩) (fun r s' => r = .ok (.ret (.bool true)) ∧ OldK s1.heap s'.heap ∧ s'.os = s1.os ∧ AllBare s'.gens) s1 := by
    intro H only sq hok one out
    have bare : ∀ {b : Addr} {o : Obj} {es : Array DictEntry} {ep : Nat}, s1.heap.get? b = some o → o.data = .dict es ep → H b = none := fun {b o es ep} e d => by
      cases q : H b with
      | none => rfl
      | some u =>
        obtain rfl : b = a := one b (by rw [q]; exact Option.some_ne_none u)
        rw [ha] at e; cases e
        exact nomatch (show Data.seq vs.toArray _ = Data.dict es ep from d)
    have space : ∀ {b : Addr} {m : Str → Option Value}, s1.heap.Ns b m → (hidT s1.heap H).Ns b m := fun {b m} ⟨o, es, ep, e, d, r⟩ => ⟨o, es, ep, hidT_get e (bare e d), d, r⟩
    have part : K.In (hidT s1.heap H) := fun b o e => hidT_get (KX b o e) (by
      cases q : H b with
      | none => rfl
      | some u =>
        obtain rfl : b = a := one b (by rw [q]; exact Option.some_ne_none u)
        rw [out (by rw [q]; exact Option.some_ne_none u)] at e; cases e)
    have md : Mod K mg (hidT s1.heap H) := ⟨part, space hns, ⟨mb, space hb, hbb⟩, let ⟨mc, h1, h2⟩ := lim; ⟨mc, space h1, h2⟩⟩
    have ev : Env0 P w K mg (hidT s1.heap H) callerA [] s1 H := ⟨rfl, md, fun b o e => of_hidT e, Nat.le_of_eq (hidT_size _ _), trivial, fun b hb => (nomatch (show b ∈ ([] : List Addr) from hb)), hok, .of_eq gn⟩
    refine codeAny_mono ((F _).go callerA [] s1 H ⟨[.ref a], []⟩ [.ref a] [.ref a] _ _ rfl hr ev (hbind s1 (.ref a)) (.cons rfl .nil) (hsp H sq)) fun o s' h => ?_
    cases o with
    | error e => exact False.elim h
    | ok fl => cases fl with
      | next => exact False.elim h
      | brk => exact False.elim h
      | cont => exact False.elim h
      | ret u =>
        obtain ⟨v, H', os, br, un, hok', r', q⟩ := h
        obtain rfl : v = .bl true := q
        obtain rfl : u = Value.bool true := r'
        refine ⟨rfl, OldK.of_keep fun b o e => ?_, os, br⟩
        cases q : H b with
        | none => exact un.keep b o e q (fun z => nomatch (show b ∈ ([] : List Addr) from z)) (fun z => nomatch (show b ∈ ([] : List Addr) from z))
        | some u =>
          rcases only b with z | ⟨ob, xs, z⟩
          · rw [q] at z; cases z
          · obtain ⟨i1, _⟩ := hok b _ z
            obtain ⟨i2, _⟩ := hok' b _ (un.frzs b ob _ z)
            rw [e] at i1; cases i1
            exact i2
  cases hk : K.lookup a with
  | some o =>
    have e := KX a o hk
    rw [ha] at e
    cases e
    refine mid (fun _ => none) (fun _ => .inl rfl) (.inr ⟨_, vs.toArray, _, hk, rfl, rfl, rfl, ?_, by simpa using rv⟩) (fun b u z => nomatch (show (none : Option HO) = some u from z)) (fun b z => absurd rfl z) fun z => absurd rfl z
    rw [List.size_toArray, hlen]; exact hl
  | none =>
    let H0 : Hp := fun b => if b = a then some (.frz { cls := .type "list", data := .seq vs.toArray } (.lst (ns.map V.int))) else none
    have at_ : H0 a = some (.frz { cls := .type "list", data := .seq vs.toArray } (.lst (ns.map V.int))) := if_pos rfl
    have off : ∀ b, b ≠ a → H0 b = none := fun b n => if_neg n
    refine mid H0 (fun b => ?_) (.inl (.inr ⟨_, at_⟩)) (fun b u z => ?_) (fun b z => ?_) fun _ => hk
    · by_cases q : b = a
      · subst q; exact .inr ⟨_, _, at_⟩
      · exact .inl (off b q)
    · by_cases q : b = a
      · subst q
        rw [at_] at z; cases z
        exact ⟨ha, by rw [List.length_map]; exact hl, vs, _, rv, ha⟩
      · rw [off b q] at z; cases z
    · by_cases q : b = a
      · exact q
      · exact absurd (off b q) z
theorem go_walk {l : PySem.W.OpenLaw} {n k : Nat} {q : Program} {loose : List Str} {XP : (Str → Option Value) → Heap → Prop} {YP : World → Heap → Prop} {d : DefRec} {x : Str}
    (hn : l.most = some n) (hn2 : n ≤ sizeLine) (hdf : d.params.defaults = []) (hr : Room k callerA)
    (F : ∀ (w : World) (mg : Str → Option Value) (fa : Addr) (h : Heap), YP w h → h.Ns mainGlobals mg → mg d.name = some (.ref fa) →
      ∃ (K : PySem.W.Frag) (fd : FuncData) (sp : Sp), K.In h ∧ (∀ (s : Shared) (u : Value), BindsTo s fd ⟨[u], []⟩ [(x, u)]) ∧
        (∀ (H : Hp) (a : Addr) (ns : List Int), ns.length ≤ n → SqL K H a (ns.map V.int) → sp [.ref a] H (fun v _ => v = .bl true) fun _ _ _ => False) ∧
        ∀ base : Heap, FnG l.prog w K mg base k fa fd [x] sp) : PySem.W.WalkO q loose XP YP l.row.toRowW d [] (fun f vs => PySem.call f vs) := by
  refine Att.attach_call hn hdf fun w s0 s1 mg mb fa o pm cd doc a vs ns G Y _ _ _ hmg hob hin hle hgn => ?_
  obtain ⟨K, fd, sp, KX, hb, hs, hF⟩ := F w mg fa _ Y G.T.g hmg
  exact go_law KX G.T.g G.T.b G.T.builtins G.T.nolimit hgn hob hin (Nat.le_trans hle hn2) hr hF hb fun H hS => hs H a ns hle hS
end GH
namespace GH
open PySem PySem.Spec PyProof.Rows L2
/-! ### a def called by names alone; g: the values in the parameters' order -/
def swp {α : Type} : List α → List α
  | [a, b] => [b, a]
  | _ => []
theorem swp_rel : ∀ {zs : List V} {ws : List Value}, Vals zs ws → Vals (swp zs) (swp ws)
  | _, _, .nil => .nil
  | _, _, .cons _ .nil => .nil
  | _, _, .cons a (.cons b .nil) => .cons b (.cons a .nil)
  | _, _, .cons _ (.cons _ (.cons _ _)) => .nil
theorem swp_ok {p1 p2 : Str} {fd : FuncData} (h : ∀ a b, bindArgs fd ⟨[], [(p2, a), (p1, b)]⟩ = pure [(p1, b), (p2, a)]) : ∀ ws : List Value, (swp ws).length = [p1, p2].length → bindArgs fd ⟨[], [p2, p1].zip ws⟩ = pure ([p1, p2].zip (swp ws))
  | [], hl => nomatch hl
  | [_], hl => nomatch hl
  | [a, b], _ => h a b
  | _ :: _ :: _ :: _, hl => nomatch hl
def tKw (sp : Sp) (g : List V → List V) (tk : TA) : TE := fun σ H Q => tk σ H fun zs H1 => sp (g zs) H1 Q E0
section
variable {X : Cx} {n : Nat} {x : Str} {ps ks : List Str} {sp : Sp} {p pos : Pos} {kws : List Keyword} {tk : TA} {st : Stmt} {g : {α : Type} → List α → List α}
theorem pe_fnK (D : Def X.K X.mg x st) (O : Ok X.prog X.w X.K X.mg X.base n x ps sp) (hr : Room n X.A) (hg : Gl X x) (hkw : PK X kws tk) (hrel : ∀ {zs : List V} {ws : List Value}, Vals zs ws → Vals (g zs) (g ws))
    (hb : ∀ (kV doc pm : Value) (an : Option Addr) (cdv ct : Value) (ws : List Value), (g ws).length = ps.length → bindArgs (PySem.W.fnOf x x (defArgs st) (defBody st) (defScope st) .none kV doc pm an cdv ct) ⟨[], ks.zip ws⟩ = pure (ps.zip (g ws)))
    (hall : (backToKw pos (keywordEach kws X.env)).all (·.1.isSome) = true := by rfl) (hks : (backToKw pos (keywordEach kws X.env)).filterMap (·.1) = ks := by rfl) (hdb : (x == ("__debug__" : Str)) = false := by decide)
    (hpl : ((backTo pos (starEach [] X.env)).any (·.1) || (backToKw pos (keywordEach kws X.env)).any (·.1.isNone)) = false := by rfl) :
    PE X (.Call (.Name x p) [] kws pos) (tKw sp g tk) := by
  obtain ⟨f, fd, F, b, m, k, _, oc, od, osl, lk⟩ := O.ex
  obtain ⟨f1, fd1, F1, m1⟩ := D
  rw [m] at m1
  cases m1
  obtain ⟨oc1, od1, kV, doc, pm, an, cdv, ct, osl1, rfl, lk1, hcd⟩ := F1.ex
  rw [lk] at lk1
  cases lk1
  refine ⟨fun pins s σ H Q I h => ?_⟩
  refine wpAny_Call_Name_kw (ld_glob I hg m ?_ hdb)
  refine PySem.W.callWith_KW0 (h₀ := X.base) I.ok.mod.kin k hall (thn (hkw.run pos pins s σ H _ I h) fun ws s2 ⟨zs, H2, I2, rz, q2⟩ => ⟨I2.kIn, ?_⟩) hpl
  rw [hks]
  have rg := hrel rz
  have hl : (g ws).length = ps.length := by rw [← rg.length]; exact F.len _ _ _ _ q2
  refine wpAny_call (codeAny_mono (F.run X.A X.stack s2 H2 ⟨[], ks.zip ws⟩ (g ws) (g zs) Q E0 hr I2.env0 (.of_eq (hb kV doc pm an cdv ct ws hl)) rg q2) fun o s' hq => ?_)
  cases o with
  | error e => exact False.elim hq
  | ok fl => cases fl with
    | ret u => exact I2.after hq
    | next => exact False.elim hq
    | brk => exact False.elim hq
    | cont => exact False.elim hq
end
end GH
namespace GH
open PySem PySem.Spec PyProof.Rows L2
/-! ### a tuple once -/
theorem tup_once (l : Addr) (items : Array Value) (n : Nat) (dd : Option Addr) (sl : Array (Option Value)) (u : Tok) :
    Meets (Builtin.«tuple.__mul__» ⟨[.ref l, .int 1 u], []⟩) (fun _ R s => s.heap.get? l = some { cls := .type "tuple", dict := dd, data := .seq items n, slots := sl } ∧ R (.ok (.ret (Value.ref l))) s) :=
  .of_wp fun prog w A R s h => by
    obtain ⟨hp, g, d, tk, os⟩ := s
    obtain ⟨hl, h⟩ := h
    have f1 := AutoSeq1.idx_int
    have c1 : (items.isEmpty || (1 : Int) == 1) = true := by simp
    wp_walk using wpAny_loadPart' hl
    repeat (first
      | (refine wpAny_ite_true (decide_eq_true c1) ?_; wp_walk using wpAny_loadPart' hl)
      | (refine wpAny_ite_true rfl ?_; wp_walk using wpAny_loadPart' hl))
    exact ⟨_, rfl, h⟩
def rRepA (K : PySem.W.Frag) : R2 := fun x y H Q => ∃ (l : Addr) (k : Nat) (xs : List V), x = .ref l ∧ y = .int (k : Nat) ∧ SqT K H l xs ∧ xs ≠ [] ∧ 1 ≤ k ∧ k ≤ 1000 ∧ xs.length ≤ 1000 ∧ (k = 1 → Q (.ref l) H) ∧ (k ≠ 1 → ∀ p, H p = none → Q (.ref p) (upd H p (.tup (List.replicate k xs).flatten)))
theorem op_repA {X : Cx} {K : PySem.W.Frag} (hK : X.K = K := by rfl) : OpR X (binaryOp .Mult) (rRepA K) := by
  subst hK
  intro pins s σ H x y v u Q I rx ry h
  obtain ⟨l, k, xs, rfl, rfl, hT, hne, h1, h2, hz, q1, q2⟩ := h
  by_cases hk : k = 1
  · subst hk
    cases rx
    obtain ⟨t, rfl⟩ := ry
    obtain ⟨its, r, ⟨⟨cls, dd, data, sl⟩, ho, hc, n, hd⟩, hs⟩ := I.tuple hT
    simp only at hc hd
    subst hc hd
    have one : Value.int ((1 : Nat) : Int) t = Value.int 1 t := rfl
    rw [one]
    exact wpAny_binaryOp_repeat_ref (T := "tuple") (U := "int") (by decide) ⟨_, ho, rfl⟩ (fun s' => typeIs_int s' 1 t) noFill_tuple_mul F.fills_int_mul F.slot_int_rmul repeat_tuple F.slot_int_index.lookup
      (call_meets F.slot_int_rmul (typeIs_int s 1 t) F.entry_int_rmul (F.args_int_rmul_2 _ _) (int_rmul_tuple 1 t l its.toArray n dd sl)
        ⟨ho, rfl, ⟨_, ho, rfl⟩, call_meets F.slot_tuple_mul ⟨_, ho, rfl⟩ F.entry_tuple_mul (F.args_tuple_mul_2 _ _) (tup_once l its.toArray n dd sl t) ⟨ho, ⟨.ref l, H, I, rfl, q1 rfl⟩⟩⟩)
  · refine op_repT pins s σ H _ _ v u Q I rx ry ⟨l, (k : Nat), xs, rfl, rfl, hT, hne, by omega, by omega, hz, fun p np => ?_⟩
    rw [Int.toNat_natCast]
    exact q2 hk p np
/-! ### list(text) -/
theorem call_listT {X : Cx} (hc : X.calm = true) : CallR X (.type "list") (fun xs H Q => ∃ l : List Nat, xs = [.str (SX.S l)] ∧ l.length ≤ 100000 ∧ ∀ p, H p = none → Q (.ref p) (upd H p (.lst (l.map fun c => V.str ⟨#[c]⟩)))) := by
  intro pins s σ H xs us Q I r h
  obtain ⟨l, rfl, hl, q⟩ := h
  obtain ⟨u, rfl, t, rfl⟩ := vals1 r
  have hz : (SX.S l).length ≤ sizeLine := by rw [SX.S_len, sizeLine_eq]; omega
  refine call_list_str (I.ok.hd hc) (SX.S l) t (hn := hz) fun h' tk acc c' hk hS hacc => ?_
  have hsz : acc.toList.length = l.length := by
    rw [Array.length_toList, hacc.1]; exact SX.S_len l
  refine ⟨.ref s.heap.objs.size, upd H s.heap.objs.size (.lst (l.map fun c => V.str ⟨#[c]⟩)), I.laid hk (Nat.le_refl _) (show ObjOk X.prog X.w _ _ _ (.lst (l.map fun c => V.str ⟨#[c]⟩)) from ⟨?_, acc.toList, c', ?_, ?_⟩), rfl, q _ (I.hok.fresh (Nat.le_refl _))⟩
  · rw [List.length_map, sizeLine_eq]; omega
  · refine vals_of_at (by rw [List.length_map, hsz]) fun j x v h1 h2 => ?_
    obtain ⟨c, u, hcj, rfl⟩ := hacc.2 j v (by rw [← Array.getElem?_toList]; exact h2)
    have e : l[j]? = some c := by simpa [SX.S] using hcj
    rw [List.getElem?_map, e] at h1
    cases h1
    exact ⟨u, rfl⟩
  · rw [Array.toArray_toList]; exact hS
theorem Blt.pListT {X : Cx} {mg : Str → Option Value} {e : Expr} {ta : TA} {p pos : Pos} (B : Blt mg) (ha : PA X [e] ta) (hmg : X.mg = mg := by rfl) (hc : X.calm = true := by rfl) (hg : Gl X "list" := by rfl) (he : starEach [e] X.env = (false, eval e X.env) :: starEach [] X.env := by rfl) (hpl : (backTo pos (starEach [] X.env)).any (·.1) = false := by rfl) :
    PE X (.Call (.Name "list" p) [e] [] pos) (tCB (fun xs H Q => ∃ l : List Nat, xs = [.str (SX.S l)] ∧ l.length ≤ 100000 ∧ ∀ p, H p = none → Q (.ref p) (upd H p (.lst (l.map fun c => V.str ⟨#[c]⟩)))) ta) := by
  subst hmg
  exact pe_callTy (call_listT hc) hg B.list_ (by decide +kernel) ha (by decide) (by decide) he hpl
end GH
namespace GH
open PySem PySem.Spec PyProof.Rows L2
def top (i : Nat) : Stmt := PySem.Challenge.pw_guardhopes_k33_fitting_machines.main.body.getD i (.Pass ⟨0, 0, 0, 0⟩)
abbrev s_InvalidText___init__ : Stmt := inClass (top 3) 0
theorem sc_InvalidText___init__ : FnScope ["self", "given"] ["self", "given"] (defScope s_InvalidText___init__) := ⟨rfl, rfl, rfl, by decide +kernel, rfl, by decide +kernel, by decide +kernel⟩
abbrev s_InvalidLetters___init__ : Stmt := inClass (top 4) 0
theorem sc_InvalidLetters___init__ : FnScope ["self", "given"] ["self", "given"] (defScope s_InvalidLetters___init__) := ⟨rfl, rfl, rfl, by decide +kernel, rfl, by decide +kernel, by decide +kernel⟩
abbrev s_InvalidStates___init__ : Stmt := inClass (top 5) 0
theorem sc_InvalidStates___init__ : FnScope ["self", "index"] ["self", "index"] (defScope s_InvalidStates___init__) := ⟨rfl, rfl, rfl, by decide +kernel, rfl, by decide +kernel, by decide +kernel⟩
abbrev s_is_integer : Stmt := top 12
theorem sc_is_integer : FnScope ["value", "least", "greatest"] ["value", "least", "greatest"] (defScope s_is_integer) := ⟨rfl, rfl, rfl, by decide +kernel, rfl, by decide +kernel, by decide +kernel⟩
abbrev s_is_word_of : Stmt := top 13
theorem sc_is_word_of : FnScope ["value", "signs", "most", "sign"] ["value", "signs", "most"] (defScope s_is_word_of) := ⟨rfl, rfl, rfl, by decide +kernel, rfl, by decide +kernel, by decide +kernel⟩
abbrev s_is_tuple_of : Stmt := top 14
theorem sc_is_tuple_of : FnScope ["value", "many"] ["value", "many"] (defScope s_is_tuple_of) := ⟨rfl, rfl, rfl, by decide +kernel, rfl, by decide +kernel, by decide +kernel⟩
abbrev s_are_letters : Stmt := top 16
theorem sc_are_letters : FnScope ["value", "one", "other"] ["value"] (defScope s_are_letters) := ⟨rfl, rfl, rfl, by decide +kernel, rfl, by decide +kernel, by decide +kernel⟩
abbrev s_is_state : Stmt := top 17
theorem sc_is_state : FnScope ["value", "letters", "many", "target"] ["value", "letters", "many"] (defScope s_is_state) := ⟨rfl, rfl, rfl, by decide +kernel, rfl, by decide +kernel, by decide +kernel⟩
abbrev s_digit_of : Stmt := top 18
theorem sc_digit_of : FnScope ["text"] ["text"] (defScope s_digit_of) := ⟨rfl, rfl, rfl, by decide +kernel, rfl, by decide +kernel, by decide +kernel⟩
abbrev s_state_of : Stmt := top 19
theorem sc_state_of : FnScope ["row", "words", "word"] ["row"] (defScope s_state_of) := ⟨rfl, rfl, rfl, by decide +kernel, rfl, by decide +kernel, by decide +kernel⟩
abbrev s_Machine___init__ : Stmt := inClass (top 20) 0
theorem sc_Machine___init__ : FnScope ["self", "letters", "states", "index", "state"] ["self", "letters", "states"] (defScope s_Machine___init__) := ⟨rfl, rfl, rfl, by decide +kernel, rfl, by decide +kernel, by decide +kernel⟩
abbrev s_Machine_read : Stmt := inClass (top 20) 1
theorem sc_Machine_read : FnScope ["cls", "text", "head", "rows", "words", "machine", "row"] ["cls", "text"] (defScope s_Machine_read) := ⟨rfl, rfl, rfl, by decide +kernel, rfl, by decide +kernel, by decide +kernel⟩
abbrev s_Machine_letters : Stmt := inClass (top 20) 2
theorem sc_Machine_letters : FnScope ["self"] ["self"] (defScope s_Machine_letters) := ⟨rfl, rfl, rfl, by decide +kernel, rfl, by decide +kernel, by decide +kernel⟩
abbrev s_Machine_states : Stmt := inClass (top 20) 3
theorem sc_Machine_states : FnScope ["self"] ["self"] (defScope s_Machine_states) := ⟨rfl, rfl, rfl, by decide +kernel, rfl, by decide +kernel, by decide +kernel⟩
abbrev s_Machine___len__ : Stmt := inClass (top 20) 4
theorem sc_Machine___len__ : FnScope ["self"] ["self"] (defScope s_Machine___len__) := ⟨rfl, rfl, rfl, by decide +kernel, rfl, by decide +kernel, by decide +kernel⟩
abbrev s_Machine___bool__ : Stmt := inClass (top 20) 5
theorem sc_Machine___bool__ : FnScope ["self"] ["self"] (defScope s_Machine___bool__) := ⟨rfl, rfl, rfl, by decide +kernel, rfl, by decide +kernel, by decide +kernel⟩
abbrev s_Machine___iter__ : Stmt := inClass (top 20) 6
theorem sc_Machine___iter__ : FnScope ["self"] ["self"] (defScope s_Machine___iter__) := ⟨rfl, rfl, rfl, by decide +kernel, rfl, by decide +kernel, by decide +kernel⟩
abbrev s_Machine___str__ : Stmt := inClass (top 20) 7
theorem sc_Machine___str__ : FnScope ["self", "rows", "target", "colour", "targets"] ["self"] (defScope s_Machine___str__) := ⟨rfl, rfl, rfl, by decide +kernel, rfl, by decide +kernel, by decide +kernel⟩
abbrev s_Machine___eq__ : Stmt := inClass (top 20) 8
theorem sc_Machine___eq__ : FnScope ["self", "other"] ["self", "other"] (defScope s_Machine___eq__) := ⟨rfl, rfl, rfl, by decide +kernel, rfl, by decide +kernel, by decide +kernel⟩
abbrev s_Machine_changed : Stmt := inClass (top 20) 9
theorem sc_Machine_changed : FnScope ["self", "change"] ["self", "change"] (defScope s_Machine_changed) := ⟨rfl, rfl, rfl, by decide +kernel, rfl, by decide +kernel, by decide +kernel⟩
abbrev s_is_rope : Stmt := top 21
theorem sc_is_rope : FnScope ["machine", "value", "word", "sign"] ["machine", "value"] (defScope s_is_rope) := ⟨rfl, rfl, rfl, by decide +kernel, rfl, by decide +kernel, by decide +kernel⟩
abbrev s_way_of : Stmt := top 23
theorem sc_way_of : FnScope ["machine", "state", "word", "found", "letter"] ["machine", "state", "word"] (defScope s_way_of) := ⟨rfl, rfl, rfl, by decide +kernel, rfl, by decide +kernel, by decide +kernel⟩
abbrev s_end_of : Stmt := top 24
theorem sc_end_of : FnScope ["machine", "state", "word"] ["machine", "state", "word"] (defScope s_end_of) := ⟨rfl, rfl, rfl, by decide +kernel, rfl, by decide +kernel, by decide +kernel⟩
abbrev s_greatest_of : Stmt := top 25
theorem sc_greatest_of : FnScope ["machine", "states", "state"] ["machine", "states"] (defScope s_greatest_of) := ⟨rfl, rfl, rfl, by decide +kernel, rfl, by decide +kernel, by decide +kernel⟩
abbrev s_is_in : Stmt := top 26
theorem sc_is_in : FnScope ["machine", "lasso", "start", "around", "state", "seen", "first", "way", "index"] ["machine", "lasso"] (defScope s_is_in) := ⟨rfl, rfl, rfl, by decide +kernel, rfl, by decide +kernel, by decide +kernel⟩
abbrev s_does_fit : Stmt := top 28
theorem sc_does_fit : FnScope ["machine", "seen", "lasso", "truth"] ["machine", "seen"] (defScope s_does_fit) := ⟨rfl, rfl, rfl, by decide +kernel, rfl, by decide +kernel, by decide +kernel⟩
abbrev s_fitting : Stmt := top 29
theorem sc_fitting : FnScope ["machines", "seen", "index", "machine"] ["machines", "seen"] (defScope s_fitting) := ⟨rfl, rfl, rfl, by decide +kernel, rfl, by decide +kernel, by decide +kernel⟩
abbrev s__law_purse : Stmt := top 31
theorem sc__law_purse : FnScope ["_law_script", "_law_k", "_law_cell", "_law_digits", "_law_seed"] ["_law_script", "_law_k"] (defScope s__law_purse) := ⟨rfl, rfl, rfl, by decide +kernel, rfl, by decide +kernel, by decide +kernel⟩
abbrev s__law_draw : Stmt := top 32
theorem sc__law_draw : FnScope ["_law_purse_here", "_law_size", "_law_seed", "_law_by", "_law_digit"] ["_law_purse_here", "_law_size"] (defScope s__law_draw) := ⟨rfl, rfl, rfl, by decide +kernel, rfl, by decide +kernel, by decide +kernel⟩
abbrev s__law_pick : Stmt := top 33
theorem sc__law_pick : FnScope ["_law_purse_here", "_law_menu"] ["_law_purse_here", "_law_menu"] (defScope s__law_pick) := ⟨rfl, rfl, rfl, by decide +kernel, rfl, by decide +kernel, by decide +kernel⟩
abbrev s__law_tool : Stmt := top 34
theorem sc__law_tool : FnScope ["_law_purse_here", "_law_letters_here", "_law_most", "_law_top", "_law_many", "_law_found", "_law_k", "_law_targets_here", "_law_letter"] ["_law_purse_here", "_law_letters_here", "_law_most", "_law_top"] (defScope s__law_tool) := ⟨rfl, rfl, rfl, by decide +kernel, rfl, by decide +kernel, by decide +kernel⟩
abbrev s__law_made : Stmt := top 35
theorem sc__law_made : FnScope ["_law_tool_here"] ["_law_tool_here"] (defScope s__law_made) := ⟨rfl, rfl, rfl, by decide +kernel, rfl, by decide +kernel, by decide +kernel⟩
abbrev s__law_walk : Stmt := top 36
theorem sc__law_walk : FnScope ["_law_tool_here", "_law_state_here", "_law_run_here", "_law_found", "_law_letter"] ["_law_tool_here", "_law_state_here", "_law_run_here"] (defScope s__law_walk) := ⟨rfl, rfl, rfl, by decide +kernel, rfl, by decide +kernel, by decide +kernel⟩
abbrev s__law_end : Stmt := top 37
theorem sc__law_end : FnScope ["_law_tool_here", "_law_state_here", "_law_run_here"] ["_law_tool_here", "_law_state_here", "_law_run_here"] (defScope s__law_end) := ⟨rfl, rfl, rfl, by decide +kernel, rfl, by decide +kernel, by decide +kernel⟩
abbrev s__law_is_in : Stmt := top 38
theorem sc__law_is_in : FnScope ["_law_tool_here", "_law_rope_here", "_law_state_here", "_law_turn", "_law_seen", "_law_each"] ["_law_tool_here", "_law_rope_here"] (defScope s__law_is_in) := ⟨rfl, rfl, rfl, by decide +kernel, rfl, by decide +kernel, by decide +kernel⟩
abbrev s__law_is_rope : Stmt := top 39
theorem sc__law_is_rope : FnScope ["_law_tool_here", "_law_told", "_law_letter"] ["_law_tool_here", "_law_told"] (defScope s__law_is_rope) := ⟨rfl, rfl, rfl, by decide +kernel, rfl, by decide +kernel, by decide +kernel⟩
abbrev s__law_run : Stmt := top 40
theorem sc__law_run : FnScope ["_law_purse_here", "_law_letters_here", "_law_most", "_law_turn"] ["_law_purse_here", "_law_letters_here", "_law_most"] (defScope s__law_run) := ⟨rfl, rfl, rfl, by decide +kernel, rfl, by decide +kernel, by decide +kernel⟩
abbrev s__law_rope : Stmt := top 41
theorem sc__law_rope : FnScope ["_law_purse_here", "_law_letters_here"] ["_law_purse_here", "_law_letters_here"] (defScope s__law_rope) := ⟨rfl, rfl, rfl, by decide +kernel, rfl, by decide +kernel, by decide +kernel⟩
abbrev s__law_right : Stmt := top 42
theorem sc__law_right : FnScope ["_law_purse_here", "_law_tools_here", "_law_turn", "_law_tool_here", "_law_seen", "_law_rope_here", "_law_truth", "_law_due", "_law_k", "_law_fits", "_law_made_here", "_law_told", "_law_each"] ["_law_purse_here"] (defScope s__law_right) := ⟨rfl, rfl, rfl, by decide +kernel, rfl, by decide +kernel, by decide +kernel⟩
abbrev s_law : Stmt := top 43
theorem sc_law : FnScope ["_law_script", "_law_k"] ["_law_script"] (defScope s_law) := ⟨rfl, rfl, rfl, by decide +kernel, rfl, by decide +kernel, by decide +kernel⟩
structure Txt (K : PySem.W.Frag) (mg : Str → Option Value) : Prop where
  B : Blt mg
  d_is_integer : Def K mg "is_integer" s_is_integer
  d_is_word_of : Def K mg "is_word_of" s_is_word_of
  d_is_tuple_of : Def K mg "is_tuple_of" s_is_tuple_of
  d_are_letters : Def K mg "are_letters" s_are_letters
  d_is_state : Def K mg "is_state" s_is_state
  d_digit_of : Def K mg "digit_of" s_digit_of
  d_state_of : Def K mg "state_of" s_state_of
  d_is_rope : Def K mg "is_rope" s_is_rope
  d_way_of : Def K mg "way_of" s_way_of
  d_end_of : Def K mg "end_of" s_end_of
  d_greatest_of : Def K mg "greatest_of" s_greatest_of
  d_is_in : Def K mg "is_in" s_is_in
  d_does_fit : Def K mg "does_fit" s_does_fit
  d_fitting : Def K mg "fitting" s_fitting
  d__law_purse : Def K mg "_law_purse" s__law_purse
  d__law_draw : Def K mg "_law_draw" s__law_draw
  d__law_pick : Def K mg "_law_pick" s__law_pick
  d__law_tool : Def K mg "_law_tool" s__law_tool
  d__law_made : Def K mg "_law_made" s__law_made
  d__law_walk : Def K mg "_law_walk" s__law_walk
  d__law_end : Def K mg "_law_end" s__law_end
  d__law_is_in : Def K mg "_law_is_in" s__law_is_in
  d__law_is_rope : Def K mg "_law_is_rope" s__law_is_rope
  d__law_run : Def K mg "_law_run" s__law_run
  d__law_rope : Def K mg "_law_rope" s__law_rope
  d__law_right : Def K mg "_law_right" s__law_right
  d_law : Def K mg "law" s_law
  c_MOST_LETTERS : Cst mg "MOST_LETTERS" (.int 3)
  c_MOST_STATES : Cst mg "MOST_STATES" (.int 6)
  c_MOST_COLOUR : Cst mg "MOST_COLOUR" (.int 6)
  c_LETTERS : Cst mg "LETTERS" (.str (Str.ofString "abcdefghijklmnopqrstuvwxyz"))
  c_DIGITS : Cst mg "DIGITS" (.str (Str.ofString "0123456789"))
  M : MachCls K mg s_Machine___init__ s_Machine_letters s_Machine_states
end GH
namespace GH
open PySem PySem.Spec PyProof.Rows L2
section
variable {P : Program} {w : World} {K : PySem.W.Frag} {mg : Str → Option Value} {base : Heap}
/-! ### is_integer, is_word_of, is_tuple_of -/
def sp_is_integer : Sp := fun vs H Q _ => ∃ v lo hi : Int, vs = [.int v, .int lo, .int hi] ∧ Q (.bl (decide (lo ≤ v) && decide (v ≤ hi))) H
theorem o_is_integer (T : Txt K mg) : Ok P w K mg base 1 "is_integer" ["value", "least", "greatest"] sp_is_integer := by
  refine ok_def T.d_is_integer sc_is_integer (fun _ _ _ _ _ _ us hl => match us, hl with | [_, _, _], _ => rfl) (fun vs H Q E h => ?_) (fun f cdv A outer s H vs Q E hr h => ?_)
  · obtain ⟨v, lo, hi, rfl, _⟩ := h; rfl
  · obtain ⟨v, lo, hi, rfl, q⟩ := h
    refine ⟨_, (pss_one (ps_ret (pe_and (T.B.pIsinstance (K := K) (pa_cons (pv 0) (pa_cons (pe_type T.B.int_ PyProof.Rows.boot_int) pa_nil))) (pe_and (pe_not (T.B.pIsinstance (K := K) (pa_cons (pv 0) (pa_cons (pe_type T.B.bool_ PyProof.Rows.boot_bool) pa_nil)))) (pe_one (pe_chain op_le op_le (pv 1) (pv 0) (pv 2))))))), ?_⟩
    refine ⟨_, rfl, _, _, _, _, _, rfl, .ty _, .base (.int _), kit_ty (r := true) (by decide +kernel), _, rfl, iteT ?_⟩
    refine ⟨_, rfl, _, _, _, _, _, rfl, .ty _, .base (.int _), kit_ty (r := false) (by decide +kernel), _, rfl, _, rfl, iteT ?_⟩
    refine ⟨_, rfl, _, rfl, _, _, rfl, rfl, _, rfl, ?_⟩
    by_cases h1 : lo ≤ v
    · rw [decide_eq_true h1] at q ⊢
      exact iteT ⟨_, rfl, _, _, rfl, rfl, q⟩
    · rw [decide_eq_false h1] at q ⊢
      exact iteF q
/-- s in another one's signs, at most so many -/
def wordOk (x y : List Nat) (m : Int) : Bool := decide ((x.length : Int) ≤ m) && x.all fun c => decide (c ∈ y)
def sp_is_word_of : Sp := fun vs H Q _ => ∃ (x y : List Nat) (m : Int), vs = [.str (SX.S x), .str (SX.S y), .int m] ∧ x.length ≤ 100000 ∧ ∀ H', Same H H' → Q (.bl (wordOk x y m)) H'
theorem o_is_word_of (T : Txt K mg) : Ok P w K mg base 1 "is_word_of" ["value", "signs", "most"] sp_is_word_of := by
  refine ok_def T.d_is_word_of sc_is_word_of (fun _ _ _ _ _ _ us hl => match us, hl with | [_, _, _], _ => rfl) (fun vs H Q E h => ?_) (fun f cdv A outer s H vs Q E hr h => ?_)
  · obtain ⟨x, y, m, rfl, _⟩ := h; rfl
  · obtain ⟨x, y, m, rfl, hx, q⟩ := h
    refine ⟨_, (pss_one (ps_ret (pe_and (T.B.pIsinstance (K := K) (pa_cons (pv 0) (pa_cons (pe_type T.B.str_ PyProof.Rows.boot_str) pa_nil))) (pe_and (pe_cmpR op_le (T.B.pLen (K := K) (pa_cons (pv 0) pa_nil)) (pv 2) (nomark _)) (pe_one (T.B.pAll (K := K) (pa_cons (pe_lc (own := [("sign", 3)]) (g := gName 3) (tt := tYes) rfl sc_is_word_of.nd (pi_str (pv 0)) (blkOk_by (own := [("sign", 3)]) (N := ["value", "signs", "most", "sign"]) (sc := defScope s_is_word_of) (by decide +kernel)) (fun _ _ _ _ _ => (pg_name (i := 3) sc_is_word_of.nd rfl (by first | exact .inl rfl | exact .inr rfl))) (fun _ _ _ _ _ => pts_nil) (fun _ _ _ _ _ => (pe_cmpR op_in_sign (pv 3) (pv 1) (by rfl)))) pa_nil))))))), ?_⟩
    refine ⟨_, rfl, _, _, _, _, _, rfl, .ty _, .base (.str _), kit_ty (r := true) (by decide +kernel), _, rfl, iteT ?_⟩
    have hl : (SX.S x).length = x.length := SX.S_len x
    refine ⟨_, rfl, _, x.length, rfl, ⟨by rw [hl]; exact len_small hx, hl.symm⟩, _, rfl, _, _, rfl, rfl, _, rfl, ?_⟩
    unfold wordOk at q
    by_cases h1 : (x.length : Int) ≤ m
    · rw [decide_eq_true h1] at q ⊢
      refine iteT ⟨_, rfl, SX.S x, rfl, fun D hD => ?_⟩
      refine lc_val (walk_str (z := SX.S x)) (x.map fun c => V.bl (decide (c ∈ y))) (by simp [SX.S]) (by simp [SX.S]; omega) hD (fun _ _ => trivial) (fun i v H1 H2 b Qe hb s1 yl k => ?_) (fun H1 s1 eD => ?_)
      · obtain ⟨rfl, c, hc, rfl⟩ := yl
        have hc' : x[i]? = some c := by simpa [SX.S] using hc
        rw [List.getElem?_map, hc'] at hb
        cases hb
        refine ⟨rfl, _, rfl, _, rfl, c, _, rfl, rfl, ?_⟩
        exact k H2 (Same.refl _)
      · refine ⟨D, x.map fun c => decide (c ∈ y), rfl, SqL.of (by rw [eD, List.map_map]; rfl), ?_⟩
        have z := q H1 s1
        rw [Bool.true_and] at z
        rw [List.all_map]
        exact z
    · rw [decide_eq_false h1] at q ⊢
      exact iteF (q H (Same.refl _))
def sp_is_tuple_of (K : PySem.W.Frag) : Sp := fun vs H Q _ => ∃ (a : Addr) (xs : List V) (n : Int), vs = [.ref a, .int n] ∧ SqT K H a xs ∧ Q (.bl (decide ((xs.length : Int) = n))) H
theorem o_is_tuple_of (T : Txt K mg) : Ok P w K mg base 1 "is_tuple_of" ["value", "many"] (sp_is_tuple_of K) := by
  refine ok_def T.d_is_tuple_of sc_is_tuple_of (fun _ _ _ _ _ _ us hl => match us, hl with | [_, _], _ => rfl) (fun vs H Q E h => ?_) (fun f cdv A outer s H vs Q E hr h => ?_)
  · obtain ⟨a, xs, n, rfl, _⟩ := h; rfl
  · obtain ⟨a, xs, n, rfl, hS, q⟩ := h
    refine ⟨_, (pss_one (ps_ret (pe_and (T.B.pIsinstance (K := K) (pa_cons (pv 0) (pa_cons (pe_type T.B.tuple_ PyProof.Rows.boot_tuple) pa_nil))) (pe_one (pe_cmpR op_eq (T.B.pLen (K := K) (pa_cons (pv 0) pa_nil)) (pv 1) (nomark _)))))), ?_⟩
    refine ⟨_, rfl, _, _, _, _, _, rfl, .ty _, ty_tup hS, kit_ty (r := true) (by decide +kernel), _, rfl, iteT ?_⟩
    refine ⟨_, rfl, _, xs.length, rfl, .inr ⟨xs, hS, rfl⟩, _, rfl, rfl, ?_⟩
    have e : decide (V.int (xs.length : Int) = V.int n) = decide ((xs.length : Int) = n) := by
      by_cases z : (xs.length : Int) = n
      · rw [decide_eq_true z, z]; exact decide_eq_true rfl
      · rw [decide_eq_false z]; exact decide_eq_false fun y => z (V.int.inj y)
    rw [e]
    exact q
end
end GH
namespace GH
open PySem PySem.Spec PyProof.Rows L2
/-! ### letters -/
def abcL : List Nat := (List.range 26).map fun i => i + 97
theorem abc_eq : Str.ofString "abcdefghijklmnopqrstuvwxyz" = SX.S abcL := by decide +kernel
def asc : List Nat → Bool
  | a :: b :: r => decide (a < b) && asc (b :: r)
  | _ => true
def lettersOk (L : List Nat) : Bool := wordOk L abcL 3 && (!decide (L = []) && asc L)
theorem cut_from1 (L : List Nat) : cutS (SX.S L) (some 1) none = SX.S (L.drop 1) := by
  unfold cutS SX.S
  congr 1
  simp only [Str.length, List.size_toArray]
  rw [show HT.sIx L.length 0 (some 1) = min 1 L.length from HT.sIx_nat L.length 0 1, HT.sIx_none]
  cases L with
  | nil => rfl
  | cons a r =>
    rw [show min 1 (a :: r).length = 1 by simp]
    simp
def sg (c : Nat) : V := .str ⟨#[c]⟩
theorem txt_items (L : List Nat) : (Src.txt (SX.S L)).items = L.map sg := by
  show (SX.S L).cps.toList.map _ = L.map sg
  simp [SX.S, sg]
theorem asc_all : ∀ L : List Nat, ((L.zip (L.drop 1)).map fun p => decide (p.1 < p.2)).all id = asc L
  | [] => rfl
  | [_] => rfl
  | a :: b :: r => by
    have ih := asc_all (b :: r)
    show (decide (a < b) && (((b :: r).zip ((b :: r).drop 1)).map fun p => decide (p.1 < p.2)).all id) = (decide (a < b) && asc (b :: r))
    rw [ih]
theorem lt_sign (a b : Nat) : decide ((⟨#[a]⟩ : Str).cps.toList < (⟨#[b]⟩ : Str).cps.toList) = decide (a < b) := by
  have e : ((⟨#[a]⟩ : Str).cps.toList < (⟨#[b]⟩ : Str).cps.toList) ↔ a < b := by
    show ([a] < [b]) ↔ a < b
    rw [List.cons_lt_cons_iff]
    constructor
    · rintro (h | ⟨_, h⟩)
      · exact h
      · exact absurd h (List.not_lt_nil _)
    · exact .inl
  simp only [e]
section
variable {P : Program} {w : World} {K : PySem.W.Frag} {mg : Str → Option Value} {base : Heap}
def sp_are_letters : Sp := fun vs H Q _ => ∃ L : List Nat, vs = [.str (SX.S L)] ∧ L.length ≤ 100000 ∧ ∀ H', Same H H' → Q (.bl (lettersOk L)) H'
theorem o_are_letters (T : Txt K mg) : Ok P w K mg base 2 "are_letters" ["value"] sp_are_letters := by
  refine ok_def T.d_are_letters sc_are_letters (fun _ _ _ _ _ _ us hl => match us, hl with | [_], _ => rfl) (fun vs H Q E h => ?_) (fun f cdv A outer s H vs Q E hr h => ?_)
  · obtain ⟨L, rfl, _⟩ := h; rfl
  · obtain ⟨L, rfl, hL, q⟩ := h
    refine ⟨_, (pss_cons (ps_if (PW.pt (pw_or (pt_not (pt_val (pe_fn (o_is_word_of T) (hr.mono (by decide)) (by rfl) (pa_cons (pv 0) (pa_cons (pe_cst T.c_LETTERS) (pa_cons (pe_cst T.c_MOST_LETTERS) pa_nil)))))) (pw_or1 (pt_cmpR op_eq (pv 0) pe_str (nomark _)))))
      (pss_one (ps_ret pe_bl))
      pss_nil)
    (pss_one (ps_ret (T.B.pAll (K := K) (pa_cons (pe_lc (own := [("one", 1), ("other", 2)]) (g := gTup K 2 (gCons (gName 1) (gCons (gName 2) gNil))) (tt := tYes) rfl sc_are_letters.nd (pi_zipK (K := K) T.B.zip_ (pa_cons (pv 0) (pa_cons (pe_slice sl_str (pv 0) (po_some pe_int) po_none) pa_nil))) (blkOk_by (own := [("one", 1), ("other", 2)]) (N := ["value", "one", "other"]) (sc := defScope s_are_letters) (by decide +kernel)) (fun _ _ _ _ _ => (pg_tup rfl (pgs_cons (pg_name (i := 1) sc_are_letters.nd rfl (by first | exact .inl rfl | exact .inr rfl)) (pgs_cons (pg_name (i := 2) sc_are_letters.nd rfl (by first | exact .inl rfl | exact .inr rfl)) pgs_nil)))) (fun _ _ _ _ _ => pts_nil) (fun _ _ _ _ _ => (pe_cmpR op_lt_str (pv 1) (pv 2) (nomark _)))) pa_nil))))), ?_⟩
    refine ⟨_, rfl, L, abcL, 3, by rw [← abc_eq]; rfl, hL, fun H1 s1 => ⟨_, rfl, ?_⟩⟩
    cases hw : wordOk L abcL 3 with
    | false =>
      refine iteT (iteT ?_)
      have z := q H1 s1
      unfold lettersOk at z
      rw [hw] at z
      exact z
    | true =>
      refine iteF ⟨_, rfl, rfl, _, rfl, ?_⟩
      by_cases h0 : L = []
      · subst h0
        have z := q H1 s1
        exact iteT z
      · have e0 : decide (V.str (SX.S L) = V.str (Str.ofString "")) = false := decide_eq_false fun z => h0 (SX.S_inj (V.str.inj z))
        show if decide (V.str (SX.S L) = V.str (Str.ofString "")) = true then _ else _
        rw [e0]
        refine iteF ?_
        have hlen : (SX.S L).length ≤ sizeLine := by rw [SX.S_len]; exact len_small hL
        refine ⟨_, rfl, _, rfl, 1, rfl, SX.S L, rfl, hlen, .txt (SX.S L), .txt (SX.S (L.drop 1)), by rw [cut_from1]; rfl, trivial, trivial, fun D hD => ?_⟩
        refine lc_val walk_zipG ((L.zip (L.drop 1)).map fun p => V.bl (decide (p.1 < p.2))) ?_ ?_ hD (fun _ _ => ⟨trivial, trivial⟩) (fun i v H2 H3 b Qe hb s2 yl k => ?_) (fun H2 s2 eD => ?_)
        · rw [txt_items, txt_items]; simp
        · rw [txt_items, txt_items]; simp; omega
        · obtain ⟨TT, x, y, rfl, nT, rfl, hx, hy⟩ := yl
          dsimp only at hx hy
          rw [txt_items, List.getElem?_map] at hx hy
          cases hx' : L[i]? with
          | none => rw [hx'] at hx; cases hx
          | some a =>
            cases hy' : (L.drop 1)[i]? with
            | none => rw [hy'] at hy; cases hy
            | some c =>
              rw [hx'] at hx; rw [hy'] at hy
              cases hx; cases hy
              rw [List.getElem?_map, (List.getElem?_zip_eq_some (z := (a, c))).mpr ⟨hx', hy'⟩] at hb
              cases hb
              refine ⟨TT, _, rfl, SqT.of upd_same, rfl, _, _, rfl, _, _, rfl, rfl, rfl, _, rfl, _, rfl, _, _, rfl, rfl, ?_⟩
              rw [lt_sign]
              exact k _ (Same.new nT)
        · refine ⟨D, (L.zip (L.drop 1)).map fun p => decide (p.1 < p.2), rfl, SqL.of (by rw [eD, List.map_map]; rfl), ?_⟩
          have z := q H2 (Same.trans s1 s2)
          unfold lettersOk at z
          rw [hw, decide_eq_false h0] at z
          rw [asc_all]
          exact z
/-! ### states -/
def RowAt (K : PySem.W.Frag) (H : Hp) (v : V) (r : Row) : Prop := ∃ a b, v = .ref a ∧ SqT K H a [.int (r.1 : Nat), .ref b] ∧ SqT K H b (r.2.map fun t => V.int (t : Nat))
theorem RowAt.mono {H H' : Hp} {v : V} {r : Row} (s : Tups H H') (h : RowAt K H v r) : RowAt K H' v r := by
  obtain ⟨a, b, e, h1, h2⟩ := h
  exact ⟨a, b, e, s.seq h1, s.seq h2⟩
def RowsAt (K : PySem.W.Frag) (H : Hp) (v : V) (R : List Row) : Prop := ∃ a vs, v = .ref a ∧ SqT K H a vs ∧ Paired (RowAt K H) vs R
theorem RowsAt.mono {H H' : Hp} {v : V} {R : List Row} (s : Tups H H') (h : RowsAt K H v R) : RowsAt K H' v R := by
  obtain ⟨a, vs, e, h1, h2⟩ := h
  exact ⟨a, vs, e, s.seq h1, L2.Paired.mapP h2 fun _ _ q => q.mono s⟩
def rowOk (r : Row) (k n : Nat) : Bool := decide (r.1 ≤ 6) && (decide (r.2.length = k) && r.2.all fun t => decide (t < n))
def sp_is_state (K : PySem.W.Frag) : Sp := fun vs H Q _ => ∃ (v : V) (r : Row) (L : List Nat) (n : Nat), vs = [v, .str (SX.S L), .int (n : Nat)] ∧ RowAt K H v r ∧ L.length ≤ 100000 ∧ r.2.length ≤ 100000 ∧ ∀ H', Same H H' → Q (.bl (rowOk r L.length n)) H'
theorem o_is_state (T : Txt K mg) : Ok P w K mg base 2 "is_state" ["value", "letters", "many"] (sp_is_state K) := by
  refine ok_def T.d_is_state sc_is_state (fun _ _ _ _ _ _ us hl => match us, hl with | [_, _, _], _ => rfl) (fun vs H Q E h => ?_) (fun f cdv A outer s H vs Q E hr h => ?_)
  · obtain ⟨v, r, L, n, rfl, _⟩ := h; rfl
  · obtain ⟨v, r, L, n, rfl, ⟨a, b, rfl, h1, h2⟩, hL, hr2, q⟩ := h
    refine ⟨_, (pss_cons (ps_if (PW.pt (pw_or (pt_not (pt_val (pe_fn (o_is_tuple_of T) (hr.mono (by decide)) (by rfl) (pa_cons (pv 0) (pa_cons pe_int pa_nil))))) (pw_or1 (pt_not (pt_val (pe_fn (o_is_integer T) (hr.mono (by decide)) (by rfl) (pa_cons (pe_ix (ix_tupK (K := K)) (pv 0) pe_int (fun _ _ => rfl)) (pa_cons pe_int (pa_cons (pe_cst T.c_MOST_COLOUR) pa_nil)))))))))
      (pss_one (ps_ret pe_bl))
      pss_nil)
    (pss_one (ps_ret (pe_and (pe_fn (o_is_tuple_of T) (hr.mono (by decide)) (by rfl) (pa_cons (pe_ix (ix_tupK (K := K)) (pv 0) pe_int (fun _ _ => rfl)) (pa_cons (T.B.pLen (K := K) (pa_cons (pv 1) pa_nil)) pa_nil))) (pe_one (T.B.pAll (K := K) (pa_cons (pe_lc (own := [("target", 3)]) (g := gName 3) (tt := tYes) rfl sc_is_state.nd (pi_tupK (K := K) (pe_ix (ix_tupK (K := K)) (pv 0) pe_int (fun _ _ => rfl))) (blkOk_by (own := [("target", 3)]) (N := ["value", "letters", "many", "target"]) (sc := defScope s_is_state) (by decide +kernel)) (fun _ _ _ _ _ => (pg_name (i := 3) sc_is_state.nd rfl (by first | exact .inl rfl | exact .inr rfl))) (fun _ _ _ _ _ => pts_nil) (fun _ _ _ _ _ => (pe_fn (o_is_integer T) (hr.mono (by decide)) (by rfl) (pa_cons (pv 3) (pa_cons pe_int (pa_cons (pe_op op_sub (pv 2) pe_int) pa_nil)))))) pa_nil))))))), ?_⟩
    refine ⟨_, rfl, a, _, 2, rfl, h1, _, rfl, iteF ?_⟩
    refine ⟨_, rfl, a, _, 0, _, rfl, rfl, h1, rfl, _, 0, 6, rfl, _, rfl, ?_⟩
    have e1 : (decide ((0 : Int) ≤ (r.1 : Nat)) && decide (((r.1 : Nat) : Int) ≤ 6)) = decide (r.1 ≤ 6) := by
      rw [decide_eq_true (show (0 : Int) ≤ (r.1 : Nat) by omega), Bool.true_and]
      exact decide_eq_decide.mpr (by omega)
    show if (!(decide ((0 : Int) ≤ (r.1 : Nat)) && decide (((r.1 : Nat) : Int) ≤ 6))) = true then _ else _
    rw [e1]
    unfold rowOk at q
    by_cases hc : r.1 ≤ 6
    · rw [decide_eq_true hc] at q ⊢
      refine iteF ?_
      refine ⟨_, rfl, a, _, 1, _, rfl, rfl, h1, rfl, _, rfl, _, L.length, rfl, ⟨by rw [SX.S_len]; exact len_small hL, (SX.S_len L).symm⟩, b, _, _, rfl, h2, _, rfl, ?_⟩
      have e2 : decide (((r.2.map fun t => V.int (t : Nat)).length : Int) = (L.length : Nat)) = decide (r.2.length = L.length) := decide_eq_decide.mpr (by rw [List.length_map]; omega)
      rw [e2]
      by_cases hl : r.2.length = L.length
      · rw [decide_eq_true hl] at q ⊢
        refine iteT ⟨_, rfl, a, _, 1, _, rfl, rfl, h1, rfl, b, rfl, ⟨_, h2⟩, fun D hD => ?_⟩
        refine lc_val walk_tup (r.2.map fun t => V.bl (decide (t < n))) (by simp) (by simp; omega) hD (fun _ s1 => Same.seqT s1 h2) (fun i v H1 H2 c Qe hb s1 yl k => ?_) (fun H1 s1 eD => ?_)
        · obtain ⟨rfl, hx⟩ := yl
          rw [List.getElem?_map] at hx hb
          cases ht : r.2[i]? with
          | none => rw [ht] at hx; cases hx
          | some t =>
            rw [ht] at hx hb
            cases hx; cases hb
            refine ⟨rfl, _, rfl, _, rfl, _, _, rfl, rfl, _, _, _, rfl, ?_⟩
            have e3 : (decide ((0 : Int) ≤ (t : Nat)) && decide (((t : Nat) : Int) ≤ (n : Nat) - 1)) = decide (t < n) := by
              rw [decide_eq_true (show (0 : Int) ≤ (t : Nat) by omega), Bool.true_and]
              exact decide_eq_decide.mpr (by omega)
            rw [e3]
            exact k H2 (Same.refl _)
        · refine ⟨D, r.2.map fun t => decide (t < n), rfl, SqL.of (by rw [eD, List.map_map]; rfl), ?_⟩
          have z := q H1 s1
          rw [List.all_map]
          exact z
      · rw [decide_eq_false hl] at q ⊢
        exact iteF (q H (Same.refl _))
    · rw [decide_eq_false hc] at q ⊢
      exact iteT (q H (Same.refl _))
end
end GH
namespace GH
open PySem PySem.Spec PyProof.Rows L2
/-- letters and rows of a machine -/
structure Wf (L : List Nat) (R : List Row) : Prop where
  l : lettersOk L = true
  ne : R ≠ []
  le : R.length ≤ 6
  row : ∀ r ∈ R, rowOk r L.length R.length = true
theorem Wf.len {L : List Nat} {R : List Row} (h : Wf L R) : 0 < L.length ∧ L.length ≤ 3 := by
  have h1 := h.l
  unfold lettersOk wordOk at h1
  simp only [Bool.and_eq_true, decide_eq_true_eq, Bool.not_eq_true', decide_eq_false_iff_not] at h1
  obtain ⟨⟨h2, _⟩, h3, _⟩ := h1
  exact ⟨List.length_pos_iff.mpr h3, by omega⟩
theorem Wf.tl {L : List Nat} {R : List Row} (h : Wf L R) {r : Row} (hr : r ∈ R) : r.1 ≤ 6 ∧ r.2.length = L.length ∧ ∀ t ∈ r.2, t < R.length := by
  have h1 := h.row r hr
  unfold rowOk at h1
  simp only [Bool.and_eq_true, decide_eq_true_eq, List.all_eq_true] at h1
  exact ⟨h1.1, h1.2.1, h1.2.2⟩
/-- a machine stands at p -/
def Mach (K : PySem.W.Frag) (mg : Str → Option Value) (H : Hp) (p : Addr) (L : List Nat) (R : List Row) : Prop := ∃ dx v, H p = some (.ins (machC mg) dx (mF (.str (SX.S L)) v)) ∧ RowsAt K H v R
section
variable {P : Program} {w : World} {K : PySem.W.Frag} {mg : Str → Option Value} {base : Heap}
theorem Mach.same {H H' : Hp} {p : Addr} {L : List Nat} {R : List Row} (s : Same H H') (h : Mach K mg H p L R) : Mach K mg H' p L R := by
  obtain ⟨dx, v, e, h1⟩ := h
  exact ⟨dx, v, s _ _ e, h1.mono (Same.tups s)⟩
theorem Mach.but {H H' : Hp} {p x : Addr} {L : List Nat} {R : List Row} {xs : List V} (s : Besides x H H') (hx : H x = some (.lst xs)) (h : Mach K mg H p L R) : Mach K mg H' p L R := by
  obtain ⟨dx, v, e, h1⟩ := h
  exact ⟨dx, v, s _ _ (fun z => by rw [z, hx] at e; cases e) e, h1.mono (s.tups hx)⟩
def sp_init (K : PySem.W.Frag) (mg : Str → Option Value) : Sp := fun vs H Q _ => ∃ (x dx : Addr) (v : V) (L : List Nat) (R : List Row), vs = [.ref x, .str (SX.S L), v] ∧ H x = some (.ins (machC mg) dx []) ∧ RowsAt K H v R ∧ Wf L R ∧
  ∀ H', Besides x H H' → H' x = some (.ins (machC mg) dx (mF (.str (SX.S L)) v)) → Q .non H'
theorem f_init (T : Txt K mg) : ∃ fI fdI, Mk K (machC mg) fI ∧ FnOk P w K mg base CX0 3 fI fdI ["self", "letters", "states"] (sp_init K mg) ∧ Binds K fdI ["self", "letters", "states"] [] := by
  obtain ⟨fI, pL, gL, pS, gS, fdI, fdL, fdS, m, c, mk, n1, n2, F, _⟩ := T.M.c
  refine ⟨fI, fdI, mk, F.ok sc_Machine___init__ (fun vs H Q E h => ?_) (fun cdv A outer s H vs Q E hr h => ?_), F.binds (fun _ _ _ _ _ _ us hl => match us, hl with | [_, _, _], _ => rfl)⟩
  · obtain ⟨x, dx, v, L, R, rfl, _⟩ := h; rfl
  · obtain ⟨x, dx, v, L, R, rfl, hx, hR, wf, q⟩ := h
    obtain ⟨a, vs, rfl, hS, hP⟩ := id hR
    have hlR : vs.length = R.length := Paired.length hP
    have hL : L.length ≤ 100000 := by have := wf.len; omega
    refine ⟨_, (pss_cons (ps_if (pt_not (pt_val (pe_fn (o_are_letters T) (hr.mono (by decide)) (by rfl) (pa_cons (pv 1) pa_nil))))
      (pss_one ps_never)
      pss_nil)
    (pss_cons (ps_if (PW.pt (pw_or (pt_not (pt_val (T.B.pIsinstance (K := K) (pa_cons (pv 2) (pa_cons (pe_type T.B.tuple_ PyProof.Rows.boot_tuple) pa_nil))))) (pw_or1 (pt_cmpR op_eq (T.B.pLen (K := K) (pa_cons (pv 2) pa_nil)) pe_int (nomark _)))))
      (pss_one ps_never)
      pss_nil)
    (pss_cons (ps_for PassesOwn.never rfl (pi_enumK (K := K) T.B.enumerate_ (pa_cons (pv 2) pa_nil)) (pg_tup rfl (pgs_cons (pg_name (i := 3) sc_Machine___init__.nd rfl (by first | exact .inl rfl | exact .inr rfl)) (pgs_cons (pg_name (i := 4) sc_Machine___init__.nd rfl (by first | exact .inl rfl | exact .inr rfl)) pgs_nil)))
      (pss_one (ps_if (PW.pt (pw_or (pt_cmpR op_eq (pv 3) (pe_cst T.c_MOST_STATES) (nomark _)) (pw_or1 (pt_not (pt_val (pe_fn (o_is_state T) (hr.mono (by decide)) (by rfl) (pa_cons (pv 4) (pa_cons (pv 1) (pa_cons (T.B.pLen (K := K) (pa_cons (pv 2) pa_nil)) pa_nil)))))))))
          (pss_one ps_never)
          pss_nil)))
    (pss_cons (ps_fld (pv 0) (pv 1) rfl)
    (pss_one (ps_fld (pv 0) (pv 2) rfl)))))), ?_⟩
    refine ⟨_, rfl, L, rfl, hL, fun H1 s1 => ⟨_, rfl, ?_⟩⟩
    rw [wf.l]
    refine iteF ?_
    refine ⟨_, rfl, _, _, _, _, _, rfl, .ty _, ty_tup (Same.seqT s1 hS), kit_ty (r := true) (by decide +kernel), _, rfl, iteF ?_⟩
    have hne : 0 < vs.length := by rw [hlR]; exact List.length_pos_iff.mpr wf.ne
    refine ⟨_, rfl, _, vs.length, rfl, .inr ⟨vs, Same.seqT s1 hS, rfl⟩, rfl, _, rfl, ?_⟩
    show if decide (V.int ((vs.length : Nat) : Int) = V.int 0) = true then _ else _
    rw [decide_eq_false (fun z => by have := V.int.inj z; omega)]
    refine iteF ?_
    refine ⟨_, rfl, .tup a vs, rfl, Same.seqT s1 hS, ?_⟩
    refine for_it walk_enumG (fun i σ H' => ∃ y3 y4, σ = [some (.ref x), some (.str (SX.S L)), some (.ref a), y3, y4] ∧ Same H H') ⟨none, none, rfl, s1⟩ (fun i σ H' _ p => ?_) (fun i u σ H' H'' hi p yl => ?_) (fun σ H' p => ?_)
    · obtain ⟨_, _, _, s2⟩ := p
      exact Same.seqT s2 hS
    · obtain ⟨y3, y4, rfl, s2⟩ := p
      obtain ⟨TT, x1, x2, rfl, nT, rfl, e1, e2⟩ := yl
      cases e1
      have e2' : vs[i]? = some x2 := e2
      obtain ⟨r, hr', hrow⟩ := paired_get hP e2'
      have hrm : r ∈ R := List.mem_of_getElem? hr'
      have s3 := Same.trans s2 (Same.new (o := .tup [.int (i : Nat), x2]) nT)
      have hi6 : i < 6 := by
        have : i < R.length := (List.getElem?_eq_some_iff.mp hr').1
        have := wf.le
        omega
      refine ⟨TT, _, rfl, SqT.of upd_same, rfl, _, _, rfl, _, _, rfl, rfl, ?_⟩
      refine ⟨_, rfl, rfl, _, rfl, ?_⟩
      show if decide (V.int ((i : Nat) : Int) = V.int 6) = true then _ else _
      rw [decide_eq_false (fun z => by have := V.int.inj z; omega)]
      refine iteF ?_
      refine ⟨_, rfl, _, rfl, _, rfl, _, vs.length, rfl, .inr ⟨vs, Same.seqT s3 hS, rfl⟩, x2, r, L, vs.length, rfl, hrow.mono (Same.tups s3), hL, by rw [(wf.tl hrm).2.1]; exact hL, fun H4 s4 => ⟨_, rfl, ?_⟩⟩
      rw [hlR, wf.row r hrm]
      exact iteF ⟨_, _, rfl, Same.trans s3 s4⟩
    · obtain ⟨y3, y4, rfl, s2⟩ := p
      refine ⟨_, rfl, _, rfl, x, _, dx, _, rfl, s2 _ _ hx, c, n1, (by show 0 < 1000; decide), ?_⟩
      refine ⟨_, rfl, _, rfl, x, _, dx, _, rfl, upd_same, c, n2, (by show 1 < 1000; decide), ?_⟩
      refine q _ (fun b o hb e => ?_) ?_
      · rw [upd_ne hb, upd_ne hb]; exact s2 _ _ e
      · rw [upd_same, mF_put]
/-- Machine(letters, states) -/
theorem mk_Machine {X : Cx} {e : Expr} {es : List Expr} {t : TA} {p pos : Pos} (T : Txt K mg) (hr : Room 4 X.A) (ha : PA X (e :: es) t) (hK : X.K = K := by rfl) (hm : X.mg = mg := by rfl) (hg : Gl X "Machine" := by rfl)
    (he : starEach (e :: es) X.env = (false, eval e X.env) :: starEach es X.env := by rfl) (hpl : (backTo pos (starEach es X.env)).any (·.1) = false := by rfl) :
    PE X (.Call (.Name "Machine" p) (e :: es) [] pos) (tMake (machC mg) (sp_init K mg) [] E0 t) := by
  subst hK hm
  obtain ⟨fI, fdI, mk, F, b⟩ := f_init (P := X.prog) (w := X.w) (base := X.base) T
  exact pe_make mk F hr hg T.M.g b .nil pass0 ha (by decide) he hpl
/-- its reading -/
theorem make_read {H : Hp} {Q : VK} {E : XK} {v : V} {L : List Nat} {R : List Row} {x dx : Addr} (hR : RowsAt K H v R) (wf : Wf L R) (nx : H x = none) (nd : H dx = none) (ne : dx ≠ x) (q : ∀ H', Same H H' → Mach K mg H' x L R → Q .non H') :
    sp_init K mg [.ref x, .str (SX.S L), v] (upd (upd H dx (.own x)) x (.ins (machC mg) dx [])) Q E := by
  have s0 : Same H (upd (upd H dx (.own x)) x (.ins (machC mg) dx [])) := fun b o e => by
    rw [upd_ne (ne_of_none e nx), upd_ne (ne_of_none e nd)]; exact e
  refine ⟨x, dx, v, L, R, rfl, upd_same, hR.mono (Same.tups s0), wf, fun H' s1 e => ?_⟩
  have s2 : Same H H' := fun b o e => s1 b o (ne_of_none e nx) (s0 b o e)
  exact q H' s2 ⟨dx, v, e, hR.mono (Same.tups s2)⟩
/-! ### properties -/
theorem p_letters {X : Cx} {e : Expr} {te : TE} {pos : Pos} (T : Txt K mg) (hr : Room 2 X.A) (he : PE X e te) (hK : X.K = K := by rfl) (hm : X.mg = mg := by rfl) (hab : attributeBase e "letters" X.env (eval e X.env) = eval e X.env := by rfl) :
    PE X (.Attribute e "letters" pos) (tProp (machC mg) (getSp (machC mg) "held_letters") [] E0 te) := by
  subst hK hm
  obtain ⟨fI, pL, gL, pS, gS, fdI, fdL, fdS, m, c, mk, n1, n2, FI, pl, FL, ps, FS⟩ := T.M.c
  exact pe_prop he c pl (fn_get FL sc_Machine_letters ⟨_, _, _, rfl⟩ c n1) hr (FL.binds fun _ _ _ _ _ _ us hl => match us, hl with | [_], _ => rfl) .nil pass0 hab
theorem p_states {X : Cx} {e : Expr} {te : TE} {pos : Pos} (T : Txt K mg) (hr : Room 2 X.A) (he : PE X e te) (hK : X.K = K := by rfl) (hm : X.mg = mg := by rfl) (hab : attributeBase e "states" X.env (eval e X.env) = eval e X.env := by rfl) :
    PE X (.Attribute e "states" pos) (tProp (machC mg) (getSp (machC mg) "held_states") [] E0 te) := by
  subst hK hm
  obtain ⟨fI, pL, gL, pS, gS, fdI, fdL, fdS, m, c, mk, n1, n2, FI, pl, FL, ps, FS⟩ := T.M.c
  exact pe_prop he c ps (fn_get FS sc_Machine_states ⟨_, _, _, rfl⟩ c n2) hr (FS.binds fun _ _ _ _ _ _ us hl => match us, hl with | [_], _ => rfl) .nil pass0 hab
/-! ### check_machine -/
def sp_check_machine (K : PySem.W.Frag) (mg : Str → Option Value) : Sp := fun vs H Q _ => ∃ p L R, vs = [.ref p] ∧ Mach K mg H p L R ∧ Q .non H
end
end GH
namespace GH
open PySem PySem.Spec PyProof.Rows L2
/-! ### the place of a letter -/
theorem asc_lt : ∀ (a : Nat) (r : List Nat), asc (a :: r) = true → ∀ x ∈ r, a < x
  | _, [], _, x, hx => by cases hx
  | a, b :: r, h, x, hx => by
    have h' : (decide (a < b) && asc (b :: r)) = true := h
    simp only [Bool.and_eq_true, decide_eq_true_eq] at h'
    rcases List.mem_cons.mp hx with e | e
    · rw [e]; exact h'.1
    · exact Nat.lt_trans h'.1 (asc_lt b r h'.2 x e)
theorem asc_tail : ∀ (a : Nat) (r : List Nat), asc (a :: r) = true → asc r = true
  | _, [], _ => rfl
  | a, b :: r, h => by
    have h' : (decide (a < b) && asc (b :: r)) = true := h
    simp only [Bool.and_eq_true] at h'
    exact h'.2
theorem asc_nodup : ∀ L : List Nat, asc L = true → L.Nodup
  | [], _ => List.nodup_nil
  | a :: r, h => List.nodup_cons.mpr ⟨fun hm => Nat.lt_irrefl _ (asc_lt a r h a hm), asc_nodup r (asc_tail a r h)⟩
theorem lettersOk_asc {L : List Nat} (h : lettersOk L = true) : asc L = true := by
  unfold lettersOk at h
  simp only [Bool.and_eq_true] at h
  exact h.2.2
theorem lettersOk_nodup {L : List Nat} (h : lettersOk L = true) : L.Nodup := asc_nodup L (lettersOk_asc h)
theorem idxOf_of_get {L : List Nat} (nd : L.Nodup) {i c : Nat} (h : L[i]? = some c) : L.idxOf c = i := by
  obtain ⟨hi, e⟩ := List.getElem?_eq_some_iff.mp h
  have hm : c ∈ L := List.mem_of_getElem? h
  have hl : L.idxOf c < L.length := List.idxOf_lt_length_iff.mpr hm
  have e2 : L[L.idxOf c] = c := List.getElem_idxOf hl
  exact (List.getElem_inj nd).mp (e2.trans e.symm)
theorem index_sign {L : List Nat} (nd : L.Nodup) {c : Nat} (hc : c ∈ L) : ∃ rest, Builtin.Str.occurrences (SX.S L) ⟨#[c]⟩ 0 (SX.S L).length 1 = L.idxOf c :: rest := by
  have h1 := StrLaws.found_one (SX.S L) c
  have e : (SX.S L).cps.toList = L := by simp [SX.S]
  rw [e, decide_eq_true hc] at h1
  cases ho : Builtin.Str.occurrences (SX.S L) ⟨#[c]⟩ 0 (SX.S L).length 1 with
  | nil => rw [ho] at h1; cases h1
  | cons i rest =>
    have h2 := StrLaws.occ_spec (SX.S L) ⟨#[c]⟩ 0 (SX.S L).length 1 i (by rw [ho]; simp)
    have h3 := (StrLaws.subAt_one (SX.S L) c i).mp h2
    rw [e] at h3
    exact ⟨rest, by rw [idxOf_of_get nd h3]⟩
/-! ### rows -/
theorem Wf.at_ {L : List Nat} {R : List Row} (h : Wf L R) {s : Nat} (hs : s < R.length) : R[s]? = some (R.getD s (0, [])) ∧ R.getD s (0, []) ∈ R := by
  have e : R[s]? = some R[s] := List.getElem?_eq_getElem hs
  rw [List.getD_eq_getElem?_getD, e]
  exact ⟨rfl, List.getElem_mem hs⟩
theorem Wf.get {L : List Nat} {R : List Row} (h : Wf L R) {s c : Nat} (hs : s < R.length) (hc : c ∈ L) : ((R.getD s (0, [])).2)[L.idxOf c]? = some (stp L R s c) ∧ stp L R s c < R.length := by
  obtain ⟨_, hm⟩ := h.at_ hs
  have hl := (h.tl hm).2.1
  have hi : L.idxOf c < ((R.getD s (0, [])).2).length := by rw [hl]; exact List.idxOf_lt_length_iff.mpr hc
  have e : ((R.getD s (0, [])).2)[L.idxOf c]? = some (stp L R s c) := by
    unfold stp
    rw [List.getD_eq_getElem?_getD (l := (R.getD s (0, [])).2), List.getElem?_eq_getElem hi]; rfl
  exact ⟨e, (h.tl hm).2.2 _ (List.mem_of_getElem? e)⟩
theorem Wf.closed {L : List Nat} {R : List Row} (h : Wf L R) : Closed L R := fun s c hs hc => (h.get hs hc).2
theorem Wf.pos {L : List Nat} {R : List Row} (h : Wf L R) : 0 < R.length := List.length_pos_iff.mpr h.ne
section
variable {P : Program} {w : World} {K : PySem.W.Frag} {mg : Str → Option Value} {base : Heap}
/-- a state's row, in the heap -/
theorem RowsAt.row {H : Hp} {v : V} {R : List Row} (h : RowsAt K H v R) {s : Nat} (hs : s < R.length) : ∃ a vs a' b, v = .ref a ∧ SqT K H a vs ∧ vs[s]? = some (.ref a') ∧ SqT K H a' [.int (col R s : Nat), .ref b] ∧ SqT K H b ((R.getD s (0, [])).2.map fun t => V.int (t : Nat)) := by
  obtain ⟨a, vs, e, h1, h2⟩ := h
  have e1 : R[s]? = some (R.getD s (0, [])) := by
    rw [List.getD_eq_getElem?_getD, List.getElem?_eq_getElem hs]; rfl
  obtain ⟨x, hx, a', b, rfl, g1, g2⟩ := paired_get' h2 e1
  exact ⟨a, vs, a', b, e, h1, hx, g1, g2⟩
/-! ### words and lassos -/
def sp_is_word (K : PySem.W.Frag) (mg : Str → Option Value) : Sp := fun vs H Q _ => ∃ (p : Addr) (L : List Nat) (R : List Row) (x : List Nat), vs = [.ref p, .str (SX.S x)] ∧ Mach K mg H p L R ∧ x.length ≤ 100000 ∧ ∀ H', Same H H' → Q (.bl (wordOk x L 200)) H'
def lassoOk (u v L : List Nat) : Bool := (wordOk u L 200 && wordOk v L 200) && !decide (v = [])
def sp_is_lasso (K : PySem.W.Frag) (mg : Str → Option Value) : Sp := fun vs H Q _ => ∃ (p a : Addr) (L : List Nat) (R : List Row) (x y : List Nat), vs = [.ref p, .ref a] ∧ Mach K mg H p L R ∧ SqT K H a [.str (SX.S x), .str (SX.S y)] ∧ x.length ≤ 100000 ∧ y.length ≤ 100000 ∧ ∀ H', Same H H' → Q (.bl (lassoOk x y L)) H'
def sp_check_word (K : PySem.W.Frag) (mg : Str → Option Value) : Sp := fun vs H Q _ => ∃ (p : Addr) (L : List Nat) (R : List Row) (x : List Nat), vs = [.ref p, .str (SX.S x)] ∧ Mach K mg H p L R ∧ x.length ≤ 100000 ∧ wordOk x L 200 = true ∧ ∀ H', Same H H' → Q .non H'
def sp_check_lasso (K : PySem.W.Frag) (mg : Str → Option Value) : Sp := fun vs H Q _ => ∃ (p a : Addr) (L : List Nat) (R : List Row) (x y : List Nat), vs = [.ref p, .ref a] ∧ Mach K mg H p L R ∧ SqT K H a [.str (SX.S x), .str (SX.S y)] ∧ x.length ≤ 100000 ∧ y.length ≤ 100000 ∧ lassoOk x y L = true ∧ ∀ H', Same H H' → Q .non H'
/-! ### ways -/
def natV (l : List Nat) : List V := l.map fun n => V.int (n : Nat)
theorem natV_app (a b : List Nat) : natV (a ++ b) = natV a ++ natV b := by simp [natV]
theorem natV_len (a : List Nat) : (natV a).length = a.length := by simp [natV]
theorem natV_get {l : List Nat} {i n : Nat} (h : l[i]? = some n) : (natV l)[i]? = some (V.int (n : Nat)) := by simp [natV, h]
theorem natV_flat : ∀ l : List Nat, (natV l).all flatV = true
  | [] => rfl
  | _ :: r => natV_flat r
theorem natV_in (n : Nat) : ∀ l : List Nat, inV (V.int (n : Nat)) (natV l) = decide (n ∈ l)
  | [] => rfl
  | a :: r => by
    have ih := natV_in n r
    unfold inV at ih ⊢
    show (eqV (V.int (a : Nat)) (V.int (n : Nat)) || (natV r).any _) = _
    rw [ih]
    show (((a : Nat) : Int) == ((n : Nat) : Int) || decide (n ∈ r)) = decide (n ∈ a :: r)
    by_cases h : a = n
    · subst h; simp
    · have h1 : (((a : Nat) : Int) == ((n : Nat) : Int)) = false := by
        rw [beq_eq_false_iff_ne]; omega
      rw [h1, Bool.false_or]
      exact decide_eq_decide.mpr ⟨fun z => List.mem_cons_of_mem _ z, fun z => (List.mem_cons.mp z).resolve_left fun e => h e.symm⟩
def sp_way_of (K : PySem.W.Frag) (mg : Str → Option Value) : Sp := fun vs H Q _ => ∃ (p : Addr) (L : List Nat) (R : List Row) (s : Nat) (x : List Nat), vs = [.ref p, .int (s : Nat), .str (SX.S x)] ∧ Mach K mg H p L R ∧ Wf L R ∧ s < R.length ∧ (∀ c ∈ x, c ∈ L) ∧ x.length ≤ 10000 ∧
  ∀ a H', H a = none → Same H H' → H' a = some (.lst (natV (way L R s x))) → Q (.ref a) H'
theorem way_take (L : List Nat) (R : List Row) : ∀ (x : List Nat) (s i c : Nat), x[i]? = some c → way L R s (x.take (i + 1)) = way L R s (x.take i) ++ [stp L R (endS L R s (x.take i)) c] ∧ endS L R s (x.take (i + 1)) = stp L R (endS L R s (x.take i)) c := by
  intro x s i c h
  have e : x.take (i + 1) = x.take i ++ [c] := by rw [List.take_add_one, h]; rfl
  rw [e, way_append, endS_append]
  exact ⟨rfl, rfl⟩
theorem o_way_of (T : Txt K mg) : Ok P w K mg base 3 "way_of" ["machine", "state", "word"] (sp_way_of K mg) := by
  refine ok_def T.d_way_of sc_way_of (fun _ _ _ _ _ _ us hl => match us, hl with | [_, _, _], _ => rfl) (fun vs H Q E h => ?_) (fun f cdv A outer s H vs Q E hr h => ?_)
  · obtain ⟨p, L, R, s, x, rfl, _⟩ := h; rfl
  · obtain ⟨p, L, R, s, x, rfl, hM, wf, hs, hx, hxl, q⟩ := h
    refine ⟨_, (pss_cons (ps_set (i := 3) sc_way_of.nd rfl (by first | exact .inl rfl | exact .inr rfl) (pe_lst pa_nil))
    (pss_cons (ps_for PassesOwn.never rfl (pi_str (pv 2)) (pg_name (i := 4) sc_way_of.nd rfl (by first | exact .inl rfl | exact .inr rfl))
      (pss_cons (ps_set (i := 1) sc_way_of.nd rfl (by first | exact .inl rfl | exact .inr rfl) (pe_ix (ix_seqK (K := K)) (pe_ix (ix_seqK (K := K)) (pe_ix (ix_tupK (K := K)) (p_states T (hr.mono (by decide)) (pv 0)) (pv 1) (fun _ _ => rfl)) pe_int (fun _ _ => rfl)) (pe_m1 PySem.F.slot_str_index PySem.F.type_str_index mt_sindex (p_letters T (hr.mono (by decide)) (pv 0)) (pv 4)) (fun _ _ => rfl)))
        (pss_one (ps_expr (pe_bmK (K := K) PySem.F.plainAttrs_list PySem.F.slot_list_append PySem.F.type_list_append mt_append (pv 3) (pa_cons (pv 1) pa_nil))))))
    (pss_one (ps_ret (pv 3))))), ?_⟩
    refine ⟨Nat.zero_le _, fun o no => ?_⟩
    refine ⟨_, rfl, SX.S x, rfl, ?_⟩
    have exs : (SX.S x).cps.size = x.length := by simp [SX.S]
    refine for_it walk_str (fun i σ H' => ∃ y4, σ = [some (.ref p), some (.int (endS L R s (x.take i) : Nat)), some (.str (SX.S x)), some (.ref o), y4] ∧ Same H H' ∧ H' o = some (.lst (natV (way L R s (x.take i))))) ⟨none, rfl, Same.new no, upd_same⟩ (fun _ _ _ _ _ => trivial) (fun i u σ H' H'' hi pv yl => ?_) (fun σ H' pv => ?_)
    · obtain ⟨y4, rfl, s1, eo⟩ := pv
      obtain ⟨rfl, c, hc, rfl⟩ := yl
      have hc' : x[i]? = some c := by simpa [SX.S] using hc
      have hcL : c ∈ L := hx c (List.mem_of_getElem? hc')
      have hst : endS L R s (x.take i) < R.length := endS_lt wf.closed _ _ hs fun d hd => hx d (List.mem_of_mem_take hd)
      obtain ⟨dx, v, e, hR⟩ := hM.same s1
      obtain ⟨a, vs, a', b, rfl, h1, h2, h3, h4⟩ := hR.row hst
      obtain ⟨rest, ho⟩ := index_sign (lettersOk_nodup wf.l) hcL
      obtain ⟨g1, g2⟩ := wf.get hst hcL
      obtain ⟨w1, w2⟩ := way_take L R x s i c hc'
      refine ⟨_, rfl, p, dx, _, rfl, e, p, dx, _, _, rfl, e, mF_s _ _, _, rfl, a, vs, _, _, rfl, rfl, h1, atI_nat h2, .inr (.inl ⟨a', _, 1, _, rfl, rfl, h3, rfl, ?_⟩)⟩
      refine ⟨_, rfl, p, dx, _, rfl, e, p, dx, _, _, rfl, e, mF_l _ _, ⟨_, rfl⟩, _, rfl, _, _, _, _, rfl, rfl, ho, .inr (.inl ⟨b, _, _, _, rfl, rfl, h4, atI_nat (v := V.int (stp L R (endS L R s (x.take i)) c : Nat)) (by rw [List.getElem?_map, g1]; rfl), ?_⟩)⟩
      refine ⟨_, rfl, .inl ⟨rfl, _, SqL.of eo⟩, _, rfl, o, _, _, rfl, rfl, eo, ?_, ?_⟩
      · rw [natV_len, way_length, List.length_take, sizeLine_eq]; omega
      · refine ⟨some (.str ⟨#[c]⟩), ?_, Same.mut s1 no, ?_⟩
        · rw [w2]; rfl
        · rw [upd_same, w1, natV_app]; rfl
    · obtain ⟨y4, rfl, s1, eo⟩ := pv
      rw [exs, List.take_of_length_le (Nat.le_refl _)] at eo
      exact ⟨_, rfl, q o H' no s1 eo⟩
def sp_end_of (K : PySem.W.Frag) (mg : Str → Option Value) : Sp := fun vs H Q _ => ∃ (p : Addr) (L : List Nat) (R : List Row) (s : Nat) (x : List Nat), vs = [.ref p, .int (s : Nat), .str (SX.S x)] ∧ Mach K mg H p L R ∧ Wf L R ∧ s < R.length ∧ (∀ c ∈ x, c ∈ L) ∧ x.length ≤ 10000 ∧
  ∀ H', Same H H' → Q (.int (endS L R s x : Nat)) H'
theorem last_ints (l : List Nat) (s z : Nat) (h : (s :: l).getLast? = some z) : atI (V.int (s : Nat) :: natV l) (-1) = some (V.int (z : Nat)) := by
  have hne : (s :: l) ≠ [] := by simp
  have e1 : s :: l = (s :: l).dropLast ++ [z] := by
    have := List.dropLast_concat_getLast hne
    rw [List.getLast?_eq_getLast hne] at h
    rw [Option.some.inj h] at this
    exact this.symm
  have e2 : (V.int (s : Nat) :: natV l) = natV (s :: l).dropLast ++ [V.int (z : Nat)] := by
    have : (V.int (s : Nat) :: natV l) = natV (s :: l) := rfl
    rw [this]
    conv => lhs; rw [e1]
    simp [natV]
  rw [e2]
  exact atI_last _ _
theorem o_end_of (T : Txt K mg) : Ok P w K mg base 4 "end_of" ["machine", "state", "word"] (sp_end_of K mg) := by
  refine ok_def T.d_end_of sc_end_of (fun _ _ _ _ _ _ us hl => match us, hl with | [_, _, _], _ => rfl) (fun vs H Q E h => ?_) (fun f cdv A outer s H vs Q E hr h => ?_)
  · obtain ⟨p, L, R, s, x, rfl, _⟩ := h; rfl
  · obtain ⟨p, L, R, s, x, rfl, hM, wf, hs, hx, hxl, q⟩ := h
    refine ⟨_, (pss_one (ps_ret (pe_ix (ix_listK (K := K)) (pe_lst (pa_cons (pv 1) (pa_starK (K := K) (pe_fn (o_way_of T) (hr.mono (by decide)) (by rfl) (pa_cons (pv 0) (pa_cons (pv 1) (pa_cons (pv 2) pa_nil)))) pa_nil))) (pe_un un_neg pe_int) (fun _ _ => rfl)))), ?_⟩
    refine ⟨_, rfl, _, rfl, _, rfl, _, rfl, p, L, R, s, x, rfl, hM, wf, hs, hx, hxl, fun a H1 na s1 ea => ?_⟩
    refine ⟨a, _, rfl, .inr (SqL.of ea), ?_, fun l nl => ?_⟩
    · simp only [List.append_nil, List.length_cons, natV_len, way_length]
      rw [sizeLine_eq]; omega
    · refine ⟨1, rfl, l, _, -1, _, rfl, rfl, SqL.of upd_same, ?_, q _ (Same.trans s1 (Same.new nl))⟩
      rw [List.append_nil]
      exact last_ints _ _ _ (way_last L R x s)
def sp_greatest_of (K : PySem.W.Frag) (mg : Str → Option Value) : Sp := fun vs H Q _ => ∃ (p a : Addr) (L : List Nat) (R : List Row) (l : List Nat), vs = [.ref p, .ref a] ∧ Mach K mg H p L R ∧ H a = some (.lst (natV l)) ∧ (∀ s ∈ l, s < R.length) ∧ l ≠ [] ∧ l.length ≤ 100000 ∧
  ∀ m H', Same H H' → IsMax (l.map (col R)) m → Q (.int (m : Nat)) H'
theorem o_greatest_of (T : Txt K mg) : Ok P w K mg base 3 "greatest_of" ["machine", "states"] (sp_greatest_of K mg) := by
  refine ok_def T.d_greatest_of sc_greatest_of (fun _ _ _ _ _ _ us hl => match us, hl with | [_, _], _ => rfl) (fun vs H Q E h => ?_) (fun f cdv A outer s H vs Q E hr h => ?_)
  · obtain ⟨p, a, L, R, l, rfl, _⟩ := h; rfl
  · obtain ⟨p, a, L, R, l, rfl, hM, ha, hl, hne, hsz, q⟩ := h
    refine ⟨_, (pss_one (ps_ret (T.B.pMax1 (K := K) (pa_cons (pe_lc (own := [("state", 2)]) (g := gName 2) (tt := tYes) rfl sc_greatest_of.nd (pi_listK (K := K) (pv 1)) (blkOk_by (own := [("state", 2)]) (N := ["machine", "states", "state"]) (sc := defScope s_greatest_of) (by decide +kernel)) (fun _ _ _ _ _ => (pg_name (i := 2) sc_greatest_of.nd rfl (by first | exact .inl rfl | exact .inr rfl))) (fun _ _ _ _ _ => pts_nil) (fun _ _ _ _ _ => (pe_ix (ix_seqK (K := K)) (pe_ix (ix_tupK (K := K)) (p_states T (hr.mono (by decide)) (pv 0)) (pv 2) (fun _ _ => rfl)) pe_int (fun _ _ => rfl)))) pa_nil)))), ?_⟩
    refine ⟨_, rfl, a, rfl, ⟨_, SqL.of ha⟩, fun D hD => ?_⟩
    refine lc_val (walk_list (xs := natV l)) (l.map fun s => V.int (col R s : Nat)) (by rw [natV_len]; simp) (by rw [natV_len]; omega) hD (fun _ s1 => Same.seq s1 (SqL.of ha)) (fun i u H1 H2 c Qe hb s1 yl k => ?_) (fun H1 s1 eD => ?_)
    · obtain ⟨rfl, hu⟩ := yl
      unfold natV at hu
      rw [List.getElem?_map] at hu hb
      cases ht : l[i]? with
      | none => rw [ht] at hu; cases hu
      | some s =>
        rw [ht] at hu hb
        cases hu; cases hb
        have hs := hl s (List.mem_of_getElem? ht)
        obtain ⟨dx, v, e, hR⟩ := hM.same s1
        obtain ⟨a1, vs, a', b, rfl, h1, h2, h3, h4⟩ := hR.row hs
        exact ⟨rfl, _, rfl, p, dx, _, rfl, e, p, dx, _, _, rfl, e, mF_s _ _, _, rfl, a1, vs, _, _, rfl, rfl, h1, atI_nat h2, .inr (.inl ⟨a', _, 0, _, rfl, rfl, h3, rfl, k H2 (Same.refl _)⟩)⟩
    · refine ⟨D, l.map fun s => ((col R s : Nat) : Int), rfl, SqL.of (by rw [eD, List.map_map]; rfl), ?_, fun m hm hle => ?_⟩
      · rw [List.length_map]; exact List.length_pos_iff.mpr hne
      · obtain ⟨s, hs, rfl⟩ := List.mem_map.mp hm
        refine q _ H1 s1 ⟨List.mem_map.mpr ⟨s, hs, rfl⟩, fun y hy => ?_⟩
        obtain ⟨s', hs', rfl⟩ := List.mem_map.mp hy
        have := hle _ (List.mem_map.mpr ⟨s', hs', rfl⟩)
        omega
/-! ### lassos -/
def sp_is_in (K : PySem.W.Frag) (mg : Str → Option Value) : Sp := fun vs H Q _ => ∃ (p a : Addr) (L : List Nat) (R : List Row) (u v : List Nat), vs = [.ref p, .ref a] ∧ Mach K mg H p L R ∧ Wf L R ∧ SqT K H a [.str (SX.S u), .str (SX.S v)] ∧ (∀ c ∈ u, c ∈ L) ∧ (∀ c ∈ v, c ∈ L) ∧ v ≠ [] ∧ u.length ≤ 10000 ∧ v.length ≤ 10000 ∧
  ∀ (b : Bool) H', Same H H' → (b = true ↔ Lies L R 0 (app u (rep v))) → Q (.bl b) H'
theorem o_is_in (T : Txt K mg) : Ok P w K mg base 5 "is_in" ["machine", "lasso"] (sp_is_in K mg) := by
  refine ok_def T.d_is_in sc_is_in (fun _ _ _ _ _ _ us hl => match us, hl with | [_, _], _ => rfl) (fun vs H Q E h => ?_) (fun f cdv A outer s H vs Q E hr h => ?_)
  · obtain ⟨p, a, L, R, u, v, rfl, _⟩ := h; rfl
  · obtain ⟨p, a, L, R, u, v, rfl, hM, wf, hS, hu, hv, hne, hul, hvl, q⟩ := h
    refine ⟨_, (pss_cons (ps_asg (pv 1) (pg_tup rfl (pgs_cons (pg_name (i := 2) sc_is_in.nd rfl (by first | exact .inl rfl | exact .inr rfl)) (pgs_cons (pg_name (i := 3) sc_is_in.nd rfl (by first | exact .inl rfl | exact .inr rfl)) pgs_nil))))
    (pss_cons (ps_set (i := 4) sc_is_in.nd rfl (by first | exact .inl rfl | exact .inr rfl) (pe_fn (o_end_of T) (hr.mono (by decide)) (by rfl) (pa_cons (pv 0) (pa_cons pe_int (pa_cons (pv 2) pa_nil)))))
    (pss_cons (ps_set (i := 5) sc_is_in.nd rfl (by first | exact .inl rfl | exact .inr rfl) (pe_lst pa_nil))
    (pss_cons (ps_while PassesOwn.never (pt_cmpR (op_notInK (K := K)) (pv 4) (pv 5) (by rfl))
      (pss_cons (ps_expr (pe_bmK (K := K) PySem.F.plainAttrs_list PySem.F.slot_list_append PySem.F.type_list_append mt_append (pv 5) (pa_cons (pv 4) pa_nil)))
        (pss_one (ps_set (i := 4) sc_is_in.nd rfl (by first | exact .inl rfl | exact .inr rfl) (pe_fn (o_end_of T) (hr.mono (by decide)) (by rfl) (pa_cons (pv 0) (pa_cons (pv 4) (pa_cons (pv 3) pa_nil))))))))
    (pss_cons (ps_par (i := 6) (j := 7) rfl sc_is_in.nd rfl rfl (by decide) rfl rfl (pa_cons (pv 4) (pa_cons (pe_lst pa_nil) pa_nil)) rfl)
    (pss_cons (ps_for PassesOwn.never rfl (pi_range2 (by rfl) T.B.range_ (pa_cons (pe_bmK (K := K) PySem.F.plainAttrs_list PySem.F.slot_list_index PySem.F.type_list_index (mt_indexK (K := K)) (pv 5) (pa_cons (pv 6) pa_nil)) (pa_cons (T.B.pLen (K := K) (pa_cons (pv 5) pa_nil)) pa_nil))) (pg_name (i := 8) sc_is_in.nd rfl (by first | exact .inl rfl | exact .inr rfl))
      (pss_one (ps_expr (pe_bmK (K := K) PySem.F.plainAttrs_list PySem.F.slot_list_extend PySem.F.type_list_extend mt_extend (pv 7) (pa_cons (pe_fn (o_way_of T) (hr.mono (by decide)) (by rfl) (pa_cons (pv 0) (pa_cons (pe_ix (ix_listK (K := K)) (pv 5) (pv 8) (fun _ _ => rfl)) (pa_cons (pv 3) pa_nil)))) pa_nil)))))
    (pss_one (ps_ret (pe_cmpR op_eq (pe_op op_mod (pe_fn (o_greatest_of T) (hr.mono (by decide)) (by rfl) (pa_cons (pv 0) (pa_cons (pv 7) pa_nil))) pe_int) pe_int (nomark _)))))))))), ?_⟩
    refine ⟨_, rfl, a, _, rfl, hS, rfl, _, _, rfl, _, _, rfl, rfl, ?_⟩
    refine ⟨_, rfl, _, rfl, p, L, R, 0, u, rfl, hM, wf, wf.pos, hu, hul, fun H1 s1 => ?_⟩
    refine ⟨Nat.zero_le _, fun o no => ?_⟩
    have no0 : H o = none := Same.free s1 no
    have hs0 : endS L R 0 u < R.length := endS_lt wf.closed u 0 wf.pos hu
    refine ⟨fun m σ H' => ∃ k, m = R.length - k ∧ σ = [some (.ref p), some (.ref a), some (.str (SX.S u)), some (.str (SX.S v)), some (.int (iter (fun x => endS L R x v) k (endS L R 0 u) : Nat)), some (.ref o), none, none, none] ∧ Same H H' ∧ H' o = some (.lst (natV (orbit (fun x => endS L R x v) (endS L R 0 u) k))) ∧ (orbit (fun x => endS L R x v) (endS L R 0 u) k).Nodup,
      ⟨R.length, 0, rfl, rfl, Same.mut s1 no0, upd_same, List.nodup_nil⟩, ?_⟩
    rintro m σ H2 ⟨k, rfl, rfl, s2, eo, nd⟩
    have lt : ∀ x ∈ orbit (fun x => endS L R x v) (endS L R 0 u) k, x < R.length := fun x hx => by
      obtain ⟨i, _, rfl⟩ := List.mem_map.mp hx
      exact iter_lt wf.closed hv i _ hs0
    have hk : k ≤ R.length := by
      have := nodup_bound R.length _ nd lt
      rw [orbit_length] at this; exact this
    have hst := iter_lt wf.closed hv k _ hs0
    refine ⟨_, rfl, _, rfl, o, _, rfl, .inl (SqL.of eo), rfl, natV_flat _, _, rfl, ?_⟩
    rw [natV_in]
    by_cases hm : iter (fun x => endS L R x v) k (endS L R 0 u) ∈ orbit (fun x => endS L R x v) (endS L R 0 u) k
    · rw [decide_eq_true hm]
      refine iteF ?_
      -- first, way = state, []
      refine ⟨_, rfl, Nat.zero_le _, fun o2 no2 => ⟨_, _, rfl, ?_⟩⟩
      have no2' : H o2 = none := Same.free s2 no2
      have neo : o ≠ o2 := ne_of_none eo no2
      have s3 : Same H2 (upd H2 o2 (.lst [])) := Same.new no2
      obtain ⟨j, hj⟩ := List.getElem?_of_mem hm
      have hjk : j < k := by
        have := (List.getElem?_eq_some_iff.mp hj).1
        rw [orbit_length] at this; exact this
      have ejk : iter (fun x => endS L R x v) k (endS L R 0 u) = iter (fun x => endS L R x v) j (endS L R 0 u) := by
        rw [orbit_get hjk] at hj
        exact (Option.some.inj hj).symm
      have eo3 : (upd H2 o2 (.lst [])) o = some (.lst (natV (orbit (fun x => endS L R x v) (endS L R 0 u) k))) := s3 _ _ eo
      refine ⟨_, rfl, .inl ⟨rfl, _, SqL.of eo3⟩, _, rfl, o, _, _, j, _, rfl, rfl, SqL.of eo3, rfl, natV_flat _, natV_get hj, ?_, ?_, ?_⟩
      · show (((_ : Nat) : Int) == ((_ : Nat) : Int)) = true
        exact beq_self_eq_true _
      · intro m' z' hm' hz'
        have hm'k : m' < k := by omega
        have hz := natV_get (orbit_get (f := fun x => endS L R x v) (s := endS L R 0 u) hm'k)
        rw [hz] at hz'
        cases hz'
        show (((_ : Nat) : Int) == ((_ : Nat) : Int)) = false
        rw [beq_eq_false_iff_ne]
        intro e
        have e' : iter (fun x => endS L R x v) m' (endS L R 0 u) = iter (fun x => endS L R x v) j (endS L R 0 u) := by rw [← ejk]; omega
        have h1 := orbit_get (f := fun x => endS L R x v) (s := endS L R 0 u) hm'k
        have h2 := orbit_get (f := fun x => endS L R x v) (s := endS L R 0 u) hjk
        rw [e'] at h1
        have := nd_ix nd h1 h2
        omega
      · have h6 := wf.le
        refine ⟨_, rfl, _, k, rfl, .inl ⟨_, SqL.of eo3, by rw [natV_len, orbit_length]⟩, _, _, rfl, ⟨by omega, by omega, by omega, by omega⟩, ?_⟩
        have en : (((k : Nat) : Int) - ((j : Nat) : Int)).toNat = k - j := by omega
        rw [en]
        refine for_range (fun i σ H' => ∃ y8, σ = [some (.ref p), some (.ref a), some (.str (SX.S u)), some (.str (SX.S v)), some (.int (iter (fun x => endS L R x v) k (endS L R 0 u) : Nat)), some (.ref o), some (.int (iter (fun x => endS L R x v) k (endS L R 0 u) : Nat)), some (.ref o2), y8] ∧ Same H H' ∧
          H' o = some (.lst (natV (orbit (fun x => endS L R x v) (endS L R 0 u) k))) ∧ H' o2 = some (.lst (natV (rounds L R v (endS L R 0 u) j i)))) ⟨none, rfl, Same.mut s2 no2', eo3, upd_same⟩ ?_ ?_
        · rintro i σ H4 hi ⟨y8, rfl, s4, e4, e5⟩
          have hjik : j + i < k := by omega
          have hg := natV_get (orbit_get (f := fun x => endS L R x v) (s := endS L R 0 u) hjik)
          refine ⟨_, rfl, .inl ⟨rfl, _, SqL.of e5⟩, _, rfl, _, rfl, _, rfl, o, _, _, _, rfl, rfl, SqL.of e4, at_of (j := j + i) (by omega) hg, ?_⟩
          refine ⟨_, rfl, p, L, R, _, v, rfl, hM.same s4, wf, iter_lt wf.closed hv _ _ hs0, hv, hvl, fun b H5 nb s5 eb => ?_⟩
          refine ⟨o2, b, _, _, rfl, rfl, s5 _ _ e5, eb, ?_, ?_⟩
          · rw [natV_len, natV_len, rounds_length, way_length, sizeLine_eq]
            have h6 := wf.le
            have : i * v.length ≤ 6 * 10000 := Nat.mul_le_mul (by omega) hvl
            omega
          · refine ⟨_, rfl, Same.mut (Same.trans s4 s5) no2', ?_, ?_⟩
            · rw [upd_ne neo]; exact s5 _ _ e4
            · rw [upd_same, rounds_succ, natV_app]
        · rintro σ H4 ⟨y8, rfl, s4, e4, e5⟩
          refine ⟨_, rfl, _, rfl, p, o2, L, R, _, rfl, hM.same s4, e5, rounds_lt wf.closed hv hs0 _ _, rounds_ne hne (by omega), ?_, fun mx H5 s5 hmx => ?_⟩
          · rw [rounds_length]
            have h6 := wf.le
            have : (k - j) * v.length ≤ 6 * 10000 := Nat.mul_le_mul (by omega) hvl
            omega
          · refine ⟨_, _, rfl, rfl, (by show (0 : Int) < 2; decide), rfl, ?_⟩
            refine q _ H5 (Same.trans s4 s5) ?_
            rw [lies_rounds hne hjk ejk hmx, decide_eq_true_eq]
            constructor
            · intro z
              have z' : (mx : Int) % 2 = 0 := V.int.inj z
              omega
            · intro z
              show V.int ((mx : Int) % 2) = V.int 0
              congr 1
              omega
    · rw [decide_eq_false hm]
      refine iteT ⟨_, fun σ' H' z => z, ?_⟩
      refine ⟨_, rfl, .inl ⟨rfl, _, SqL.of eo⟩, _, rfl, o, _, _, rfl, rfl, eo, ?_, ?_⟩
      · rw [natV_len, orbit_length, sizeLine_eq]
        have := wf.le
        omega
      · have s3 : Same H (upd H2 o (.lst (natV (orbit (fun x => endS L R x v) (endS L R 0 u) k) ++ [V.int (iter (fun x => endS L R x v) k (endS L R 0 u) : Nat)]))) := Same.mut s2 no0
        refine ⟨_, rfl, _, rfl, _, rfl, p, L, R, _, v, rfl, hM.same s3, wf, hst, hv, hvl, fun H3 s4 => ?_⟩
        have nd' : (orbit (fun x => endS L R x v) (endS L R 0 u) (k + 1)).Nodup := by
          rw [orbit_succ, List.nodup_append]
          refine ⟨nd, by simp, fun x hx y hy e => ?_⟩
          rw [List.mem_singleton] at hy
          rw [e, hy] at hx
          exact hm hx
        have hk' : k + 1 ≤ R.length := by
          have := nodup_bound R.length _ nd' (fun x hx => by
            obtain ⟨i, _, rfl⟩ := List.mem_map.mp hx
            exact iter_lt wf.closed hv i _ hs0)
          rw [orbit_length] at this; exact this
        refine ⟨R.length - (k + 1), by omega, k + 1, rfl, ?_, Same.trans s3 s4, ?_, nd'⟩
        · rw [iter_succ]; rfl
        · have e6 := s4 o _ upd_same
          rw [e6, orbit_succ, natV_app]; rfl
def sp_state_after (K : PySem.W.Frag) (mg : Str → Option Value) : Sp := fun vs H Q _ => ∃ (p : Addr) (L : List Nat) (R : List Row) (x : List Nat), vs = [.ref p, .str (SX.S x)] ∧ Mach K mg H p L R ∧ Wf L R ∧ (∀ c ∈ x, c ∈ L) ∧ x.length ≤ 200 ∧ ∀ H', Same H H' → Q (.int (endS L R 0 x : Nat)) H'
theorem wordOk_of {x L : List Nat} (h : ∀ c ∈ x, c ∈ L) (hl : x.length ≤ 200) : wordOk x L 200 = true := by
  unfold wordOk
  simp only [Bool.and_eq_true, decide_eq_true_eq, List.all_eq_true]
  exact ⟨by omega, h⟩
def sp_lies_in (K : PySem.W.Frag) (mg : Str → Option Value) : Sp := fun vs H Q _ => ∃ (p a : Addr) (L : List Nat) (R : List Row) (u v : List Nat), vs = [.ref p, .ref a] ∧ Mach K mg H p L R ∧ Wf L R ∧ SqT K H a [.str (SX.S u), .str (SX.S v)] ∧ (∀ c ∈ u, c ∈ L) ∧ (∀ c ∈ v, c ∈ L) ∧ v ≠ [] ∧ u.length ≤ 200 ∧ v.length ≤ 200 ∧
  ∀ (b : Bool) H', Same H H' → (b = true ↔ Lies L R 0 (app u (rep v))) → Q (.bl b) H'
end
end GH
namespace GH
open PySem PySem.Spec PyProof.Rows L2
/-! ### the source of draws: three numbers in a list, which a draw changes -/
def BagAt (H : Hp) (b : Addr) : Prop := ∃ g s n : Int, H b = some (.lst [.int g, .int s, .int n]) ∧ 0 ≤ g
theorem BagAt.tups {H H' : Hp} {b : Addr} (h : BagAt H b) (s : Besides b H H') : Tups H H' := by
  obtain ⟨g, x, n, e, _⟩ := h
  exact s.tups e
theorem BagAt.same {H H' : Hp} {b : Addr} (h : BagAt H b) (s : Same H H') : BagAt H' b := by
  obtain ⟨g, x, n, e, h0⟩ := h
  exact ⟨g, x, n, s _ _ e, h0⟩
theorem BagAt.ne {H : Hp} {b o : Addr} (h : BagAt H b) (ho : H o = none) : o ≠ b := by
  obtain ⟨g, x, n, e, _⟩ := h
  exact (ne_of_none e ho).symm
theorem BagAt.upd {H : Hp} {b o : Addr} {u : HO} (h : BagAt H b) (hne : o ≠ b) : BagAt (L2.upd H o u) b := by
  obtain ⟨g, x, n, e, h0⟩ := h
  exact ⟨g, x, n, by rw [upd_ne hne.symm]; exact e, h0⟩
section
variable {P : Program} {w : World} {K : PySem.W.Frag} {mg : Str → Option Value} {base : Heap}
def sp__law_bag (K : PySem.W.Frag) : Sp := fun vs H Q _ => ∃ (a : Addr) (ns : List Int) (t : Nat), vs = [.ref a, .int (t : Nat)] ∧ SqL K H a (ns.map V.int) ∧ ns.length ≤ 63 ∧ t ≤ 100 ∧ ∀ b H', H b = none → Same H H' → BagAt H' b → Q (.ref b) H'
def sp__law_take : Sp := fun vs H Q _ => ∃ (b : Addr) (m : Nat), vs = [.ref b, .int (m : Nat)] ∧ BagAt H b ∧ 0 < m ∧ m ≤ 1000000 ∧ ∀ (d : Nat) H', d < m → BagAt H' b → Besides b H H' → Q (.int (d : Nat)) H'
end
end GH
namespace GH
open PySem PySem.Spec PyProof.Rows L2
def menuL : List (List Nat) := [[97, 98], [97], [97, 98, 99], [120, 122], [113], [109, 110, 111], [97, 98], [104, 121]]
theorem menu_ok : ∀ L ∈ menuL, lettersOk L = true := by decide +kernel
theorem menu_eq : ([V.str (Str.ofString "ab"), V.str (Str.ofString "a"), V.str (Str.ofString "abc"), V.str (Str.ofString "xz"), V.str (Str.ofString "q"), V.str (Str.ofString "mno"), V.str (Str.ofString "ab"), V.str (Str.ofString "hy")] : List V) = menuL.map fun L => V.str (SX.S L) := by decide +kernel
theorem joinE : ∀ ws : List Nat, TL.joinL [] (ws.map fun c => [c]) = ws
  | [] => rfl
  | [_] => rfl
  | a :: b :: r => by
    have ih := joinE (b :: r)
    show [a] ++ ([] ++ TL.joinL [] ((b :: r).map fun c => [c])) = a :: b :: r
    rw [ih]; rfl
theorem join_signs (ws : List Nat) : Txt.join (Str.ofString "") (ws.map fun c => (⟨#[c]⟩ : Str)) = SX.S ws := by
  have h := SX.join_S [] (ws.map fun c => [c])
  rw [List.map_map, joinE] at h
  exact h
section
variable {P : Program} {w : World} {K : PySem.W.Frag} {mg : Str → Option Value} {base : Heap}
def sp__law_signs : Sp := fun vs H Q _ => ∃ (b : Addr), vs = [.ref b] ∧ BagAt H b ∧ ∀ L H', L ∈ menuL → BagAt H' b → Besides b H H' → Q (.str (SX.S L)) H'
def sp__law_word : Sp := fun vs H Q _ => ∃ (b : Addr) (L : List Nat) (m : Nat), vs = [.ref b, .str (SX.S L), .int (m : Nat)] ∧ BagAt H b ∧ 0 < L.length ∧ L.length ≤ 1000 ∧ m ≤ 1000 ∧ ∀ ws H', (∀ c ∈ ws, c ∈ L) → ws.length ≤ m → BagAt H' b → Besides b H H' → Q (.str (SX.S ws)) H'
def sp__law_rows (K : PySem.W.Frag) : Sp := fun vs H Q _ => ∃ (b : Addr) (L : List Nat) (m : Nat), vs = [.ref b, .str (SX.S L), .int (m : Nat)] ∧ BagAt H b ∧ lettersOk L = true ∧ 0 < m ∧ m ≤ 6 ∧ ∀ v R H', RowsAt K H' v R → Wf L R → R.length ≤ m → BagAt H' b → Besides b H H' → Q v H'
end
end GH
namespace GH
open PySem PySem.Spec PyProof.Rows L2
section
variable {P : Program} {w : World} {K : PySem.W.Frag} {mg : Str → Option Value} {base : Heap}
def sp__law_purse (K : PySem.W.Frag) : Sp := fun vs H Q _ => ∃ (a : Addr) (ns : List Int) (t : Nat), vs = [.ref a, .int (t : Nat)] ∧ SqL K H a (ns.map V.int) ∧ ns.length ≤ 63 ∧ t ≤ 100 ∧ ∀ b H', H b = none → Same H H' → BagAt H' b → Q (.ref b) H'
theorem o__law_purse (T : Txt K mg) : Ok P w K mg base 1 "_law_purse" ["_law_script", "_law_k"] (sp__law_purse K) := by
  refine ok_def T.d__law_purse sc__law_purse (fun _ _ _ _ _ _ us hl => match us, hl with | [_, _], _ => rfl) (fun vs H Q E h => ?_) (fun f cdv A outer s H vs Q E hr h => ?_)
  · obtain ⟨a, ns, t, rfl, _⟩ := h; rfl
  · obtain ⟨a, ns, t, rfl, hS, hl, ht, q⟩ := h
    refine ⟨_, (pss_cons (ps_if (pt_cmpR op_lt (pv 1) (T.B.pLen (K := K) (pa_cons (pv 0) pa_nil)) (nomark _))
      (pss_cons (ps_set (i := 2) sc__law_purse.nd rfl (by first | exact .inl rfl | exact .inr rfl) (pe_ix (ix_listK (K := K)) (pv 0) (pv 1) (fun _ _ => rfl)))
        (pss_cons (ps_set (i := 3) sc__law_purse.nd rfl (by first | exact .inl rfl | exact .inr rfl) (pe_ifExp (PW.pt (pw_or (pt_cmpR op_lt (pv 2) pe_int (nomark _)) (pw_or1 (pt_cmpR op_ge (pv 2) (pe_op op_pow pe_int pe_int) (nomark _))))) (T.B.pAbs (pa_cons (pv 2) pa_nil)) pe_int))
        (pss_one (ps_ret (pe_lst (pa_cons (pv 3) (pa_cons (pe_op op_mod (T.B.pInt (pa_cons (pe_op op_add (pe_op op_add (pe_op op_mul (pv 2) pe_int) (pe_op op_mul pe_int (pv 1))) pe_int) pa_nil)) pe_int) (pa_cons pe_int pa_nil))))))))
      pss_nil)
    (pss_cons (ps_set (i := 4) sc__law_purse.nd rfl (by first | exact .inl rfl | exact .inr rfl) (pe_op op_add (pe_op op_mul pe_int (pv 1)) pe_int))
    (pss_cons (ps_for PassesOwn.never rfl (pi_listK (K := K) (pe_slice (sl_listK (K := K)) (pv 0) po_none (po_some pe_int))) (pg_name (i := 2) sc__law_purse.nd rfl (by first | exact .inl rfl | exact .inr rfl))
      (pss_one (ps_set (i := 4) sc__law_purse.nd rfl (by first | exact .inl rfl | exact .inr rfl) (pe_op op_mod (T.B.pInt (pa_cons (pe_op op_add (pe_op op_mul (pv 4) pe_int) (pv 2)) pa_nil)) pe_int))))
    (pss_one (ps_ret (pe_lst (pa_cons pe_int (pa_cons (pv 4) (pa_cons pe_int pa_nil))))))))), ?_⟩
    refine ⟨_, rfl, _, rfl, _, ns.length, rfl, .inl ⟨_, hS, by simp⟩, _, _, rfl, rfl, _, rfl, ?_⟩
    by_cases hlt : ((t : Nat) : Int) < (ns.length : Nat)
    · rw [decide_eq_true hlt]
      have ht' : t < ns.length := by omega
      refine iteT ⟨_, rfl, _, rfl, a, _, _, .int ns[t], rfl, rfl, hS, atI_nat (by rw [List.getElem?_map, List.getElem?_eq_getElem ht']; rfl), ?_⟩
      generalize ns[t] = fg
      have fin : ∀ dg : Int, 0 ≤ dg → (∀ l, H l = none → Q (.ref l) (upd H l (.lst [.int dg, .int ((fg * 39373 + 104723 * ((t : Nat) : Int) + 17) % 2147483629), .int 0]))) := fun dg hd l nl => q l _ nl (Same.new nl) ⟨_, _, _, upd_same, hd⟩
      refine ⟨_, rfl, _, _, rfl, rfl, _, rfl, ite2 (fun hneg => ?_) (fun _ => ?_)⟩
      · refine iteT ⟨_, rfl, _, rfl, ?_⟩
        refine ⟨_, rfl, _, rfl, _, _, rfl, rfl, .inr ⟨by decide, by decide⟩, _, rfl, _, _, rfl, rfl, .inl ⟨by decide, by decide⟩, _, _, rfl, rfl, _, _, rfl, rfl, .inl ⟨_, rfl, _, _, rfl, rfl, (by show (0 : Int) < 2147483629; decide), by show 3 ≤ sizeLine; decide, fun l nl => fin _ ?_ l nl⟩⟩
        split <;> omega
      · refine ⟨_, rfl, _, _, rfl, rfl, ⟨by decide, by decide, by decide⟩, _, _, rfl, rfl, _, rfl, ite2 (fun _ => ?_) (fun _ => ?_)⟩
        · refine ⟨_, rfl, _, rfl, ?_⟩
          refine ⟨_, rfl, _, rfl, _, _, rfl, rfl, .inr ⟨by decide, by decide⟩, _, rfl, _, _, rfl, rfl, .inl ⟨by decide, by decide⟩, _, _, rfl, rfl, _, _, rfl, rfl, .inl ⟨_, rfl, _, _, rfl, rfl, (by show (0 : Int) < 2147483629; decide), by show 3 ≤ sizeLine; decide, fun l nl => fin _ ?_ l nl⟩⟩
          split <;> omega
        · exact ⟨_, rfl, _, rfl, _, _, rfl, rfl, .inr ⟨by decide, by decide⟩, _, rfl, _, _, rfl, rfl, .inl ⟨by decide, by decide⟩, _, _, rfl, rfl, _, _, rfl, rfl, .inl ⟨_, rfl, _, _, rfl, rfl, (by show (0 : Int) < 2147483629; decide), by show 3 ≤ sizeLine; decide, fun l nl => fin 0 (Int.le_refl 0) l nl⟩⟩
    · rw [decide_eq_false hlt]
      refine iteF ⟨_, rfl, _, _, rfl, rfl, .inl ⟨by decide, by decide⟩, _, _, rfl, rfl, ?_⟩
      refine ⟨_, rfl, 4, rfl, a, _, rfl, hS, fun l2 n2 => ?_⟩
      have hcl : (cutV (ns.map V.int) none (some 4)).length ≤ 63 := Nat.le_trans (cutV_length _ _ _) (by simpa using hl)
      have hci : ∃ ms : List Int, cutV (ns.map V.int) none (some 4) = ms.map V.int := by
        unfold cutV
        rw [← List.map_drop, ← List.map_take]
        exact ⟨_, rfl⟩
      obtain ⟨ms, hms⟩ := hci
      rw [hms]
      refine ⟨l2, rfl, ⟨_, SqL.of upd_same⟩, ?_⟩
      refine for_list (K := K) (a := l2) (xs := ms.map V.int) (fun i σ H' => ∃ (sd : Int) (y2 : Option V), σ = [some (.ref a), some (.int (t : Nat)), y2, none, some (.int sd)] ∧ Same H H' ∧ H' l2 = some (.lst (ms.map V.int))) ⟨_, none, rfl, Same.new n2, upd_same⟩ (fun i σ H' _ p => ?_) (fun i x σ H' hx p => ?_) (fun σ H' p => ?_)
      · obtain ⟨_, _, _, _, e⟩ := p
        exact SqL.of e
      · obtain ⟨sd, y2, rfl, s4, e4⟩ := p
        rw [List.getElem?_map] at hx
        cases hz : ms[i]? with
        | none => rw [hz] at hx; cases hx
        | some z =>
          rw [hz] at hx
          cases hx
          exact ⟨_, rfl, _, _, rfl, rfl, .inr ⟨by decide, by decide⟩, _, rfl, _, _, rfl, rfl, .inl ⟨_, rfl, _, _, rfl, rfl, (by show (0 : Int) < 2147483587; decide), _, _, rfl, s4, e4⟩⟩
      · obtain ⟨sd, y2, rfl, s4, e4⟩ := p
        exact ⟨_, rfl, by show 3 ≤ sizeLine; decide, fun l nl => q l _ (Same.free s4 nl) (Same.trans s4 (Same.new nl)) ⟨0, sd, 0, upd_same, Int.le_refl 0⟩⟩
def sp__law_draw : Sp := fun vs H Q _ => ∃ (b : Addr) (m : Nat), vs = [.ref b, .int (m : Nat)] ∧ BagAt H b ∧ 0 < m ∧ m ≤ 1000000 ∧ ∀ (d : Nat) H', d < m → BagAt H' b → Besides b H H' → Q (.int (d : Nat)) H'
theorem o__law_draw (T : Txt K mg) : Ok P w K mg base 1 "_law_draw" ["_law_purse_here", "_law_size"] sp__law_draw := by
  refine ok_def T.d__law_draw sc__law_draw (fun _ _ _ _ _ _ us hl => match us, hl with | [_, _], _ => rfl) (fun vs H Q E h => ?_) (fun f cdv A outer s H vs Q E hr h => ?_)
  · obtain ⟨b, m, rfl, _⟩ := h; rfl
  · obtain ⟨b, m, rfl, ⟨g, sd, n, hb, hg⟩, hm, hm2, q⟩ := h
    refine ⟨_, (pss_cons (ps_par (i := 2) (j := 3) rfl sc__law_draw.nd rfl rfl (by decide) rfl rfl (pa_cons (pe_ix (ix_listK (K := K)) (pv 0) pe_int (fun _ _ => rfl)) (pa_cons (pe_op op_add (pe_op op_mod (T.B.pInt (pa_cons (pe_ix (ix_listK (K := K)) (pv 0) pe_int (fun _ _ => rfl)) pa_nil)) pe_int) pe_int) pa_nil)) rfl)
    (pss_cons (ps_asg (pe_op op_add (pe_ix (ix_listK (K := K)) (pv 0) pe_int (fun _ _ => rfl)) pe_int) (pg_sub (pv 0) pe_int set_list))
    (pss_cons (ps_asg (pe_op op_mod (T.B.pInt (pa_cons (pe_op op_add (pe_op op_add (pe_op op_mul (pv 2) (pv 3)) (pe_op op_mul pe_int (pe_ix (ix_listK (K := K)) (pv 0) pe_int (fun _ _ => rfl)))) pe_int) pa_nil)) pe_int) (pg_sub (pv 0) pe_int set_list))
    (pss_cons (ps_if (pt_cmpR op_gt (pe_ix (ix_listK (K := K)) (pv 0) pe_int (fun _ _ => rfl)) pe_int (nomark _))
      (pss_cons (ps_asg (T.B.pDivmod (pa_cons (pe_ix (ix_listK (K := K)) (pv 0) pe_int (fun _ _ => rfl)) (pa_cons (pv 1) pa_nil))) (pg_tup rfl (pgs_cons (pg_sub (pv 0) pe_int set_list) (pgs_cons (pg_name (i := 4) sc__law_draw.nd rfl (by first | exact .inl rfl | exact .inr rfl)) pgs_nil))))
        (pss_one (ps_ret (pv 4))))
      pss_nil)
    (pss_one (ps_ret (pe_op op_mod (T.B.pInt (pa_cons (pe_op op_fdiv (pe_ix (ix_listK (K := K)) (pv 0) pe_int (fun _ _ => rfl)) pe_int) pa_nil)) (pv 1)))))))), ?_⟩
    have hby1 : 0 ≤ sd % 40009 := Int.emod_nonneg _ (by decide)
    have hby2 : sd % 40009 < 40009 := Int.emod_lt_of_pos _ (by decide)
    refine ⟨_, rfl, b, _, 1, _, rfl, rfl, SqL.of hb, rfl, _, rfl, b, _, 1, _, rfl, rfl, SqL.of hb, rfl, .inl ⟨_, rfl, _, _, rfl, rfl, (by show (0 : Int) < 40009; decide), _, _, rfl, rfl, _, _, rfl, ?_⟩⟩
    refine ⟨_, rfl, b, _, 2, _, rfl, rfl, SqL.of hb, rfl, _, _, rfl, rfl, _, rfl, b, _, 2, 2, rfl, rfl, hb, rfl, ?_⟩
    refine ⟨_, rfl, _, rfl, _, _, rfl, rfl, .inr ⟨?_, ?_⟩, _, rfl, b, _, 2, _, rfl, rfl, SqL.of upd_same, rfl, _, _, rfl, rfl, .inl ⟨by decide, by decide⟩, _, _, rfl, rfl, _, _, rfl, rfl, .inl ⟨_, rfl, _, _, rfl, rfl, (by show (0 : Int) < 2147483629; decide), _, rfl, b, _, 1, 1, rfl, rfl, upd_same, rfl, ?_⟩⟩
    · show -(2 ^ 64) < sd % 40009 + 20021; omega
    · show sd % 40009 + 20021 < 2 ^ 64; omega
    dsimp only
    generalize (sd * (sd % 40009 + 20021) + 60013 * (n + 1) + 11) % 2147483629 = s2
    have hbs : Besides b H (upd (upd H b (.lst ([V.int g, V.int sd, V.int n].set 2 (V.int (n + 1))))) b (.lst [V.int g, V.int s2, V.int (n + 1)])) := Besides.upd (Besides.upd (Besides.refl b H))
    have hB : (upd (upd H b (.lst ([V.int g, V.int sd, V.int n].set 2 (V.int (n + 1))))) b (.lst [V.int g, V.int s2, V.int (n + 1)])) b = some (.lst [V.int g, V.int s2, V.int (n + 1)]) := upd_same
    revert hbs hB
    generalize hH1 : upd (upd H b (.lst ([V.int g, V.int sd, V.int n].set 2 (V.int (n + 1))))) b (.lst [V.int g, V.int s2, V.int (n + 1)]) = H1
    intro hbs hB
    have hH1' : upd (upd H b (.lst ([V.int g, V.int sd, V.int n].set 2 (V.int (n + 1))))) b (.lst (([V.int g, V.int sd, V.int n].set 2 (V.int (n + 1))).set 1 (V.int s2))) = H1 := hH1
    rw [hH1']
    refine ⟨_, rfl, b, _, 0, _, rfl, rfl, SqL.of hB, rfl, _, _, rfl, rfl, _, rfl, ite2 (fun hpos => ?_) (fun _ => ?_)⟩
    · refine ⟨_, rfl, b, _, 0, _, rfl, rfl, SqL.of hB, rfl, _, rfl, g, (m : Nat), rfl, ⟨by omega, by omega⟩, fun t nt => ?_⟩
      have nb : b ≠ t := ne_of_none hB nt
      refine ⟨t, _, rfl, SqT.of upd_same, rfl, _, _, rfl, _, rfl, b, _, 0, 0, rfl, rfl, Eq.trans (upd_ne nb) hB, rfl, _, _, rfl, rfl, _, rfl, ?_⟩
      have h1 : 0 ≤ g % (m : Int) := Int.emod_nonneg _ (by omega)
      have h2 : g % (m : Int) < m := Int.emod_lt_of_pos _ (by omega)
      have e : g % (m : Int) = ((g % (m : Int)).toNat : Nat) := by omega
      have z := q (g % (m : Int)).toNat (upd (upd H1 t (.tup [.int (g / (m : Nat)), .int (g % (m : Nat))])) b (.lst [.int (g / (m : Nat)), .int s2, .int (n + 1)])) (by omega) ⟨_, _, _, upd_same, Int.ediv_nonneg hg (by omega)⟩ (Besides.upd (Besides.new hbs nt))
      rw [← e] at z
      exact z
    · refine ⟨_, rfl, b, _, 1, _, rfl, rfl, SqL.of hB, rfl, _, _, rfl, rfl, ⟨by decide, by decide⟩, .inl ⟨_, rfl, _, rfl, _, _, rfl, rfl, (by show (0 : Int) < (m : Nat); omega), ?_⟩⟩
      generalize hz : (s2 / 89 : Int) = z
      have h1 : 0 ≤ z % (m : Int) := Int.emod_nonneg _ (by omega)
      have h2 : z % (m : Int) < m := Int.emod_lt_of_pos _ (by omega)
      have e : z % (m : Int) = ((z % (m : Int)).toNat : Nat) := by omega
      have y := q (z % (m : Int)).toNat H1 (by omega) ⟨_, _, _, hB, hg⟩ hbs
      rw [← e] at y
      exact y
def sp__law_pick (K : PySem.W.Frag) : Sp := fun vs H Q _ => ∃ (b a : Addr) (xs : List V), vs = [.ref b, .ref a] ∧ BagAt H b ∧ SqL K H a xs ∧ a ≠ b ∧ xs ≠ [] ∧ xs.length ≤ 1000 ∧ ∀ x H', x ∈ xs → BagAt H' b → Besides b H H' → Q x H'
theorem SqL.but {H H' : Hp} {b a : Addr} {xs : List V} (s : Besides b H H') (n : a ≠ b) (h : SqL K H a xs) : SqL K H' a xs := by
  rcases h with (h | ⟨o, h⟩) | h
  · exact .inl (.inl (s _ _ n h))
  · exact .inl (.inr ⟨o, s _ _ n h⟩)
  · exact .inr h
theorem o__law_pick (T : Txt K mg) : Ok P w K mg base 2 "_law_pick" ["_law_purse_here", "_law_menu"] (sp__law_pick K) := by
  refine ok_def T.d__law_pick sc__law_pick (fun _ _ _ _ _ _ us hl => match us, hl with | [_, _], _ => rfl) (fun vs H Q E h => ?_) (fun f cdv A outer s H vs Q E hr h => ?_)
  · obtain ⟨b, a, xs, rfl, _⟩ := h; rfl
  · obtain ⟨b, a, xs, rfl, hb, hS, hab, hne, hl, q⟩ := h
    refine ⟨_, (pss_one (ps_ret (pe_ix (ix_listK (K := K)) (pv 1) (pe_fn (o__law_draw T) (hr.mono (by decide)) (by rfl) (pa_cons (pv 0) (pa_cons (T.B.pLen (K := K) (pa_cons (pv 1) pa_nil)) pa_nil))) (fun _ _ => rfl)))), ?_⟩
    have h0 : 0 < xs.length := List.length_pos_iff.mpr hne
    refine ⟨_, rfl, _, rfl, _, rfl, _, xs.length, rfl, .inl ⟨_, hS, rfl⟩, b, xs.length, rfl, hb, h0, by omega, fun d H1 hd b1 s1 => ?_⟩
    have hc : xs[d]? = some xs[d] := List.getElem?_eq_getElem hd
    exact ⟨a, xs, _, _, rfl, rfl, SqL.but s1 hab hS, atI_nat hc, q _ H1 (List.getElem_mem hd) b1 s1⟩
end
end GH
namespace GH
open PySem PySem.Spec PyProof.Rows L2
/-! ### pieces of texts -/
theorem cut_to (l : List Nat) (k : Nat) : cutS (SX.S l) none (some (k : Int)) = SX.S (l.take k) := by
  unfold cutS SX.S
  congr 1
  simp only [Str.length, List.size_toArray]
  rw [HT.sIx_nat, HT.sIx_none]
  simp only [List.drop_zero, Nat.sub_zero]
  congr 1
  rcases Nat.le_total k l.length with h | h
  · rw [Nat.min_eq_left h]
  · rw [Nat.min_eq_right h, List.take_of_length_le (Nat.le_refl _), List.take_of_length_le h]
theorem cut_from (l : List Nat) (k : Nat) : cutS (SX.S l) (some (k : Int)) none = SX.S (l.drop k) := by
  unfold cutS SX.S
  congr 1
  simp only [Str.length, List.size_toArray]
  rw [HT.sIx_nat, HT.sIx_none]
  congr 1
  rcases Nat.le_total k l.length with h | h
  · rw [Nat.min_eq_left h, List.take_of_length_le (by rw [List.length_drop]; omega)]
  · rw [Nat.min_eq_right h, List.drop_of_length_le (Nat.le_refl _), List.drop_of_length_le h, List.take_nil]
theorem cut_mid (l : List Nat) (a b : Nat) : cutS (SX.S l) (some (a : Int)) (some (b : Int)) = SX.S ((l.take b).drop a) := by
  unfold cutS SX.S
  congr 1
  simp only [Str.length, List.size_toArray]
  rw [HT.sIx_nat, HT.sIx_nat]
  congr 1
  rw [List.drop_take]
  rcases Nat.le_total a l.length with h | h
  · rw [Nat.min_eq_left h]
    rcases Nat.le_total b l.length with h2 | h2
    · rw [Nat.min_eq_left h2]
    · rw [Nat.min_eq_right h2, List.take_of_length_le (by rw [List.length_drop]; omega), List.take_of_length_le (by rw [List.length_drop]; omega)]
  · rw [Nat.min_eq_right h, List.drop_of_length_le (Nat.le_refl _), List.drop_of_length_le h, List.take_nil, List.take_nil]
theorem cut_last (l : List Nat) (c : Nat) : cutS (SX.S (l ++ [c])) none (some (-1)) = SX.S l := by
  unfold cutS SX.S
  congr 1
  simp only [Str.length, List.size_toArray]
  rw [HT.sIx_none]
  have e : HT.sIx (l ++ [c]).length (l ++ [c]).length (some (-1)) = l.length := by
    show (if (-1 : Int) < 0 then ((-1) + ((l ++ [c]).length : Int)).toNat else min (-1 : Int).toNat (l ++ [c]).length) = l.length
    rw [if_pos (by decide), List.length_append, List.length_singleton]
    omega
  rw [e]
  show ((l ++ [c]).drop 0 |>.take (l.length - 0)).toArray = l.toArray
  simp
theorem last_sign (l : List Nat) (c : Nat) : atI (SX.S (l ++ [c])).cps.toList (-1) = some c := by
  have e : (SX.S (l ++ [c])).cps.toList = l ++ [c] := by simp [SX.S]
  rw [e]; exact atI_last _ _
theorem sl_len {l : List Nat} (h : l.length ≤ 1000) : (SX.S l).length ≤ sizeLine := by rw [SX.S_len]; exact len_small (by omega)
theorem add_len {a b : List Nat} (ha : a.length ≤ 1000) (hb : b.length ≤ 1000) : (SX.S a).length + (SX.S b).length ≤ sizeLine := by
  rw [SX.S_len, SX.S_len, sizeLine_eq]; omega
theorem pow_mem {v : List Nat} {c : Nat} : ∀ {m : Nat}, c ∈ pow v m → c ∈ v
  | 0, h => by cases h
  | m + 1, h => by
    rcases List.mem_append.mp (show c ∈ v ++ pow v m from h) with z | z
    · exact z
    · exact pow_mem z
theorem Wf.full {L : List Nat} {R : List Row} (h : Wf L R) : Full L R := fun s c hs hc => by
  obtain ⟨_, hm⟩ := h.at_ hs
  rw [(h.tl hm).2.1]; exact List.idxOf_lt_length_iff.mpr hc
section
variable {P : Program} {w : World} {K : PySem.W.Frag} {mg : Str → Option Value} {base : Heap}
/-- what stands while a law draws -/
structure Wd (K : PySem.W.Frag) (mg : Str → Option Value) (H0 H : Hp) (b p : Addr) (v : V) (L : List Nat) (R : List Row) : Prop where
  bag : BagAt H b
  bs : Besides b H0 H
  m : Mach K mg H p L R
  r : RowsAt K H v R
theorem Wd.but {H0 H H' : Hp} {b p : Addr} {v : V} {L : List Nat} {R : List Row} (h : Wd K mg H0 H b p v L R) (hb : BagAt H' b) (s : Besides b H H') : Wd K mg H0 H' b p v L R := by
  obtain ⟨g, x, n, e, _⟩ := id h.bag
  exact ⟨hb, Besides.trans h.bs s, h.m.but s e, h.r.mono (h.bag.tups s)⟩
theorem Wd.same {H0 H H' : Hp} {b p : Addr} {v : V} {L : List Nat} {R : List Row} (h : Wd K mg H0 H b p v L R) (s : Same H H') : Wd K mg H0 H' b p v L R :=
  ⟨h.bag.same s, Besides.trans h.bs (Same.but s), h.m.same s, h.r.mono (Same.tups s)⟩
theorem bool_eq {a b : Bool} {p q : Prop} (ha : a = true ↔ p) (hb : b = true ↔ q) (h : p ↔ q) : a = b := by
  cases a <;> cases b <;> simp_all
theorem ne_same {b : Bool} : (!decide (V.bl b = V.bl b)) = false := by rw [decide_eq_true rfl]; rfl
end
theorem iteTc {c : Bool} {A B : Prop} (hc : c = true) (h : A) : if c = true then A else B := by rw [if_pos hc]; exact h
theorem iteFc {c : Bool} {A B : Prop} (hc : c = false) (h : B) : if c = true then A else B := by rw [if_neg (by rw [hc]; decide)]; exact h
theorem ne_V {x : V} : (!decide (x = x)) = false := by rw [decide_eq_true rfl]; rfl
theorem eq_V {x : V} : decide (x = x) = true := decide_eq_true rfl
theorem pow_take_len {v : List Nat} {m k : Nat} (hv : v ≠ []) (h : k ≤ m) : ((pow v m).take k).length = k := by
  rw [List.length_take, pow_length]
  have h1 : 0 < v.length := List.length_pos_iff.mpr hv
  have h2 : m * 1 ≤ m * v.length := Nat.mul_le_mul_left m h1
  omega
end GH
namespace GH
open PySem PySem.Spec PyProof.Rows L2
section
variable {P : Program} {w : World} {K : PySem.W.Frag} {mg : Str → Option Value} {base : Heap}
/-- letters and rows in a list -/
def ToolAt (K : PySem.W.Frag) (H : Hp) (a : Addr) (L : List Nat) (R : List Row) : Prop := ∃ v, H a = some (.lst [.str (SX.S L), v]) ∧ RowsAt K H v R
theorem ToolAt.same {H H' : Hp} {a : Addr} {L : List Nat} {R : List Row} (s : Same H H') (h : ToolAt K H a L R) : ToolAt K H' a L R := by
  obtain ⟨v, e, r⟩ := h
  exact ⟨v, s _ _ e, r.mono (Same.tups s)⟩
theorem ToolAt.but {H H' : Hp} {a b : Addr} {L : List Nat} {R : List Row} (hb : BagAt H b) (s : Besides b H H') (n : a ≠ b) (h : ToolAt K H a L R) : ToolAt K H' a L R := by
  obtain ⟨v, e, r⟩ := h
  exact ⟨v, s _ _ n e, r.mono (hb.tups s)⟩
def sp__law_tool (K : PySem.W.Frag) : Sp := fun vs H Q _ => ∃ (b : Addr) (L : List Nat) (m tp : Nat), vs = [.ref b, .str (SX.S L), .int (m : Nat), .int (tp : Nat)] ∧ BagAt H b ∧ lettersOk L = true ∧ 0 < m ∧ m ≤ 6 ∧ tp ≤ 6 ∧
  ∀ a R H', H a = none → ToolAt K H' a L R → Wf L R → R.length ≤ m → (∀ r ∈ R, r.1 ≤ tp) → BagAt H' b → Besides b H H' → Q (.ref a) H'
theorem o__law_tool (T : Txt K mg) : Ok P w K mg base 2 "_law_tool" ["_law_purse_here", "_law_letters_here", "_law_most", "_law_top"] (sp__law_tool K) := by
  refine ok_def T.d__law_tool sc__law_tool (fun _ _ _ _ _ _ us hl => match us, hl with | [_, _, _, _], _ => rfl) (fun vs H Q E h => ?_) (fun f cdv A outer s H vs Q E hr h => ?_)
  · obtain ⟨b, L, m, tp, rfl, _⟩ := h; rfl
  · obtain ⟨b, L, m, tp, rfl, hb, hL, hm0, hm, htp, q⟩ := h
    refine ⟨_, (pss_cons (ps_set (i := 4) sc__law_tool.nd rfl (by first | exact .inl rfl | exact .inr rfl) (pe_op op_add pe_int (pe_fn (o__law_draw T) (hr.mono (by decide)) (by rfl) (pa_cons (pv 0) (pa_cons (pv 2) pa_nil)))))
    (pss_cons (ps_set (i := 5) sc__law_tool.nd rfl (by first | exact .inl rfl | exact .inr rfl) (pe_lst pa_nil))
    (pss_cons (ps_for PassesOwn.never rfl (pi_range1 (by rfl) T.B.range_ (pa_cons (pv 4) pa_nil)) (pg_name (i := 6) sc__law_tool.nd rfl (by first | exact .inl rfl | exact .inr rfl))
      (pss_cons (ps_set (i := 7) sc__law_tool.nd rfl (by first | exact .inl rfl | exact .inr rfl) (T.B.pTuple (K := K) (pa_cons (pe_lc (own := [("_law_letter", 8)]) (g := gName 8) (tt := tYes) rfl sc__law_tool.nd (pi_str (pv 1)) (blkOk_by (own := [("_law_letter", 8)]) (N := ["_law_purse_here", "_law_letters_here", "_law_most", "_law_top", "_law_many", "_law_found", "_law_k", "_law_targets_here", "_law_letter"]) (sc := defScope s__law_tool) (by decide +kernel)) (fun _ _ _ _ _ => (pg_name (i := 8) sc__law_tool.nd rfl (by first | exact .inl rfl | exact .inr rfl))) (fun _ _ _ _ _ => pts_nil) (fun _ _ _ _ _ => (pe_fn (o__law_draw T) (hr.mono (by decide)) (by rfl) (pa_cons (pv 0) (pa_cons (pv 4) pa_nil))))) pa_nil)))
        (pss_one (ps_expr (pe_bmK (K := K) PySem.F.plainAttrs_list PySem.F.slot_list_append PySem.F.type_list_append mt_append (pv 5) (pa_cons (pe_tup (pa_cons (pe_fn (o__law_draw T) (hr.mono (by decide)) (by rfl) (pa_cons (pv 0) (pa_cons (pe_op op_add (pv 3) pe_int) pa_nil))) (pa_cons (pv 7) pa_nil))) pa_nil))))))
    (pss_one (ps_ret (pe_lst (pa_cons (pv 1) (pa_cons (T.B.pTuple (K := K) (pa_cons (pv 5) pa_nil)) pa_nil)))))))), ?_⟩
    have hLl : 0 < L.length ∧ L.length ≤ 3 := by
      have h1 := hL
      unfold lettersOk wordOk at h1
      simp only [Bool.and_eq_true, decide_eq_true_eq, Bool.not_eq_true', decide_eq_false_iff_not] at h1
      obtain ⟨⟨h2, _⟩, h3, _⟩ := h1
      exact ⟨List.length_pos_iff.mpr h3, by omega⟩
    refine ⟨_, rfl, _, rfl, b, m, rfl, hb, hm0, by omega, fun d H1 hd b1 s1 => ?_⟩
    refine ⟨_, _, rfl, rfl, Nat.zero_le _, fun o no => ?_⟩
    have nob : o ≠ b := b1.ne no
    have hoH : H o = none := by
      cases z : H o with
      | none => rfl
      | some u => have := s1 o u nob z; rw [no] at this; cases this
    refine ⟨_, rfl, 1 + (d : Nat), rfl, by omega, by omega, ?_⟩
    rw [show ((1 : Int) + ((d : Nat) : Int)).toNat = d + 1 by omega]
    refine for_range (fun i σ H' => ∃ y6 y7, σ = [some (.ref b), some (.str (SX.S L)), some (.int (m : Nat)), some (.int (tp : Nat)), some (.int (1 + (d : Nat))), some (.ref o), y6, y7, none] ∧ BagAt H' b ∧ Besides b H H' ∧ ∃ vs R, H' o = some (.lst vs) ∧ Paired (RowAt K H') vs R ∧ R.length = i ∧ (∀ r ∈ R, rowOk r L.length (d + 1) = true) ∧ ∀ r ∈ R, r.1 ≤ tp)
      ⟨none, none, rfl, b1.upd nob, Besides.new s1 no, [], [], upd_same, .nil, rfl, by simp, by simp⟩ ?_ ?_
    · rintro i σ H3 hi ⟨y6, y7, rfl, b3, s3, vs, R, e3, hP, hRl, hRo, hRt⟩
      refine ⟨_, rfl, SX.S L, rfl, fun D hD => ?_⟩
      have nDb : D ≠ b := b3.ne hD
      have exs : (SX.S L).cps.size = L.length := by simp [SX.S]
      refine lc_it walk_str (fun j H' => BagAt H' b ∧ Besides b H3 H' ∧ ∃ gs : List Nat, H' D = some (.lst (natV gs)) ∧ gs.length = j ∧ ∀ g ∈ gs, g < d + 1) ⟨b3.upd nDb, Besides.new (Besides.refl _ _) hD, [], upd_same, rfl, by simp⟩ (fun _ _ _ _ => trivial) (fun j x H7 H8 hj p yl => ?_) (fun H7 p => ?_)
      · obtain ⟨b7, s7, gs, eD, hgl, hgs⟩ := p
        obtain ⟨rfl, c, hc, rfl⟩ := yl
        refine ⟨rfl, _, rfl, _, rfl, b, d + 1, by rw [show ((d + 1 : Nat) : Int) = 1 + (d : Nat) by omega]; rfl, b7, by omega, by omega, fun g H9 hg b9 s9 => ?_⟩
        refine ⟨natV gs, s9 D _ nDb eD, by rw [natV_len, hgl, sizeLine_eq]; rw [exs] at hj; omega, b9.upd nDb, fun x u hx ex => ?_, gs ++ [g], ?_, by simp [hgl], fun z hz => ?_⟩
        · rw [upd_ne (ne_of_none ex hD)]
          exact s9 x u hx (s7 x u hx ex)
        · rw [upd_same, natV_app]; rfl
        · rcases List.mem_append.mp hz with z1 | z1
          · exact hgs z z1
          · rw [List.mem_singleton.mp z1]; exact hg
      · obtain ⟨b7, s7, gs, eD, hgl, hgs⟩ := p
        rw [exs] at hgl
        have e7 : H7 o = some (.lst vs) := s7 o _ nob e3
        refine ⟨D, _, rfl, .inl ⟨SqL.of eD, fun t3 nt3 => ?_⟩⟩
        have nt3b : t3 ≠ b := b7.ne nt3
        have e8 : (upd H7 t3 (.tup (natV gs))) o = some (.lst vs) := by rw [upd_ne (ne_of_none e7 nt3)]; exact e7
        refine ⟨_, rfl, .inl ⟨rfl, _, SqL.of e8⟩, _, rfl, _, rfl, _, _, rfl, rfl, b, tp + 1, by show [V.ref b, V.int ((tp : Nat) + 1)] = _; rfl, b7.upd nt3b, by omega, by omega, fun cl H9 hcl b9 s9 => ?_⟩
        refine ⟨_, rfl, by show 2 ≤ sizeLine; decide, fun t4 nt4 => ?_⟩
        have nt4b : t4 ≠ b := b9.ne nt4
        have e9 : H9 o = some (.lst vs) := s9 o _ nob e8
        have e9t : H9 t3 = some (.tup (natV gs)) := s9 t3 _ nt3b upd_same
        have e10 : (upd H9 t4 (.tup [.int (cl : Nat), .ref t3])) o = some (.lst vs) := by rw [upd_ne (ne_of_none e9 nt4)]; exact e9
        have e10t : (upd H9 t4 (.tup [.int (cl : Nat), .ref t3])) t3 = some (.tup (natV gs)) := by rw [upd_ne (ne_of_none e9t nt4)]; exact e9t
        refine ⟨o, _, _, rfl, rfl, e10, ?_, ?_⟩
        · rw [Paired.length hP, hRl, sizeLine_eq]; omega
        · have s11 : Besides b H3 (upd H9 t4 (.tup [.int (cl : Nat), .ref t3])) := Besides.new (Besides.trans (Besides.new s7 nt3) s9) nt4
          have tt : Tups (upd H9 t4 (.tup [.int (cl : Nat), .ref t3])) (upd (upd H9 t4 (.tup [.int (cl : Nat), .ref t3])) o (.lst (vs ++ [.ref t4]))) := by
            refine ⟨fun x xs e => ?_, fun x u z e => ?_⟩
            · rw [upd_ne (fun z => by rw [z, e10] at e; cases e)]; exact e
            · rw [upd_ne (fun z => by rw [z, e10] at e; cases e)]; exact e
          have tt3 := (b3.tups s11).trans tt
          have rw4 : RowAt K (upd H9 t4 (.tup [.int (cl : Nat), .ref t3])) (.ref t4) (cl, gs) := ⟨t4, t3, rfl, SqT.of upd_same, SqT.of e10t⟩
          refine ⟨_, _, rfl, (b9.upd nt4b).upd nob, fun x u hx ex => ?_, vs ++ [.ref t4], R ++ [(cl, gs)], upd_same, ?_, by simp [hRl], fun r hr => ?_, fun r hr => ?_⟩
          · rw [upd_ne (ne_of_none ex hoH)]
            exact s11 x u hx (s3 x u hx ex)
          · exact paired_snoc (L2.Paired.mapP hP fun _ _ z => z.mono tt3) (rw4.mono tt)
          · rcases List.mem_append.mp hr with z | z
            · exact hRo r z
            · rw [List.mem_singleton.mp z]
              unfold rowOk
              simp only [Bool.and_eq_true, decide_eq_true_eq, List.all_eq_true]
              exact ⟨by omega, hgl, hgs⟩
          · rcases List.mem_append.mp hr with z | z
            · exact hRt r z
            · rw [List.mem_singleton.mp z]; show cl ≤ tp; omega
    · rintro σ H3 ⟨y6, y7, rfl, b3, s3, vs, R, e3, hP, hRl, hRo, hRt⟩
      refine ⟨_, rfl, _, rfl, o, _, rfl, .inl ⟨SqL.of e3, fun t2 nt2 => ⟨by show 2 ≤ sizeLine; decide, fun l nl => ?_⟩⟩⟩
      have nlb : l ≠ b := (b3.upd (b3.ne nt2)).ne nl
      have n2 : H l = none := by
        cases z : H l with
        | none => rfl
        | some u =>
          have z1 := s3 l u nlb z
          have z2 : (upd H3 t2 (.tup vs)) l = some u := by rw [upd_ne (ne_of_none z1 nt2)]; exact z1
          rw [nl] at z2; cases z2
      have sn : Same H3 (upd (upd H3 t2 (.tup vs)) l (.lst [.str (SX.S L), .ref t2])) := Same.trans (Same.new nt2) (Same.new nl)
      have n12 : t2 ≠ l := fun z => by rw [← z, upd_same] at nl; cases nl
      refine q l R _ n2 ⟨.ref t2, upd_same, t2, vs, rfl, SqT.of (by rw [upd_ne n12, upd_same]), L2.Paired.mapP hP fun _ _ z => z.mono (Same.tups sn)⟩ ⟨hL, ?_, by omega, fun r hr => by rw [hRl]; exact hRo r hr⟩ (by omega) hRt ((b3.upd (b3.ne nt2)).upd nlb) (Besides.new (Besides.new s3 nt2) nl)
      intro z
      rw [z] at hRl
      simp at hRl
end
end GH
namespace GH
open PySem PySem.Spec PyProof.Rows L2
section
variable {P : Program} {w : World} {K : PySem.W.Frag} {mg : Str → Option Value} {base : Heap}
def sp__law_made (K : PySem.W.Frag) (mg : Str → Option Value) : Sp := fun vs H Q _ => ∃ (a : Addr) (L : List Nat) (R : List Row), vs = [.ref a] ∧ ToolAt K H a L R ∧ Wf L R ∧ ∀ p H', Same H H' → Mach K mg H' p L R → Q (.ref p) H'
theorem o__law_made (T : Txt K mg) : Ok P w K mg base 6 "_law_made" ["_law_tool_here"] (sp__law_made K mg) := by
  refine ok_def T.d__law_made sc__law_made (fun _ _ _ _ _ _ us hl => match us, hl with | [_], _ => rfl) (fun vs H Q E h => ?_) (fun f cdv A outer s H vs Q E hr h => ?_)
  · obtain ⟨a, L, R, rfl, _⟩ := h; rfl
  · obtain ⟨a, L, R, rfl, ⟨v, e, hR⟩, wf, q⟩ := h
    refine ⟨_, (pss_one (ps_ret (mk_Machine T (hr.mono (by decide)) (pa_cons (pe_ix (ix_listK (K := K)) (pv 0) pe_int (fun _ _ => rfl)) (pa_cons (pe_ix (ix_listK (K := K)) (pv 0) pe_int (fun _ _ => rfl)) pa_nil))))), ?_⟩
    exact ⟨_, rfl, a, _, 0, _, rfl, rfl, SqL.of e, rfl, _, rfl, a, _, 1, _, rfl, rfl, SqL.of e, rfl, fun p dx nx nd ne => make_read hR wf nx nd ne fun H3 s3 hM => ⟨rfl, q p H3 s3 hM⟩⟩
def sp__law_run : Sp := fun vs H Q _ => ∃ (b : Addr) (L : List Nat) (m : Nat), vs = [.ref b, .str (SX.S L), .int (m : Nat)] ∧ BagAt H b ∧ 0 < L.length ∧ L.length ≤ 1000 ∧ m ≤ 1000 ∧ ∀ ws H', (∀ c ∈ ws, c ∈ L) → ws.length ≤ m → BagAt H' b → Besides b H H' → Q (.str (SX.S ws)) H'
theorem o__law_run (T : Txt K mg) : Ok P w K mg base 3 "_law_run" ["_law_purse_here", "_law_letters_here", "_law_most"] sp__law_run := by
  refine ok_def T.d__law_run sc__law_run (fun _ _ _ _ _ _ us hl => match us, hl with | [_, _, _], _ => rfl) (fun vs H Q E h => ?_) (fun f cdv A outer s H vs Q E hr h => ?_)
  · obtain ⟨b, L, m, rfl, _⟩ := h; rfl
  · obtain ⟨b, L, m, rfl, hb, hL0, hL, hm, q⟩ := h
    refine ⟨_, (pss_one (ps_ret (pe_joinK (K := K) pe_str (pe_lc (own := [("_law_turn", 3)]) (g := gName 3) (tt := tYes) rfl sc__law_run.nd (pi_range1 (by rfl) T.B.range_ (pa_cons (pe_fn (o__law_draw T) (hr.mono (by decide)) (by rfl) (pa_cons (pv 0) (pa_cons (pe_op op_add (pv 2) pe_int) pa_nil))) pa_nil)) (blkOk_by (own := [("_law_turn", 3)]) (N := ["_law_purse_here", "_law_letters_here", "_law_most", "_law_turn"]) (sc := defScope s__law_run) (by decide +kernel)) (fun _ _ _ _ _ => (pg_name (i := 3) sc__law_run.nd rfl (by first | exact .inl rfl | exact .inr rfl))) (fun _ _ _ _ _ => pts_nil) (fun _ _ _ _ _ => (pe_fn (o__law_pick T) (hr.mono (by decide)) (by rfl) (pa_cons (pv 0) (pa_cons (T.B.pListT (pa_cons (pv 1) pa_nil)) pa_nil)))))))), ?_⟩
    refine ⟨⟨_, rfl⟩, _, rfl, _, rfl, _, _, rfl, rfl, b, m + 1, rfl, hb, by omega, by omega, fun d H1 hd b1 s1 => ?_⟩
    refine ⟨(d : Nat), rfl, by omega, by omega, fun D hD => ?_⟩
    have nD : D ≠ b := b1.ne hD
    rw [show ((d : Nat) : Int).toNat = d by omega]
    refine lc_it walk_range (fun i H' => BagAt H' b ∧ Besides b H1 H' ∧ ∃ ws : List Nat, H' D = some (.lst (ws.map sg)) ∧ ws.length = i ∧ ∀ c ∈ ws, c ∈ L) ⟨b1.upd nD, fun x o hx e => by rw [upd_ne (ne_of_none e hD)]; exact e, [], upd_same, rfl, by simp⟩ (fun _ _ _ _ => trivial) (fun i x H2 H3 hi p yl => ?_) (fun H2 p => ?_)
    · obtain ⟨b2, s2, ws, eD, hl, hw⟩ := p
      obtain ⟨rfl, rfl⟩ := yl
      refine ⟨rfl, ?_⟩
      refine ⟨_, rfl, _, rfl, L, rfl, by omega, fun l nl => ?_⟩
      have nlb : l ≠ b := b2.ne nl
      have sl : Same H3 (upd H3 l (.lst (L.map fun c => V.str ⟨#[c]⟩))) := Same.new nl
      refine ⟨b, l, _, rfl, b2.upd nlb, SqL.of upd_same, nlb, fun z => ?_, by simp; omega, fun x H4 hx b4 s4 => ?_⟩
      · have hz := congrArg List.length z
        rw [List.length_map] at hz
        have hz0 : L.length = 0 := hz
        omega
      · obtain ⟨c, hc, rfl⟩ := List.mem_map.mp hx
        refine ⟨ws.map sg, s4 D _ nD (sl _ _ eD), by rw [List.length_map, sizeLine_eq]; omega, ?_⟩
        refine ⟨b4.upd nD, fun x o hx ex => ?_, ws ++ [c], ?_, by simp [hl], fun c' hc' => ?_⟩
        · rw [upd_ne (ne_of_none ex hD)]
          exact s4 x o hx (sl _ _ (s2 x o hx ex))
        · rw [upd_same, List.map_append]; rfl
        · rcases List.mem_append.mp hc' with z | z
          · exact hw c' z
          · rw [List.mem_singleton.mp z]; exact hc
    · obtain ⟨b2, s2, ws, eD, hl, hw⟩ := p
      refine ⟨_, D, ws.map fun c => (⟨#[c]⟩ : Str), rfl, rfl, .inl (SqL.of (by rw [eD, List.map_map]; rfl)), ?_, ?_⟩
      · have e0 : (Str.ofString "").length = 0 := by decide +kernel
        rw [e0, List.map_map]
        have e1 : ∀ l : List Nat, (l.map ((fun x : Str => x.length) ∘ fun c => (⟨#[c]⟩ : Str))).sum = l.length := by
          intro l
          induction l with
          | nil => rfl
          | cons a r ih => rw [List.map_cons, List.sum_cons, ih]; show 1 + r.length = r.length + 1; omega
        rw [e1]
        omega
      · rw [join_signs]
        exact q ws H2 hw (by omega) b2 (Besides.trans s1 s2)
/-- a lasso in the heap -/
def RopeAt (K : PySem.W.Frag) (H : Hp) (t : Addr) (u x : List Nat) : Prop := SqT K H t [.str (SX.S u), .str (SX.S x)]
def sp__law_rope (K : PySem.W.Frag) : Sp := fun vs H Q _ => ∃ (b : Addr) (L : List Nat), vs = [.ref b, .str (SX.S L)] ∧ BagAt H b ∧ 0 < L.length ∧ L.length ≤ 1000 ∧ ∀ t u x H', H t = none → RopeAt K H' t u x → (∀ c ∈ u, c ∈ L) → (∀ c ∈ x, c ∈ L) → x ≠ [] → u.length ≤ 5 → x.length ≤ 6 → BagAt H' b → Besides b H H' → Q (.ref t) H'
theorem o__law_rope (T : Txt K mg) : Ok P w K mg base 4 "_law_rope" ["_law_purse_here", "_law_letters_here"] (sp__law_rope K) := by
  refine ok_def T.d__law_rope sc__law_rope (fun _ _ _ _ _ _ us hl => match us, hl with | [_, _], _ => rfl) (fun vs H Q E h => ?_) (fun f cdv A outer s H vs Q E hr h => ?_)
  · obtain ⟨b, L, rfl, _⟩ := h; rfl
  · obtain ⟨b, L, rfl, hb, hL0, hL, q⟩ := h
    refine ⟨_, (pss_one (ps_ret (pe_tup (pa_cons (pe_fn (o__law_run T) (hr.mono (by decide)) (by rfl) (pa_cons (pv 0) (pa_cons (pv 1) (pa_cons pe_int pa_nil)))) (pa_cons (pe_op op_add_str (pe_fn (o__law_run T) (hr.mono (by decide)) (by rfl) (pa_cons (pv 0) (pa_cons (pv 1) (pa_cons pe_int pa_nil)))) (pe_fn (o__law_pick T) (hr.mono (by decide)) (by rfl) (pa_cons (pv 0) (pa_cons (T.B.pListT (pa_cons (pv 1) pa_nil)) pa_nil)))) pa_nil))))), ?_⟩
    refine ⟨_, rfl, _, rfl, b, L, 5, rfl, hb, hL0, hL, by decide, fun u H1 hu hul b1 s1 => ?_⟩
    refine ⟨_, rfl, _, rfl, b, L, 5, rfl, b1, hL0, hL, by decide, fun v H2 hv hvl b2 s2 => ?_⟩
    refine ⟨_, rfl, _, rfl, L, rfl, by omega, fun l nl => ?_⟩
    have nlb : l ≠ b := b2.ne nl
    have sl : Same H2 (upd H2 l (.lst (L.map fun c => V.str ⟨#[c]⟩))) := Same.new nl
    refine ⟨b, l, _, rfl, b2.upd nlb, SqL.of upd_same, nlb, fun z => ?_, by simp; omega, fun x H4 hx b4 s4 => ?_⟩
    · have hz := congrArg List.length z
      rw [List.length_map] at hz
      have hz0 : L.length = 0 := hz
      omega
    · obtain ⟨c, hc, rfl⟩ := List.mem_map.mp hx
      refine ⟨SX.S v, SX.S [c], rfl, rfl, add_len (by omega) (by simp), by show 2 ≤ sizeLine; decide, fun t nt => ?_⟩
      rw [SX.S_cat]
      have s5 : Besides b H H4 := fun y o hy e => s4 y o hy (sl _ _ (s2 y o hy (s1 y o hy e)))
      have ntb : t ≠ b := b4.ne nt
      have n0 : H t = none := by
        cases z : H t with
        | none => rfl
        | some o => have := s5 t o ntb z; rw [nt] at this; cases this
      refine q t u (v ++ [c]) _ n0 (SqT.of upd_same) hu (fun d hd => ?_) (by simp) hul (by simp; omega) (b4.upd ntb) (Besides.new s5 nt)
      rcases List.mem_append.mp hd with z | z
      · exact hv d z
      · rw [List.mem_singleton.mp z]; exact hc
def sp__law_walk (K : PySem.W.Frag) : Sp := fun vs H Q _ => ∃ (a0 : Addr) (L : List Nat) (R : List Row) (s : Nat) (x : List Nat), vs = [.ref a0, .int (s : Nat), .str (SX.S x)] ∧ ToolAt K H a0 L R ∧ Wf L R ∧ s < R.length ∧ (∀ c ∈ x, c ∈ L) ∧ x.length ≤ 10000 ∧
  ∀ a H', H a = none → Same H H' → H' a = some (.lst (natV (way L R s x))) → Q (.ref a) H'
theorem o__law_walk (T : Txt K mg) : Ok P w K mg base 1 "_law_walk" ["_law_tool_here", "_law_state_here", "_law_run_here"] (sp__law_walk K) := by
  refine ok_def T.d__law_walk sc__law_walk (fun _ _ _ _ _ _ us hl => match us, hl with | [_, _, _], _ => rfl) (fun vs H Q E h => ?_) (fun f cdv A outer s H vs Q E hr h => ?_)
  · obtain ⟨v, L, R, s, x, rfl, _⟩ := h; rfl
  · obtain ⟨a0, L, R, s, x, rfl, hT, wf, hs, hx, hxl, q⟩ := h
    refine ⟨_, (pss_cons (ps_set (i := 3) sc__law_walk.nd rfl (by first | exact .inl rfl | exact .inr rfl) (pe_lst pa_nil))
    (pss_cons (ps_for PassesOwn.never rfl (pi_str (pv 2)) (pg_name (i := 4) sc__law_walk.nd rfl (by first | exact .inl rfl | exact .inr rfl))
      (pss_cons (ps_set (i := 1) sc__law_walk.nd rfl (by first | exact .inl rfl | exact .inr rfl) (pe_ix (ix_tupK (K := K)) (pe_ix (ix_tupK (K := K)) (pe_ix (ix_tupK (K := K)) (pe_ix (ix_listK (K := K)) (pv 0) pe_int (fun _ _ => rfl)) (pv 1) (fun _ _ => rfl)) pe_int (fun _ _ => rfl)) (pe_m1 PySem.F.slot_str_index PySem.F.type_str_index mt_sindex (pe_ix (ix_listK (K := K)) (pv 0) pe_int (fun _ _ => rfl)) (pv 4)) (fun _ _ => rfl)))
        (pss_one (ps_expr (pe_bmK (K := K) PySem.F.plainAttrs_list PySem.F.slot_list_append PySem.F.type_list_append mt_append (pv 3) (pa_cons (pv 1) pa_nil))))))
    (pss_one (ps_ret (pv 3))))), ?_⟩
    refine ⟨Nat.zero_le _, fun o no => ?_⟩
    refine ⟨_, rfl, SX.S x, rfl, ?_⟩
    have exs : (SX.S x).cps.size = x.length := by simp [SX.S]
    refine for_it walk_str (fun i σ H' => ∃ y4, σ = [some (.ref a0), some (.int (endS L R s (x.take i) : Nat)), some (.str (SX.S x)), some (.ref o), y4] ∧ Same H H' ∧ H' o = some (.lst (natV (way L R s (x.take i))))) ⟨none, rfl, Same.new no, upd_same⟩ (fun _ _ _ _ _ => trivial) (fun i u σ H' H'' hi pv yl => ?_) (fun σ H' pv => ?_)
    · obtain ⟨y4, rfl, s1, eo⟩ := pv
      obtain ⟨rfl, c, hc, rfl⟩ := yl
      have hc' : x[i]? = some c := by simpa [SX.S] using hc
      have hcL : c ∈ L := hx c (List.mem_of_getElem? hc')
      have hst : endS L R s (x.take i) < R.length := endS_lt wf.closed _ _ hs fun d hd => hx d (List.mem_of_mem_take hd)
      obtain ⟨v, et, hR⟩ := hT.same s1
      obtain ⟨a, vs, a', b, rfl, h1, h2, h3, h4⟩ := hR.row hst
      obtain ⟨rest, ho⟩ := index_sign (lettersOk_nodup wf.l) hcL
      obtain ⟨g1, g2⟩ := wf.get hst hcL
      obtain ⟨w1, w2⟩ := way_take L R x s i c hc'
      refine ⟨_, rfl, a0, _, 1, _, rfl, rfl, SqL.of et, rfl, _, rfl, a, vs, _, _, rfl, rfl, h1, atI_nat h2, a', _, 1, _, rfl, rfl, h3, rfl, ?_⟩
      refine ⟨_, rfl, a0, _, 0, _, rfl, rfl, SqL.of et, rfl, ⟨_, rfl⟩, _, rfl, _, _, _, _, rfl, rfl, ho, b, _, _, _, rfl, rfl, h4, atI_nat (v := V.int (stp L R (endS L R s (x.take i)) c : Nat)) (by rw [List.getElem?_map, g1]; rfl), ?_⟩
      refine ⟨_, rfl, .inl ⟨rfl, _, SqL.of eo⟩, _, rfl, o, _, _, rfl, rfl, eo, ?_, ?_⟩
      · rw [natV_len, way_length, List.length_take, sizeLine_eq]; omega
      · refine ⟨some (.str ⟨#[c]⟩), ?_, Same.mut s1 no, ?_⟩
        · rw [w2]; rfl
        · rw [upd_same, w1, natV_app]; rfl
    · obtain ⟨y4, rfl, s1, eo⟩ := pv
      rw [exs, List.take_of_length_le (Nat.le_refl _)] at eo
      exact ⟨_, rfl, q o H' no s1 eo⟩
def sp__law_end (K : PySem.W.Frag) : Sp := fun vs H Q _ => ∃ (a0 : Addr) (L : List Nat) (R : List Row) (s : Nat) (x : List Nat), vs = [.ref a0, .int (s : Nat), .str (SX.S x)] ∧ ToolAt K H a0 L R ∧ Wf L R ∧ s < R.length ∧ (∀ c ∈ x, c ∈ L) ∧ x.length ≤ 10000 ∧
  ∀ H', Same H H' → Q (.int (endS L R s x : Nat)) H'
theorem o__law_end (T : Txt K mg) : Ok P w K mg base 2 "_law_end" ["_law_tool_here", "_law_state_here", "_law_run_here"] (sp__law_end K) := by
  refine ok_def T.d__law_end sc__law_end (fun _ _ _ _ _ _ us hl => match us, hl with | [_, _, _], _ => rfl) (fun vs H Q E h => ?_) (fun f cdv A outer s H vs Q E hr h => ?_)
  · obtain ⟨v, L, R, s, x, rfl, _⟩ := h; rfl
  · obtain ⟨a0, L, R, s, x, rfl, hT, wf, hs, hx, hxl, q⟩ := h
    refine ⟨_, (pss_one (ps_ret (pe_ix (ix_listK (K := K)) (pe_op op_cat (pe_lst (pa_cons (pv 1) pa_nil)) (pe_fn (o__law_walk T) (hr.mono (by decide)) (by rfl) (pa_cons (pv 0) (pa_cons (pv 1) (pa_cons (pv 2) pa_nil))))) (pe_un un_neg pe_int) (fun _ _ => rfl)))), ?_⟩
    refine ⟨_, rfl, by show 1 ≤ sizeLine; decide, fun l nl => ?_⟩
    refine ⟨_, rfl, _, rfl, _, rfl, a0, L, R, s, x, rfl, hT.same (Same.new nl), wf, hs, hx, hxl, fun a H1 na s1 ea => ?_⟩
    refine ⟨l, a, _, _, rfl, rfl, s1 _ _ upd_same, ea, ?_, fun l2 nl2 => ?_⟩
    · simp only [List.length_cons, List.length_nil, natV_len, way_length]
      rw [sizeLine_eq]; omega
    · refine ⟨1, rfl, l2, _, -1, _, rfl, rfl, SqL.of upd_same, ?_, q _ (Same.trans (Same.trans (Same.new nl) s1) (Same.new nl2))⟩
      exact last_ints _ _ _ (way_last L R x s)
def sp__law_is_in (K : PySem.W.Frag) : Sp := fun vs H Q _ => ∃ (a0 t : Addr) (L : List Nat) (R : List Row) (u x : List Nat), vs = [.ref a0, .ref t] ∧ ToolAt K H a0 L R ∧ RopeAt K H t u x ∧ Wf L R ∧ (∀ c ∈ u, c ∈ L) ∧ (∀ c ∈ x, c ∈ L) ∧ x ≠ [] ∧ u.length ≤ 1000 ∧ x.length ≤ 1000 ∧
  ∀ (b : Bool) H', Same H H' → (b = true ↔ Lies L R 0 (app u (rep x))) → Q (.bl b) H'
theorem o__law_is_in (T : Txt K mg) : Ok P w K mg base 3 "_law_is_in" ["_law_tool_here", "_law_rope_here"] (sp__law_is_in K) := by
  refine ok_def T.d__law_is_in sc__law_is_in (fun _ _ _ _ _ _ us hl => match us, hl with | [_, _], _ => rfl) (fun vs H Q E h => ?_) (fun f cdv A outer s H vs Q E hr h => ?_)
  · obtain ⟨a0, t, L, R, u, x, rfl, _⟩ := h; rfl
  · obtain ⟨a0, t, L, R, u, x, rfl, hT, hRo, wf, hu, hx, hne, hul, hxl, q⟩ := h
    refine ⟨_, (pss_cons (ps_set (i := 2) sc__law_is_in.nd rfl (by first | exact .inl rfl | exact .inr rfl) (pe_fn (o__law_end T) (hr.mono (by decide)) (by rfl) (pa_cons (pv 0) (pa_cons pe_int (pa_cons (pe_ix (ix_tupK (K := K)) (pv 1) pe_int (fun _ _ => rfl)) pa_nil)))))
    (pss_cons (ps_for PassesOwn.never rfl (pi_range1 (by rfl) T.B.range_ (pa_cons (T.B.pLen (K := K) (pa_cons (pe_ix (ix_listK (K := K)) (pv 0) pe_int (fun _ _ => rfl)) pa_nil)) pa_nil)) (pg_name (i := 3) sc__law_is_in.nd rfl (by first | exact .inl rfl | exact .inr rfl))
      (pss_one (ps_set (i := 2) sc__law_is_in.nd rfl (by first | exact .inl rfl | exact .inr rfl) (pe_fn (o__law_end T) (hr.mono (by decide)) (by rfl) (pa_cons (pv 0) (pa_cons (pv 2) (pa_cons (pe_ix (ix_tupK (K := K)) (pv 1) pe_int (fun _ _ => rfl)) pa_nil)))))))
    (pss_cons (ps_set (i := 4) sc__law_is_in.nd rfl (by first | exact .inl rfl | exact .inr rfl) (pe_lst pa_nil))
    (pss_cons (ps_for PassesOwn.never rfl (pi_range1 (by rfl) T.B.range_ (pa_cons (T.B.pLen (K := K) (pa_cons (pe_ix (ix_listK (K := K)) (pv 0) pe_int (fun _ _ => rfl)) pa_nil)) pa_nil)) (pg_name (i := 3) sc__law_is_in.nd rfl (by first | exact .inl rfl | exact .inr rfl))
      (pss_cons (ps_set (i := 4) sc__law_is_in.nd rfl (by first | exact .inl rfl | exact .inr rfl) (pe_op op_cat (pv 4) (pe_fn (o__law_walk T) (hr.mono (by decide)) (by rfl) (pa_cons (pv 0) (pa_cons (pv 2) (pa_cons (pe_ix (ix_tupK (K := K)) (pv 1) pe_int (fun _ _ => rfl)) pa_nil))))))
        (pss_one (ps_set (i := 2) sc__law_is_in.nd rfl (by first | exact .inl rfl | exact .inr rfl) (pe_fn (o__law_end T) (hr.mono (by decide)) (by rfl) (pa_cons (pv 0) (pa_cons (pv 2) (pa_cons (pe_ix (ix_tupK (K := K)) (pv 1) pe_int (fun _ _ => rfl)) pa_nil))))))))
    (pss_one (ps_ret (pe_cmpR op_eq (pe_op op_mod (T.B.pInt (pa_cons (T.B.pMax1 (K := K) (pa_cons (pe_lc (own := [("_law_each", 5)]) (g := gName 5) (tt := tYes) rfl sc__law_is_in.nd (pi_listK (K := K) (pv 4)) (blkOk_by (own := [("_law_each", 5)]) (N := ["_law_tool_here", "_law_rope_here", "_law_state_here", "_law_turn", "_law_seen", "_law_each"]) (sc := defScope s__law_is_in) (by decide +kernel)) (fun _ _ _ _ _ => (pg_name (i := 5) sc__law_is_in.nd rfl (by first | exact .inl rfl | exact .inr rfl))) (fun _ _ _ _ _ => pts_nil) (fun _ _ _ _ _ => (pe_ix (ix_tupK (K := K)) (pe_ix (ix_tupK (K := K)) (pe_ix (ix_listK (K := K)) (pv 0) pe_int (fun _ _ => rfl)) (pv 5) (fun _ _ => rfl)) pe_int (fun _ _ => rfl)))) pa_nil)) pa_nil)) pe_int) pe_int (nomark _)))))))), ?_⟩
    have h6 := wf.le
    have hp := wf.pos
    obtain ⟨s0, hs0⟩ : ∃ s0, s0 = endS L R 0 u := ⟨_, rfl⟩
    have lt0 : s0 < R.length := by rw [hs0]; exact endS_lt wf.closed u 0 wf.pos hu
    have lt : ∀ k, iter (fun x_1 => endS L R x_1 x) k s0 < R.length := fun k => iter_lt wf.closed hx k _ lt0
    have ro : ∀ H', Same H H' → SqT K H' t [.str (SX.S u), .str (SX.S x)] := fun H' s' => Same.seqT s' hRo
    refine ⟨_, rfl, _, rfl, t, _, 0, _, rfl, rfl, hRo, rfl, a0, L, R, 0, u, rfl, hT, wf, wf.pos, hu, by omega, fun H1 s1 => ?_⟩
    rw [← hs0]
    have hRl : ∀ H', Same H H' → ∃ a vs, H' a0 = some (.lst [.str (SX.S L), .ref a]) ∧ RowsAt K H' (.ref a) R ∧ SqT K H' a vs ∧ vs.length = R.length := fun H' s' => by
      obtain ⟨v, e, hR⟩ := hT.same s'
      obtain ⟨a, vs, rfl, h1, h2⟩ := id hR
      exact ⟨a, vs, e, hR, h1, Paired.length h2⟩
    obtain ⟨a, vs, et, _, hS, hvs⟩ := hRl _ s1
    refine ⟨_, rfl, a0, _, 1, _, rfl, rfl, SqL.of et, rfl, _, R.length, rfl, .inr ⟨vs, hS, hvs.symm⟩, (R.length : Nat), rfl, by omega, by omega, ?_⟩
    rw [show ((R.length : Nat) : Int).toNat = R.length by omega]
    refine for_range (fun i σ H' => ∃ y3, σ = [some (.ref a0), some (.ref t), some (.int (iter (fun z => endS L R z x) i s0 : Nat)), y3, none, none] ∧ Same H H') ⟨none, rfl, s1⟩ ?_ ?_
    · rintro i σ H2 hi ⟨y3, rfl, s3⟩
      refine ⟨_, rfl, _, rfl, _, rfl, t, _, 1, _, rfl, rfl, ro _ s3, rfl, a0, L, R, _, x, rfl, hT.same s3, wf, lt i, hx, by omega, fun H3 s4 => ⟨some (.int (0 + (i : Nat))), ?_, Same.trans s3 s4⟩⟩
      rw [iter_succ]; rfl
    · rintro σ H2 ⟨y3, rfl, s3⟩
      refine ⟨Nat.zero_le _, fun o no => ?_⟩
      have no0 : H o = none := Same.free s3 no
      have s3' : Same H (upd H2 o (.lst [])) := Same.mut s3 no0
      obtain ⟨a', vs2, et2, _, hS2, hvs2⟩ := hRl _ s3'
      refine ⟨_, rfl, a0, _, 1, _, rfl, rfl, SqL.of et2, rfl, _, R.length, rfl, .inr ⟨vs2, hS2, hvs2.symm⟩, (R.length : Nat), rfl, by omega, by omega, ?_⟩
      rw [show ((R.length : Nat) : Int).toNat = R.length by omega]
      refine for_range (fun i σ H' => ∃ y3 o, σ = [some (.ref a0), some (.ref t), some (.int (iter (fun z => endS L R z x) (R.length + i) s0 : Nat)), y3, some (.ref o), none] ∧ Same H H' ∧ H' o = some (.lst (natV (rounds L R x s0 R.length i)))) ⟨_, o, rfl, s3', upd_same⟩ ?_ ?_
      · rintro i σ H4 hi ⟨y3', o1, rfl, s4, eo4⟩
        refine ⟨_, rfl, _, rfl, _, rfl, _, rfl, t, _, 1, _, rfl, rfl, ro _ s4, rfl, a0, L, R, _, x, rfl, hT.same s4, wf, lt _, hx, by omega, fun l H5 nl s5 el => ?_⟩
        refine ⟨o1, l, _, _, rfl, rfl, s5 _ _ eo4, el, ?_, fun o2 no2 => ?_⟩
        · rw [natV_len, natV_len, rounds_length, way_length, sizeLine_eq]
          have : i * x.length ≤ 6 * 1000 := Nat.mul_le_mul (by omega) hxl
          omega
        · have s6 := Same.trans (Same.trans s4 s5) (Same.new (o := .lst (natV (rounds L R x s0 R.length i) ++ natV (way L R (iter (fun z => endS L R z x) (R.length + i) s0) x))) no2)
          refine ⟨_, rfl, _, rfl, _, rfl, t, _, 1, _, rfl, rfl, ro _ s6, rfl, a0, L, R, _, x, rfl, hT.same s6, wf, lt _, hx, by omega, fun H7 s7 => ⟨some (.int (0 + (i : Nat))), o2, ?_, Same.trans s6 s7, s7 _ _ ?_⟩⟩
          · rw [show R.length + (i + 1) = R.length + i + 1 by omega, iter_succ]; rfl
          · rw [upd_same, rounds_succ, natV_app]
      · rintro σ H4 ⟨y3', o1, rfl, s4, eo4⟩
        have hrl := rounds_lt wf.closed hx lt0 R.length R.length
        refine ⟨_, rfl, o1, rfl, ⟨_, SqL.of eo4⟩, fun D hD => ?_⟩
        refine lc_val (walk_list (xs := natV (rounds L R x s0 R.length R.length))) ((rounds L R x s0 R.length R.length).map fun s => V.int (col R s : Nat)) (by rw [natV_len]; simp) ?_ hD (fun _ s1 => Same.seq s1 (SqL.of eo4)) (fun i z H5 H6 c Qe hb s5 yl k => ?_) (fun H5 s5 eD => ?_)
        · rw [natV_len, rounds_length]
          have : R.length * x.length ≤ 6 * 1000 := Nat.mul_le_mul h6 hxl
          omega
        · obtain ⟨rfl, hu'⟩ := yl
          unfold natV at hu'
          rw [List.getElem?_map] at hu' hb
          cases ht : (rounds L R x s0 R.length R.length)[i]? with
          | none => rw [ht] at hu'; cases hu'
          | some s =>
            rw [ht] at hu' hb
            cases hu'; cases hb
            have hs := hrl s (List.mem_of_getElem? ht)
            obtain ⟨a3, _, et3, hR3, _, _⟩ := hRl _ (Same.trans s4 s5)
            obtain ⟨a1, vs1, a', b, e0, h1, h2, h3, h4⟩ := hR3.row hs
            cases e0
            exact ⟨rfl, _, rfl, a0, _, 1, _, rfl, rfl, SqL.of et3, rfl, _, rfl, a3, vs1, _, _, rfl, rfl, h1, atI_nat h2, a', _, 0, _, rfl, rfl, h3, rfl, k H6 (Same.refl _)⟩
        · refine ⟨D, (rounds L R x s0 R.length R.length).map fun s => ((col R s : Nat) : Int), rfl, SqL.of (by rw [eD, List.map_map]; rfl), ?_, fun m hm hle => ?_⟩
          · rw [List.length_map]; exact List.length_pos_iff.mpr (rounds_ne hne hp)
          · obtain ⟨s, hs, rfl⟩ := List.mem_map.mp hm
            have mx : IsMax ((rounds L R x s0 R.length R.length).map (col R)) (col R s) := ⟨List.mem_map.mpr ⟨s, hs, rfl⟩, fun y hy => by
              obtain ⟨s', hs', rfl⟩ := List.mem_map.mp hy
              have := hle _ (List.mem_map.mpr ⟨s', hs', rfl⟩)
              omega⟩
            subst hs0
            have lw := lies_window hne lt mx
            refine .inl ⟨_, rfl, _, _, rfl, rfl, (show (0 : Int) < 2 by decide), rfl, q _ H5 (Same.trans s4 s5) ?_⟩
            rw [lw, decide_eq_true_iff]
            constructor
            · intro z
              have z1 : V.int (((col R s : Nat) : Int) % 2) = V.int 0 := z
              have := V.int.inj z1
              omega
            · intro z
              show V.int (((col R s : Nat) : Int) % 2) = V.int 0
              rw [show ((col R s : Nat) : Int) % 2 = 0 by omega]
end
end GH
namespace GH
open PySem PySem.Spec PyProof.Rows L2
section
variable {P : Program} {w : World} {K : PySem.W.Frag} {mg : Str → Option Value} {base : Heap}
def ropeOk (u x L : List Nat) : Bool := !decide (x = []) && (u ++ x).all fun c => decide (c ∈ L)
def sp_is_rope (K : PySem.W.Frag) (mg : Str → Option Value) : Sp := fun vs H Q _ => ∃ (p t : Addr) (L : List Nat) (R : List Row) (u x : List Nat), vs = [.ref p, .ref t] ∧ Mach K mg H p L R ∧ RopeAt K H t u x ∧ u.length ≤ 1000 ∧ x.length ≤ 1000 ∧ ∀ H', Same H H' → Q (.bl (ropeOk u x L)) H'
theorem o_is_rope (T : Txt K mg) : Ok P w K mg base 3 "is_rope" ["machine", "value"] (sp_is_rope K mg) := by
  refine ok_def T.d_is_rope sc_is_rope (fun _ _ _ _ _ _ us hl => match us, hl with | [_, _], _ => rfl) (fun vs H Q E h => ?_) (fun f cdv A outer s H vs Q E hr h => ?_)
  · obtain ⟨p, t, L, R, u, x, rfl, _⟩ := h; rfl
  · obtain ⟨p, t, L, R, u, x, rfl, hM, hS, hul, hxl, q⟩ := h
    refine ⟨_, (pss_cons (ps_if (PW.pt (pw_or (pt_not (pt_val (pe_fn (o_is_tuple_of T) (hr.mono (by decide)) (by rfl) (pa_cons (pv 1) (pa_cons pe_int pa_nil))))) (pw_or (pt_not (pt_val (T.B.pAll (K := K) (pa_cons (pe_lc (own := [("word", 2)]) (g := gName 2) (tt := tYes) rfl sc_is_rope.nd (pi_tupK (K := K) (pv 1)) (blkOk_by (own := [("word", 2)]) (N := ["machine", "value", "word", "sign"]) (sc := defScope s_is_rope) (by decide +kernel)) (fun _ _ _ _ _ => (pg_name (i := 2) sc_is_rope.nd rfl (by first | exact .inl rfl | exact .inr rfl))) (fun _ _ _ _ _ => pts_nil) (fun _ _ _ _ _ => (T.B.pIsinstance (K := K) (pa_cons (pv 2) (pa_cons (pe_type T.B.str_ PyProof.Rows.boot_str) pa_nil))))) pa_nil)))) (pw_or1 (pt_cmpR op_eq (pe_ix (ix_tupK (K := K)) (pv 1) pe_int (fun _ _ => rfl)) pe_str (nomark _))))))
      (pss_one (ps_ret pe_bl))
      pss_nil)
    (pss_one (ps_ret (T.B.pAll (K := K) (pa_cons (pe_lc2 (own := [("word", 2), ("sign", 3)]) (vs1 := [3]) (g := gName 2) (g1 := gName 3) (tt := tYes) (tt1 := tYes) rfl sc_is_rope.nd (pi_tupK (K := K) (pv 1)) (blkOk_by (own := [("word", 2), ("sign", 3)]) (N := ["machine", "value", "word", "sign"]) (sc := defScope s_is_rope) (by decide +kernel)) (by decide) (fun _ _ _ _ _ => (pg_name (i := 2) sc_is_rope.nd rfl (by first | exact .inl rfl | exact .inr rfl))) (fun _ _ _ _ _ => pts_nil) (fun _ _ _ _ _ => (pi_str (pv 2))) (fun _ _ _ _ _ => (pg_name (i := 3) sc_is_rope.nd rfl (by first | exact .inl rfl | exact .inr rfl))) (fun _ _ _ _ _ => pts_nil) (fun _ _ _ _ _ => (pe_cmpR op_in_sign (pv 3) (p_letters T (hr.mono (by decide)) (pv 0)) (by rfl)))) pa_nil))))), ?_⟩
    refine ⟨_, rfl, t, _, 2, rfl, hS, _, rfl, iteF ?_⟩
    refine ⟨_, rfl, t, rfl, ⟨_, hS⟩, fun D hD => ?_⟩
    refine lc_val (walk_tup (xs := [.str (SX.S u), .str (SX.S x)])) [.bl true, .bl true] rfl (by simp) hD (fun _ s1 => Same.seqT s1 hS) (fun i z H1 H2 c Qe hb s1 yl k => ?_) (fun H1 s1 eD => ?_)
    · obtain ⟨rfl, hu⟩ := yl
      have hc' : c = V.bl true := by
        match i, hb with
        | 0, e => cases e; rfl
        | 1, e => cases e; rfl
      subst hc'
      obtain ⟨y, rfl⟩ : ∃ y, z = V.str y := by
        match i, hu with
        | 0, e => cases e; exact ⟨_, rfl⟩
        | 1, e => cases e; exact ⟨_, rfl⟩
      exact ⟨rfl, _, rfl, _, _, _, _, _, rfl, .ty _, .base (.str _), kit_ty (r := true) (by decide +kernel), k H2 (Same.refl _)⟩
    · refine ⟨D, [true, true], rfl, SqL.of eD, _, rfl, iteF ?_⟩
      refine ⟨_, rfl, t, _, 1, _, rfl, rfl, Same.seqT s1 hS, rfl, rfl, _, rfl, ?_⟩
      by_cases hx0 : x = []
      · subst hx0
        refine iteTc (decide_eq_true (by rfl)) ?_
        have z := q H1 s1
        exact z
      · refine iteFc (decide_eq_false (fun z => hx0 (SX.S_inj (V.str.inj z)))) ?_
        have hS1 := Same.seqT s1 hS
        refine ⟨_, rfl, t, rfl, ⟨_, hS1⟩, fun D2 hD2 => ?_⟩
        have hM1 := hM.same s1
        let pre : Nat → List Nat := fun i => ([u, x].take i).flatten
        have hres : (u ++ x).all (fun c => decide (c ∈ L)) = ropeOk u x L := by
          unfold ropeOk
          rw [decide_eq_false hx0]; rfl
        refine lc2_out (walk_tup (xs := [.str (SX.S u), .str (SX.S x)])) (fun i H' => Same H1 H' ∧ H' D2 = some (.lst ((pre i).map fun c => V.bl (decide (c ∈ L))))) ⟨Same.new hD2, upd_same⟩ (fun i H' _ pv => Same.seqT pv.1 hS1) (fun i z H2 H3 hi pv yl => ?_) (fun H2 pv => ?_)
        · obtain ⟨s2, e2⟩ := pv
          obtain ⟨rfl, hz⟩ := yl
          obtain ⟨y, hy, rfl, hyl⟩ : ∃ y, [u, x][i]? = some y ∧ z = V.str (SX.S y) ∧ y.length ≤ 1000 := by
            match i, hz with
            | 0, e => cases e; exact ⟨u, rfl, rfl, hul⟩
            | 1, e => cases e; exact ⟨x, rfl, rfl, hxl⟩
          have hpre : pre (i + 1) = pre i ++ y := by
            show ([u, x].take (i + 1)).flatten = _
            rw [List.take_add_one, hy]
            simp [pre]
          have eys : (SX.S y).cps.size = y.length := by simp [SX.S]
          have hpl : (pre i).length ≤ 2000 := by
            match i, hi with
            | 0, _ => simp [pre]
            | 1, _ => simp [pre]; omega
          refine ⟨rfl, ?_⟩
          refine ⟨_, rfl, SX.S y, rfl, ?_⟩
          refine lc2_in walk_str (fun j H' => Same H1 H' ∧ H' D2 = some (.lst ((pre i ++ y.take j).map fun c => V.bl (decide (c ∈ L))))) ⟨s2, by simpa using e2⟩ (fun _ _ _ _ => trivial) (fun j z H4 H5 hj pw yl2 => ?_) (fun H4 pw => ?_)
          · obtain ⟨s4, e4⟩ := pw
            obtain ⟨rfl, c, hc, rfl⟩ := yl2
            have hc' : y[j]? = some c := by simpa [SX.S] using hc
            obtain ⟨dx, v, e, hR⟩ := hM1.same s4
            refine ⟨rfl, ?_⟩
            refine ⟨_, rfl, _, rfl, p, dx, _, rfl, e, p, dx, _, _, rfl, e, mF_l _ _, ?_⟩
            refine ⟨c, _, rfl, rfl, _, e4, by rw [List.length_map, List.length_append, List.length_take, sizeLine_eq]; omega, Same.mut s4 hD2, ?_⟩
            rw [upd_same, List.take_add_one, hc', ← List.append_assoc, List.map_append (l₁ := pre i ++ y.take j)]
            rfl
          · rw [eys, List.take_of_length_le (Nat.le_refl _)] at pw
            rw [hpre]
            exact pw
        · obtain ⟨s2, e2⟩ := pv
          refine ⟨D2, (u ++ x).map fun c => decide (c ∈ L), rfl, SqL.of (by rw [e2]; show some (HO.lst ((u ++ (x ++ [])).map fun c => V.bl (decide (c ∈ L)))) = _; rw [List.append_nil, List.map_map]; rfl), ?_⟩
          rw [List.all_map]
          have z := q H2 (Same.trans s1 s2)
          rw [← hres] at z
          exact z
/-! ### what was seen: a lasso and a truth -/
abbrev Seen := (List Nat × List Nat) × Bool
def SeenAt (K : PySem.W.Frag) (H : Hp) (v : V) (e : Seen) : Prop := ∃ a t, v = .ref a ∧ SqT K H a [.ref t, .bl e.2] ∧ RopeAt K H t e.1.1 e.1.2 ∧ e.1.1.length ≤ 1000 ∧ e.1.2.length ≤ 1000
theorem SeenAt.mono {H H' : Hp} {v : V} {e : Seen} (s : Tups H H') (h : SeenAt K H v e) : SeenAt K H' v e := by
  obtain ⟨a, t, e1, h1, h2, h3⟩ := h
  exact ⟨a, t, e1, s.seq h1, s.seq h2, h3⟩
open Classical in
/-- the machine tells the truth that was seen -/
noncomputable def fitsOne (L : List Nat) (R : List Row) (e : Seen) : Bool := ropeOk e.1.1 e.1.2 L && (decide (Lies L R 0 (app e.1.1 (rep e.1.2))) == e.2)
theorem ropeOk_iff {u x L : List Nat} : ropeOk u x L = true ↔ x ≠ [] ∧ (∀ c ∈ u, c ∈ L) ∧ ∀ c ∈ x, c ∈ L := by
  unfold ropeOk
  simp only [Bool.and_eq_true, Bool.not_eq_true', decide_eq_false_iff_not, List.all_eq_true, decide_eq_true_eq, List.mem_append]
  exact ⟨fun ⟨a, b⟩ => ⟨a, fun c hc => b c (.inl hc), fun c hc => b c (.inr hc)⟩, fun ⟨a, b, c⟩ => ⟨a, fun d hd => hd.elim (b d) (c d)⟩⟩
def sp_does_fit (K : PySem.W.Frag) (mg : Str → Option Value) : Sp := fun vs H Q _ => ∃ (p a : Addr) (L : List Nat) (R : List Row) (xs : List V) (S : List Seen), vs = [.ref p, .ref a] ∧ Mach K mg H p L R ∧ Wf L R ∧ SqT K H a xs ∧ Paired (SeenAt K H) xs S ∧ S.length ≤ 1000 ∧ ∀ H', Same H H' → Q (.bl (S.all (fitsOne L R))) H'
theorem o_does_fit (T : Txt K mg) : Ok P w K mg base 6 "does_fit" ["machine", "seen"] (sp_does_fit K mg) := by
  refine ok_def T.d_does_fit sc_does_fit (fun _ _ _ _ _ _ us hl => match us, hl with | [_, _], _ => rfl) (fun vs H Q E h => ?_) (fun f cdv A outer s H vs Q E hr h => ?_)
  · obtain ⟨p, a, L, R, xs, S, rfl, _⟩ := h; rfl
  · obtain ⟨p, a, L, R, xs, S, rfl, hM, wf, hS, hP, hSl, q⟩ := h
    refine ⟨_, (pss_one (ps_ret (T.B.pAll (K := K) (pa_cons (pe_lc (own := [("lasso", 2), ("truth", 3)]) (g := gTup K 2 (gCons (gName 2) (gCons (gName 3) gNil))) (tt := tYes) rfl sc_does_fit.nd (pi_tupK (K := K) (pv 1)) (blkOk_by (own := [("lasso", 2), ("truth", 3)]) (N := ["machine", "seen", "lasso", "truth"]) (sc := defScope s_does_fit) (by decide +kernel)) (fun _ _ _ _ _ => (pg_tup rfl (pgs_cons (pg_name (i := 2) sc_does_fit.nd rfl (by first | exact .inl rfl | exact .inr rfl)) (pgs_cons (pg_name (i := 3) sc_does_fit.nd rfl (by first | exact .inl rfl | exact .inr rfl)) pgs_nil)))) (fun _ _ _ _ _ => pts_nil) (fun _ _ _ _ _ => (pe_and (pe_fn (o_is_rope T) (hr.mono (by decide)) (by rfl) (pa_cons (pv 0) (pa_cons (pv 2) pa_nil))) (pe_one (pe_cmpR op_eq (pe_fn (o_is_in T) (hr.mono (by decide)) (by rfl) (pa_cons (pv 0) (pa_cons (pv 2) pa_nil))) (pv 3) (nomark _)))))) pa_nil)))), ?_⟩
    have hxl : xs.length = S.length := Paired.length hP
    refine ⟨_, rfl, a, rfl, ⟨_, hS⟩, fun D hD => ?_⟩
    refine lc_val (walk_tup (xs := xs)) (S.map fun e => V.bl (fitsOne L R e)) (by rw [List.length_map, hxl]) (by omega) hD (fun _ s1 => Same.seqT s1 hS) (fun i z H1 H2 c Qe hb s1 yl k => ?_) (fun H1 s1 eD => ?_)
    · obtain ⟨rfl, hz⟩ := yl
      obtain ⟨e, he, hse⟩ := paired_get hP hz
      rw [List.getElem?_map, he] at hb
      cases hb
      obtain ⟨b, t, rfl, g1, g2, l1, l2⟩ := hse.mono (Same.tups s1)
      refine ⟨b, _, rfl, g1, rfl, _, _, rfl, _, _, rfl, rfl, rfl, ?_⟩
      refine ⟨_, rfl, _, rfl, p, t, L, R, e.1.1, e.1.2, rfl, hM.same s1, g2, l1, l2, fun H3 s3 => ?_⟩
      cases hro : ropeOk e.1.1 e.1.2 L with
      | false =>
        refine ⟨_, rfl, iteF ?_⟩
        have z : Qe (V.bl (fitsOne L R e)) H3 := k H3 s3
        rw [show fitsOne L R e = false by unfold fitsOne; rw [hro]; rfl] at z
        exact z
      | true =>
        obtain ⟨r1, r2, r3⟩ := ropeOk_iff.mp hro
        refine ⟨_, rfl, iteT ⟨_, rfl, _, rfl, p, t, L, R, e.1.1, e.1.2, rfl, (hM.same s1).same s3, wf, Same.seqT s3 g2, r2, r3, r1, by omega, by omega, fun b H4 s4 hb => ⟨_, rfl, rfl, ?_⟩⟩⟩
        have z : Qe (V.bl (fitsOne L R e)) H4 := k H4 (Same.trans s3 s4)
        have ez : fitsOne L R e = decide (V.bl b = V.bl e.2) := by
          unfold fitsOne
          rw [hro, Bool.true_and]
          have hdb : ∀ (d : Decidable (Lies L R 0 (app e.1.1 (rep e.1.2)))), @decide _ d = b := fun d => by
            rw [Bool.eq_iff_iff, hb]
            exact @decide_eq_true_iff _ d
          rw [hdb]
          cases b <;> cases e.2 <;> decide
        rw [ez] at z
        exact z
    · refine ⟨D, S.map (fitsOne L R), rfl, SqL.of (by rw [eD, List.map_map]; rfl), ?_⟩
      rw [List.all_map]
      exact q H1 s1
/-! ### fitting -/
def MachsAt (K : PySem.W.Frag) (mg : Str → Option Value) (H : Hp) (v : V) (m : List Nat × List Row) : Prop := ∃ p, v = .ref p ∧ Mach K mg H p m.1 m.2 ∧ Wf m.1 m.2
theorem MachsAt.same {H H' : Hp} {v : V} {m : List Nat × List Row} (s : Same H H') (h : MachsAt K mg H v m) : MachsAt K mg H' v m := by
  obtain ⟨p, e, h1, h2⟩ := h
  exact ⟨p, e, h1.same s, h2⟩
/-- the numbers below n that are right -/
def picked (f : Nat → Bool) (n : Nat) : List Nat := (List.range n).filter f
theorem picked_succ (f : Nat → Bool) (n : Nat) : picked f (n + 1) = picked f n ++ (if f n then [n] else []) := by
  unfold picked
  rw [List.range_succ, List.filter_append]
  congr 1
  cases h : f n <;> simp [h]
theorem picked_len (f : Nat → Bool) (n : Nat) : (picked f n).length ≤ n := by
  have := List.length_filter_le f (List.range n)
  rw [List.length_range] at this
  exact this
noncomputable def fitsAt (M : List (List Nat × List Row)) (S : List Seen) (i : Nat) : Bool := match M[i]? with
  | some m => S.all (fitsOne m.1 m.2)
  | none => false
def sp_fitting (K : PySem.W.Frag) (mg : Str → Option Value) : Sp := fun vs H Q _ => ∃ (a b : Addr) (ms xs : List V) (M : List (List Nat × List Row)) (S : List Seen), vs = [.ref a, .ref b] ∧ SqT K H a ms ∧ Paired (MachsAt K mg H) ms M ∧ SqT K H b xs ∧ Paired (SeenAt K H) xs S ∧ M.length ≤ 1000 ∧ S.length ≤ 1000 ∧ ∀ t H', Same H H' → SqT K H' t (natV (picked (fitsAt M S) M.length)) → Q (.ref t) H'
theorem o_fitting (T : Txt K mg) : Ok P w K mg base 7 "fitting" ["machines", "seen"] (sp_fitting K mg) := by
  refine ok_def T.d_fitting sc_fitting (fun _ _ _ _ _ _ us hl => match us, hl with | [_, _], _ => rfl) (fun vs H Q E h => ?_) (fun f cdv A outer s H vs Q E hr h => ?_)
  · obtain ⟨a, b, ms, xs, M, S, rfl, _⟩ := h; rfl
  · obtain ⟨a, b, ms, xs, M, S, rfl, hA, hPM, hB, hPS, hMl, hSl, q⟩ := h
    refine ⟨_, (pss_one (ps_ret (T.B.pTuple (K := K) (pa_cons (pe_lc (own := [("index", 2), ("machine", 3)]) (g := gTup K 2 (gCons (gName 2) (gCons (gName 3) gNil))) rfl sc_fitting.nd (pi_enumK (K := K) T.B.enumerate_ (pa_cons (pv 0) pa_nil)) (blkOk_by (own := [("index", 2), ("machine", 3)]) (N := ["machines", "seen", "index", "machine"]) (sc := defScope s_fitting) (by decide +kernel)) (fun _ _ _ _ _ => (pg_tup rfl (pgs_cons (pg_name (i := 2) sc_fitting.nd rfl (by first | exact .inl rfl | exact .inr rfl)) (pgs_cons (pg_name (i := 3) sc_fitting.nd rfl (by first | exact .inl rfl | exact .inr rfl)) pgs_nil)))) (fun _ _ _ _ _ => (pts_one (pt_val (pe_fn (o_does_fit T) (hr.mono (by decide)) (by rfl) (pa_cons (pv 3) (pa_cons (pv 1) pa_nil)))))) (fun _ _ _ _ _ => (pv 2))) pa_nil)))), ?_⟩
    have hml : ms.length = M.length := Paired.length hPM
    refine ⟨_, rfl, .tup a ms, rfl, hA, fun D hD => ?_⟩
    refine lc_it walk_enumG (fun i H' => Same H H' ∧ H' D = some (.lst (natV (picked (fitsAt M S) i)))) ⟨Same.new hD, upd_same⟩ (fun i H' _ pv => Same.seqT pv.1 hA) (fun i z H1 H2 hi pv yl => ?_) (fun H1 pv => ?_)
    · obtain ⟨s1, e1⟩ := pv
      obtain ⟨TT, x1, x2, rfl, nT, rfl, ex1, ex2⟩ := yl
      cases ex1
      have ex2' : ms[i]? = some x2 := ex2
      obtain ⟨m, hm, hmat⟩ := paired_get hPM ex2'
      have s3 := Same.trans s1 (Same.new (o := .tup [.int (i : Nat), x2]) nT)
      have e3 : (upd H1 TT (.tup [.int (i : Nat), x2])) D = some (.lst (natV (picked (fitsAt M S) i))) := by rw [upd_ne (ne_of_none e1 nT)]; exact e1
      have hiM : i < M.length := (List.getElem?_eq_some_iff.mp hm).1
      obtain ⟨p, rfl, hMp, wf⟩ := hmat.same s3
      have hfa : fitsAt M S i = S.all (fitsOne m.1 m.2) := by unfold fitsAt; rw [hm]
      refine ⟨TT, _, rfl, SqT.of upd_same, rfl, _, _, rfl, _, _, rfl, rfl, rfl, ?_⟩
      refine ⟨_, rfl, _, rfl, p, b, m.1, m.2, xs, S, rfl, hMp, wf, Same.seqT s3 hB, L2.Paired.mapP hPS fun _ _ z => z.mono (Same.tups s3), hSl, fun H4 s4 => ⟨_, rfl, ?_⟩⟩
      have e4 := s4 _ _ e3
      cases hf : S.all (fitsOne m.1 m.2) with
      | true =>
        refine iteT ⟨_, rfl, _, e4, ?_, Same.mut (Same.trans s3 s4) hD, ?_⟩
        · have := picked_len (fitsAt M S) i
          rw [natV_len, sizeLine_eq]; omega
        · rw [upd_same, picked_succ, hfa, hf, natV_app]; rfl
      | false =>
        refine iteF ⟨Same.trans s3 s4, ?_⟩
        rw [e4, picked_succ, hfa, hf]; simp
    · obtain ⟨s1, e1⟩ := pv
      have hn : (Src.tup a ms).items.length = M.length := hml
      rw [hn] at e1
      exact ⟨D, _, rfl, .inl ⟨SqL.of e1, fun t nt => q t _ (Same.trans s1 (Same.new nt)) (SqT.of upd_same)⟩⟩
end
end GH
namespace GH
open PySem PySem.Spec PyProof.Rows L2
section
variable {P : Program} {w : World} {K : PySem.W.Frag} {mg : Str → Option Value} {base : Heap}
theorem dp_signs {H : Hp} : ∀ l : List Nat, DpAll K H (l.map fun c => V.str ⟨#[c]⟩) (l.map fun c => PyData.str ⟨#[c]⟩)
  | [] => .nil
  | _ :: r => .cons (.str _) (dp_signs r)
theorem eqv_nil : ∀ ds : List PyData, PyData.eqv (.list ds) (.list []) = decide (ds = [])
  | [] => by simp [PyData.eqv, PyData.eqvAll]
  | a :: r => by simp [PyData.eqv, PyData.eqvAll]
theorem lay_signs : ∀ l : List Nat, (∀ c ∈ l, c < 200) → PyData.canLayAll0 (l.map fun c => PyData.str ⟨#[c]⟩) = true ∧ PyData.depthAll (l.map fun c => PyData.str ⟨#[c]⟩) = 0
  | [], _ => by simp [PyData.canLayAll0, PyData.depthAll]
  | a :: r, h => by
    have ih := lay_signs r fun c hc => h c (List.mem_cons_of_mem _ hc)
    have ha : PyData.strOk ⟨#[a]⟩ = true := by
      have := h a List.mem_cons_self
      simp [PyData.strOk]
      omega
    simp [PyData.canLayAll0, PyData.depthAll, PyData.canLay0, PyData.depth, ih.1, ih.2, ha]
theorem shaped_signs (l : List Nat) (hl : ∀ c ∈ l, c < 200) : SeqAt.shaped (.list (l.map fun c => PyData.str ⟨#[c]⟩)) = true := by
  have h := lay_signs l hl
  unfold SeqAt.shaped
  simp [PyData.canLay0, PyData.depth, h.1, h.2]
def sp__law_is_rope (K : PySem.W.Frag) : Sp := fun vs H Q _ => ∃ (a0 t : Addr) (L : List Nat) (R : List Row) (u x : List Nat), vs = [.ref a0, .ref t] ∧ ToolAt K H a0 L R ∧ RopeAt K H t u x ∧ u.length ≤ 200 ∧ x.length ≤ 200 ∧ (∀ c ∈ u ++ x, c < 200) ∧ ∀ H', Same H H' → Q (.bl (ropeOk u x L)) H'
theorem o__law_is_rope (T : Txt K mg) : Ok P w K mg base 3 "_law_is_rope" ["_law_tool_here", "_law_told"] (sp__law_is_rope K) := by
  refine ok_def T.d__law_is_rope sc__law_is_rope (fun _ _ _ _ _ _ us hl => match us, hl with | [_, _], _ => rfl) (fun vs H Q E h => ?_) (fun f cdv A outer s H vs Q E hr h => ?_)
  · obtain ⟨p, t, L, R, u, x, rfl, _⟩ := h; rfl
  · obtain ⟨a0, t, L, R, u, x, rfl, hT, hS, hul, hxl, hsm, q⟩ := h
    refine ⟨_, (pss_cons (ps_if (PW.pt (pw_or (pt_not (pt_val (T.B.pIsinstance (K := K) (pa_cons (pv 1) (pa_cons (pe_type T.B.tuple_ PyProof.Rows.boot_tuple) pa_nil))))) (pw_or (pt_cmpR op_ne (T.B.pLen (K := K) (pa_cons (pv 1) pa_nil)) pe_int (nomark _)) (pw_or (pt_not (pt_val (T.B.pIsinstance (K := K) (pa_cons (pe_ix (ix_tupK (K := K)) (pv 1) pe_int (fun _ _ => rfl)) (pa_cons (pe_type T.B.str_ PyProof.Rows.boot_str) pa_nil))))) (pw_or1 (pt_not (pt_val (T.B.pIsinstance (K := K) (pa_cons (pe_ix (ix_tupK (K := K)) (pv 1) pe_int (fun _ _ => rfl)) (pa_cons (pe_type T.B.str_ PyProof.Rows.boot_str) pa_nil))))))))))
      (pss_one (ps_ret pe_bl))
      pss_nil)
    (pss_cons (ps_if (PW.pt (pw_or (pt_cmpR op_eq (pe_ix (ix_tupK (K := K)) (pv 1) pe_int (fun _ _ => rfl)) pe_str (nomark _)) (pw_or (pt_cmpR op_gt (T.B.pLen (K := K) (pa_cons (pe_ix (ix_tupK (K := K)) (pv 1) pe_int (fun _ _ => rfl)) pa_nil)) pe_int (nomark _)) (pw_or1 (pt_cmpR op_gt (T.B.pLen (K := K) (pa_cons (pe_ix (ix_tupK (K := K)) (pv 1) pe_int (fun _ _ => rfl)) pa_nil)) pe_int (nomark _))))))
      (pss_one (ps_ret pe_bl))
      pss_nil)
    (pss_one (ps_ret (pe_cmpR (op_eqDK (K := K) hr.units) (pe_lc (own := [("_law_letter", 2)]) (g := gName 2) rfl sc__law_is_rope.nd (pi_str (pe_op op_add_str (pe_ix (ix_tupK (K := K)) (pv 1) pe_int (fun _ _ => rfl)) (pe_ix (ix_tupK (K := K)) (pv 1) pe_int (fun _ _ => rfl)))) (blkOk_by (own := [("_law_letter", 2)]) (N := ["_law_tool_here", "_law_told", "_law_letter"]) (sc := defScope s__law_is_rope) (by decide +kernel)) (fun _ _ _ _ _ => (pg_name (i := 2) sc__law_is_rope.nd rfl (by first | exact .inl rfl | exact .inr rfl))) (fun _ _ _ _ _ => (pts_one (pt_cmpR op_notIn_sign (pv 2) (pe_ix (ix_listK (K := K)) (pv 0) pe_int (fun _ _ => rfl)) (by rfl)))) (fun _ _ _ _ _ => (pv 2))) (pe_lst pa_nil) (nomark _)))))), ?_⟩
    refine ⟨_, rfl, _, _, _, _, _, rfl, .ty _, ty_tup hS, kit_ty (r := true) (by decide +kernel), _, rfl, iteF ?_⟩
    refine ⟨_, rfl, _, 2, rfl, .inr ⟨_, hS, rfl⟩, rfl, _, rfl, ?_⟩
    refine iteFc ne_V ?_
    refine ⟨_, rfl, t, _, 0, _, rfl, rfl, hS, rfl, _, _, _, _, _, rfl, .ty _, .base (.str _), kit_ty (r := true) (by decide +kernel), _, rfl, iteF ?_⟩
    refine ⟨_, rfl, t, _, 1, _, rfl, rfl, hS, rfl, _, _, _, _, _, rfl, .ty _, .base (.str _), kit_ty (r := true) (by decide +kernel), _, rfl, iteF ?_⟩
    refine ⟨_, rfl, t, _, 1, _, rfl, rfl, hS, rfl, rfl, _, rfl, ?_⟩
    by_cases hx0 : x = []
    · subst hx0
      refine iteTc (decide_eq_true (by rfl)) ?_
      exact iteT (q H (Same.refl _))
    · refine iteFc (decide_eq_false (fun z => hx0 (SX.S_inj (V.str.inj z)))) ?_
      refine ⟨_, rfl, t, _, 0, _, rfl, rfl, hS, rfl, _, u.length, rfl, ⟨sl_len (by omega), (SX.S_len u).symm⟩, _, _, rfl, rfl, _, rfl, ?_⟩
      refine iteFc (decide_eq_false (show ¬ ((u.length : Nat) : Int) > (200 : Int) by omega)) ?_
      refine ⟨_, rfl, t, _, 1, _, rfl, rfl, hS, rfl, _, x.length, rfl, ⟨sl_len (by omega), (SX.S_len x).symm⟩, _, _, rfl, rfl, _, rfl, ?_⟩
      refine iteFc (decide_eq_false (show ¬ ((x.length : Nat) : Int) > (200 : Int) by omega)) ?_
      refine ⟨_, rfl, t, _, 0, _, rfl, rfl, hS, rfl, _, rfl, t, _, 1, _, rfl, rfl, hS, rfl, SX.S u, SX.S x, rfl, rfl, add_len (by omega) (by omega), ?_⟩
      rw [SX.S_cat]
      refine ⟨SX.S (u ++ x), rfl, fun D hD => ?_⟩
      have exs : (SX.S (u ++ x)).cps.size = (u ++ x).length := by simp [SX.S]
      refine lc_it walk_str (fun i H' => Same H H' ∧ H' D = some (.lst ((((u ++ x).take i).filter fun c => !decide (c ∈ L)).map fun c => V.str ⟨#[c]⟩))) ⟨Same.new hD, upd_same⟩ (fun _ _ _ _ => trivial) (fun i z H1 H2 hi pv yl => ?_) (fun H1 pv => ?_)
      · obtain ⟨s1, e1⟩ := pv
        obtain ⟨rfl, c, hc, rfl⟩ := yl
        have hc' : (u ++ x)[i]? = some c := by simpa [SX.S] using hc
        obtain ⟨v, et, hR⟩ := hT.same s1
        refine ⟨rfl, _, rfl, _, rfl, a0, _, 0, _, rfl, rfl, SqL.of et, rfl, c, _, rfl, rfl, _, rfl, ?_⟩
        by_cases hcL : c ∈ L
        · refine iteFc (by rw [decide_eq_true hcL]; rfl) ⟨s1, ?_⟩
          rw [e1, List.take_add_one, hc', List.filter_append]
          simp [hcL]
        · refine iteTc (by rw [decide_eq_false hcL]; rfl) ⟨_, rfl, _, e1, ?_, Same.mut s1 hD, ?_⟩
          · rw [List.length_map]
            have h1 := List.length_filter_le (fun c => !decide (c ∈ L)) ((u ++ x).take i)
            rw [List.length_take, List.length_append] at h1
            rw [sizeLine_eq]; omega
          · rw [upd_same, List.take_add_one, hc', List.filter_append, List.map_append]
            simp [hcL]
      · obtain ⟨s1, e1⟩ := pv
        rw [exs, List.take_of_length_le (Nat.le_refl _)] at e1
        refine ⟨Nat.zero_le _, fun l nl => ⟨_, _, .lst (SqL.of (Same.new nl _ _ e1)) (dp_signs _), .lst (SqL.of upd_same) .nil, shaped_signs _ (fun c hc => hsm c (List.mem_filter.mp hc).1), by decide +kernel, ?_⟩⟩
        rw [eqv_nil]
        have z := q _ (Same.trans s1 (Same.new (o := .lst []) nl))
        rw [show ropeOk u x L = decide (((u ++ x).filter fun c => !decide (c ∈ L)).map (fun c => PyData.str ⟨#[c]⟩) = []) by
          unfold ropeOk
          rw [decide_eq_false hx0, Bool.eq_iff_iff]
          simp] at z
        exact z
/-! ### the tools -/
abbrev Tl := List Nat × List Row
def TlAt (K : PySem.W.Frag) (H : Hp) (v : V) (m : Tl) : Prop := ∃ a, v = .ref a ∧ ToolAt K H a m.1 m.2 ∧ Wf m.1 m.2
theorem TlAt.same {H H' : Hp} {v : V} {m : Tl} (s : Same H H') (h : TlAt K H v m) : TlAt K H' v m := by
  obtain ⟨a, e, h1, h2⟩ := h
  exact ⟨a, e, h1.same s, h2⟩
/-- no text in front -/
def Plain (ys : List V) : Prop := ∀ s r, ys ≠ V.str s :: r
theorem ToolAt.ne {H : Hp} {a x : Addr} {L : List Nat} {R : List Row} {ys : List V} (h : ToolAt K H a L R) (e : H x = some (.lst ys)) (n : Plain ys) : a ≠ x := by
  obtain ⟨v, ea, _⟩ := h
  intro z
  rw [z, e] at ea
  cases ea
  exact n _ _ rfl
theorem BagAt.plain {H : Hp} {b : Addr} (h : BagAt H b) : ∃ ys, H b = some (.lst ys) ∧ Plain ys := by
  obtain ⟨g, s, n, e, _⟩ := h
  exact ⟨_, e, fun _ _ z => by cases z⟩
theorem plain_tools {H : Hp} : ∀ {vs : List V} {M : List Tl}, Paired (TlAt K H) vs M → Plain vs
  | _, _, .nil => fun _ _ z => by cases z
  | _, _, .cons ⟨_, e, _⟩ _ => fun _ _ z => by rw [e] at z; cases z
theorem plain_seen {H : Hp} : ∀ {vs : List V} {S : List Seen}, Paired (SeenAt K H) vs S → Plain vs
  | _, _, .nil => fun _ _ z => by cases z
  | _, _, .cons ⟨_, _, e, _⟩ _ => fun _ _ z => by rw [e] at z; cases z
/-- a list that is not a tool's changes -/
theorem ToolAt.put {H : Hp} {a x : Addr} {L : List Nat} {R : List Row} {ys zs : List V} (h : ToolAt K H a L R) (e : H x = some (.lst ys)) (n : Plain ys) : ToolAt K (upd H x (.lst zs)) a L R := by
  have hn := h.ne e n
  obtain ⟨v, ea, hr⟩ := h
  refine ⟨v, by rw [upd_ne hn]; exact ea, hr.mono ⟨fun b xs eb => ?_, fun b o u eb => ?_⟩⟩
  · rw [upd_ne (fun z => by rw [z, e] at eb; cases eb)]; exact eb
  · rw [upd_ne (fun z => by rw [z, e] at eb; cases eb)]; exact eb
theorem TlAt.put {H : Hp} {v : V} {m : Tl} {x : Addr} {ys zs : List V} (h : TlAt K H v m) (e : H x = some (.lst ys)) (n : Plain ys) : TlAt K (upd H x (.lst zs)) v m := by
  obtain ⟨a, ev, h1, h2⟩ := h
  exact ⟨a, ev, h1.put e n, h2⟩
theorem TlAt.but {H H' : Hp} {v : V} {m : Tl} {b : Addr} (hb : BagAt H b) (s : Besides b H H') (h : TlAt K H v m) : TlAt K H' v m := by
  obtain ⟨a, ev, h1, h2⟩ := h
  obtain ⟨ys, e, n⟩ := hb.plain
  exact ⟨a, ev, h1.but hb s (h1.ne e n), h2⟩
theorem tups_put {H : Hp} {x : Addr} {ys zs : List V} (e : H x = some (.lst ys)) : Tups H (upd H x (.lst zs)) := by
  refine ⟨fun b xs eb => ?_, fun b o u eb => ?_⟩
  · rw [upd_ne (fun z => by rw [z, e] at eb; cases eb)]; exact eb
  · rw [upd_ne (fun z => by rw [z, e] at eb; cases eb)]; exact eb
theorem MachsAt.put {H : Hp} {v : V} {m : List Nat × List Row} {x : Addr} {ys zs : List V} (h : MachsAt K mg H v m) (e : H x = some (.lst ys)) : MachsAt K mg (upd H x (.lst zs)) v m := by
  obtain ⟨p, ev, ⟨dx, r, ep, hr⟩, wf⟩ := h
  exact ⟨p, ev, ⟨dx, r, by rw [upd_ne (fun z => by rw [z, e] at ep; cases ep)]; exact ep, hr.mono (tups_put e)⟩, wf⟩
def menu33 : List (List Nat) := [[97, 98], [97, 98], [97, 98], [97, 98, 99], [98]]
theorem menu33_ok : ∀ L ∈ menu33, lettersOk L = true := by decide +kernel
theorem menu33_eq : ([V.str (Str.ofString "ab"), V.str (Str.ofString "ab"), V.str (Str.ofString "ab"), V.str (Str.ofString "abc"), V.str (Str.ofString "b")] : List V) = menu33.map fun L => V.str (SX.S L) := by decide +kernel
theorem letters_small {L : List Nat} (h : lettersOk L = true) : ∀ c ∈ L, c < 200 := by
  intro c hc
  unfold lettersOk wordOk at h
  simp only [Bool.and_eq_true, List.all_eq_true, decide_eq_true_eq] at h
  have h1 := h.1.2 c hc
  unfold abcL at h1
  obtain ⟨i, hi, rfl⟩ := List.mem_map.mp h1
  have : i < 26 := by simpa using hi
  omega
def sp__law_right : Sp := fun vs H Q _ => ∃ b, vs = [.ref b] ∧ BagAt H b ∧ ∀ H', Besides b H H' → Q (.bl true) H'
theorem o__law_right (T : Txt K mg) : OkG P w K mg base 9 "_law_right" ["_law_purse_here"] sp__law_right := by
  refine okG_def T.d__law_right sc__law_right (fun _ _ _ _ _ _ us hl => match us, hl with | [_], _ => rfl) (fun vs H Q E h => ?_) (fun f cdv A outer s H vs Q E gd hr h => ?_)
  · obtain ⟨b, rfl, _⟩ := h; rfl
  · obtain ⟨b, rfl, hb, q⟩ := h
    refine ⟨_, (pss_cons (ps_set (i := 1) sc__law_right.nd rfl (by first | exact .inl rfl | exact .inr rfl) (pe_lst pa_nil))
    (pss_cons (ps_for PassesOwn.never rfl (pi_range1 (by rfl) T.B.range_ (pa_cons (pe_op op_add pe_int (pe_fn (o__law_draw T) (hr.mono (by decide)) (by rfl) (pa_cons (pv 0) (pa_cons pe_int pa_nil)))) pa_nil)) (pg_name (i := 2) sc__law_right.nd rfl (by first | exact .inl rfl | exact .inr rfl))
      (pss_one (ps_expr (pe_bmK (K := K) PySem.F.plainAttrs_list PySem.F.slot_list_append PySem.F.type_list_append mt_append (pv 1) (pa_cons (pe_fn (o__law_tool T) (hr.mono (by decide)) (by rfl) (pa_cons (pv 0) (pa_cons (pe_fn (o__law_pick T) (hr.mono (by decide)) (by rfl) (pa_cons (pv 0) (pa_cons (pe_lst (pa_cons pe_str (pa_cons pe_str (pa_cons pe_str (pa_cons pe_str (pa_cons pe_str pa_nil)))))) pa_nil))) (pa_cons pe_int (pa_cons pe_int pa_nil))))) pa_nil)))))
    (pss_cons (ps_par (i := 3) (j := 4) rfl sc__law_right.nd rfl rfl (by decide) rfl rfl (pa_cons (pe_fn (o__law_pick T) (hr.mono (by decide)) (by rfl) (pa_cons (pv 0) (pa_cons (pv 1) pa_nil))) (pa_cons (pe_lst pa_nil) pa_nil)) rfl)
    (pss_cons (ps_for PassesOwn.never rfl (pi_range1 (by rfl) T.B.range_ (pa_cons (pe_fn (o__law_draw T) (hr.mono (by decide)) (by rfl) (pa_cons (pv 0) (pa_cons pe_int pa_nil))) pa_nil)) (pg_name (i := 2) sc__law_right.nd rfl (by first | exact .inl rfl | exact .inr rfl))
      (pss_cons (ps_set (i := 5) sc__law_right.nd rfl (by first | exact .inl rfl | exact .inr rfl) (pe_fn (o__law_rope T) (hr.mono (by decide)) (by rfl) (pa_cons (pv 0) (pa_cons (pe_ix (ix_listK (K := K)) (pv 3) pe_int (fun _ _ => rfl)) pa_nil))))
        (pss_cons (ps_set (i := 6) sc__law_right.nd rfl (by first | exact .inl rfl | exact .inr rfl) (pe_ifExp (pt_cmpR op_gt (pe_fn (o__law_draw T) (hr.mono (by decide)) (by rfl) (pa_cons (pv 0) (pa_cons pe_int pa_nil))) pe_int (nomark _)) (pe_fn (o__law_is_in T) (hr.mono (by decide)) (by rfl) (pa_cons (pv 3) (pa_cons (pv 5) pa_nil))) (pe_cmpR op_eq (pe_fn (o__law_draw T) (hr.mono (by decide)) (by rfl) (pa_cons (pv 0) (pa_cons pe_int pa_nil))) pe_int (nomark _))))
        (pss_one (ps_expr (pe_bmK (K := K) PySem.F.plainAttrs_list PySem.F.slot_list_append PySem.F.type_list_append mt_append (pv 4) (pa_cons (pe_tup (pa_cons (pv 5) (pa_cons (pv 6) pa_nil))) pa_nil)))))))
    (pss_cons (ps_set (i := 7) sc__law_right.nd rfl (by first | exact .inl rfl | exact .inr rfl) (pe_lst pa_nil))
    (pss_cons (ps_for PassesOwn.never rfl (pi_range1 (by rfl) T.B.range_ (pa_cons (T.B.pLen (K := K) (pa_cons (pv 1) pa_nil)) pa_nil)) (pg_name (i := 8) sc__law_right.nd rfl (by first | exact .inl rfl | exact .inr rfl))
      (pss_cons (ps_setLc (i := 9) (own := [("_law_rope_here", 5), ("_law_truth", 6)]) (g := gTup K 2 (gCons (gName 5) (gCons (gName 6) gNil))) (tt := tYes) rfl sc__law_right.nd rfl rfl (sw_true rfl rfl rfl (by decide +kernel)) (pi_listK (K := K) (pv 4)) (blkOk_by (own := [("_law_rope_here", 5), ("_law_truth", 6)]) (N := ["_law_purse_here", "_law_tools_here", "_law_turn", "_law_tool_here", "_law_seen", "_law_rope_here", "_law_truth", "_law_due", "_law_k", "_law_fits", "_law_made_here", "_law_told", "_law_each"]) (sc := defScope s__law_right) (by decide +kernel)) (fun _ _ _ _ _ => (pg_tup rfl (pgs_cons (pg_name (i := 5) sc__law_right.nd rfl (by first | exact .inl rfl | exact .inr rfl)) (pgs_cons (pg_name (i := 6) sc__law_right.nd rfl (by first | exact .inl rfl | exact .inr rfl)) pgs_nil)))) (fun _ _ _ _ _ => pts_nil) (fun _ _ _ _ _ => (pe_and (pe_fn (o__law_is_rope T) (hr.mono (by decide)) (by rfl) (pa_cons (pe_ix (ix_listK (K := K)) (pv 1) (pv 8) (fun _ _ => rfl)) (pa_cons (pv 5) pa_nil))) (pe_one (pe_cmpR op_eq (pe_fn (o__law_is_in T) (hr.mono (by decide)) (by rfl) (pa_cons (pe_ix (ix_listK (K := K)) (pv 1) (pv 8) (fun _ _ => rfl)) (pa_cons (pv 5) pa_nil))) (pv 6) (nomark _))))))
        (pss_one (ps_set (i := 7) sc__law_right.nd rfl (by first | exact .inl rfl | exact .inr rfl) (pe_op op_cat (pv 7) (pe_ifExp (pt_val (T.B.pAll (K := K) (pa_cons (pv 9) pa_nil))) (pe_lst (pa_cons (pv 8) pa_nil)) (pe_lst pa_nil)))))))
    (pss_cons (ps_set (i := 10) sc__law_right.nd rfl (by first | exact .inl rfl | exact .inr rfl) (T.B.pTuple (K := K) (pa_cons (pe_lc (own := [("_law_each", 12)]) (g := gName 12) (tt := tYes) rfl sc__law_right.nd (pi_listK (K := K) (pv 1)) (blkOk_by (own := [("_law_each", 12)]) (N := ["_law_purse_here", "_law_tools_here", "_law_turn", "_law_tool_here", "_law_seen", "_law_rope_here", "_law_truth", "_law_due", "_law_k", "_law_fits", "_law_made_here", "_law_told", "_law_each"]) (sc := defScope s__law_right) (by decide +kernel)) (fun _ _ _ _ _ => (pg_name (i := 12) sc__law_right.nd rfl (by first | exact .inl rfl | exact .inr rfl))) (fun _ _ _ _ _ => pts_nil) (fun _ _ _ _ _ => (pe_fn (o__law_made T) (hr.mono (by decide)) (by rfl) (pa_cons (pv 12) pa_nil)))) pa_nil)))
    (pss_cons (ps_set (i := 11) sc__law_right.nd rfl (by first | exact .inl rfl | exact .inr rfl) (pe_lst (pa_cons (pe_fn (o_fitting T) (hr.mono (by decide)) (by rfl) (pa_cons (pv 10) (pa_cons (T.B.pTuple (K := K) (pa_cons (pv 4) pa_nil)) pa_nil))) (pa_cons (pe_fnK (g := swp) (ks := ["seen", "machines"]) T.d_fitting (o_fitting T) (hr.mono (by decide)) (by rfl) (pk_cons (T.B.pTuple (K := K) (pa_cons (pv 4) pa_nil)) (pk_cons (pv 10) pk_nil)) swp_rel (fun _ _ _ _ _ _ => swp_ok fun _ _ => rfl)) pa_nil))))
    (pss_cons (ps_if (pt_cmpR op_ne (pe_repr (K := K) T.B.repr_ gd hr (pa_cons (pv 11) pa_nil)) (pe_repr (K := K) T.B.repr_ gd hr (pa_cons (pe_lst (pa_cons (T.B.pTuple (K := K) (pa_cons (pv 7) pa_nil)) (pa_cons (T.B.pTuple (K := K) (pa_cons (pv 7) pa_nil)) pa_nil))) pa_nil)) (nomark _))
      (pss_one (ps_ret pe_bl))
      pss_nil)
    (pss_one (ps_ret (pe_cmpR op_eq (pe_repr (K := K) T.B.repr_ gd hr (pa_cons (pe_lst (pa_cons (pe_fn (o_fitting T) (hr.mono (by decide)) (by rfl) (pa_cons (pv 10) (pa_cons (pe_tup pa_nil) pa_nil))) (pa_cons (pe_fn (o_fitting T) (hr.mono (by decide)) (by rfl) (pa_cons (pe_tup pa_nil) (pa_cons (T.B.pTuple (K := K) (pa_cons (pv 4) pa_nil)) pa_nil))) pa_nil))) pa_nil)) (pe_repr (K := K) T.B.repr_ gd hr (pa_cons (pe_lst (pa_cons (pe_tupRg rfl (by rfl) T.B.tuple_ (prg_1 (by rfl) T.B.range_ (T.B.pLen (K := K) (pa_cons (pv 10) pa_nil)))) (pa_cons (pe_tup pa_nil) pa_nil))) pa_nil)) (nomark _))))))))))))), ?_⟩
    refine ⟨Nat.zero_le _, fun o no => ?_⟩
    have nob : o ≠ b := hb.ne no
    refine ⟨_, rfl, b, 6, rfl, hb.upd nob, by decide, by decide, fun d H1 hd b1 s1 => ?_⟩
    have eo1 : H1 o = some (.lst []) := s1 o _ nob upd_same
    have s01 : Besides b H H1 := fun x u hx e => s1 x u hx (by rw [upd_ne (ne_of_none e no)]; exact e)
    refine ⟨_, _, rfl, rfl, 1 + (d : Nat), rfl, by omega, by omega, ?_⟩
    rw [show ((1 : Int) + ((d : Nat) : Int)).toNat = d + 1 by omega]
    refine for_range (fun i σ H' => ∃ y2, σ = [some (.ref b), some (.ref o), y2, none, none, none, none, none, none, none, none, none, none] ∧ BagAt H' b ∧ Besides b H H' ∧ ∃ vs M, H' o = some (.lst vs) ∧ Paired (TlAt K H') vs M ∧ M.length = i) ⟨none, rfl, b1, s01, [], [], eo1, .nil, rfl⟩ ?_ ?_
    · rintro i σ H2 hi ⟨y2, rfl, b2, s2, vs, M, eo2, hPM, hMl⟩
      refine ⟨_, rfl, .inl ⟨rfl, _, SqL.of eo2⟩, _, rfl, _, rfl, by show 5 ≤ sizeLine; decide, fun l nl => ?_⟩
      have nlb : l ≠ b := b2.ne nl
      refine ⟨b, l, _, rfl, b2.upd nlb, SqL.of upd_same, nlb, by simp, by simp, fun x H4 hx b4 s4 => ?_⟩
      rw [menu33_eq] at hx
      obtain ⟨L, hL, rfl⟩ := List.mem_map.mp hx
      have s24 : Besides b H2 H4 := fun x u hx e => s4 x u hx (by rw [upd_ne (ne_of_none e nl)]; exact e)
      refine ⟨b, L, 5, 4, rfl, b4, menu33_ok L hL, by decide, by decide, by decide, fun a R H5 na hT wf hRl hRt b5 s5 => ?_⟩
      have s25 : Besides b H2 H5 := Besides.trans s24 s5
      have eo5 : H5 o = some (.lst vs) := s25 o _ nob eo2
      refine ⟨o, _, _, rfl, rfl, eo5, by rw [Paired.length hPM, hMl, sizeLine_eq]; omega, _, rfl, b5.upd nob, fun x u hx ex => ?_, vs ++ [.ref a], M ++ [(L, R)], upd_same, ?_, by simp [hMl]⟩
      · rw [upd_ne (ne_of_none ex no)]
        exact s25 x u hx (s2 x u hx ex)
      · have pl := plain_tools hPM
        exact paired_snoc (L2.Paired.mapP hPM fun _ _ z => (z.but b2 s25).put eo5 pl) (TlAt.put ⟨a, rfl, hT, wf⟩ eo5 pl)
    · rintro σ H2 ⟨y2, rfl, b2, s2, vs, M, eo2, hPM, hMl⟩
      have hvl : vs.length = d + 1 := by rw [Paired.length hPM, hMl]
      have hvne : vs ≠ [] := fun z => by
        rw [z] at hvl
        cases hvl
      refine ⟨_, rfl, _, rfl, b, o, vs, rfl, b2, SqL.of eo2, nob, hvne, by omega, fun x H3 hx b3 s3 => ?_⟩
      obtain ⟨ix, hix⟩ := List.getElem?_of_mem hx
      obtain ⟨m0, hm0, a0, rfl, _, _⟩ := paired_get hPM hix
      refine ⟨Nat.zero_le _, fun sn nsn => ⟨_, _, rfl, ?_⟩⟩
      have nsb : sn ≠ b := b3.ne nsn
      have eo3 : H3 o = some (.lst vs) := s3 o _ nob eo2
      have nso : o ≠ sn := ne_of_none eo3 nsn
      have hPM3 : Paired (TlAt K (upd H3 sn (.lst []))) vs M := L2.Paired.mapP hPM fun _ _ z => (z.but b2 s3).same (Same.new nsn)
      have n0 : H sn = none := by
        cases z : H sn with
        | none => rfl
        | some u => have := s3 sn u nsb (s2 sn u nsb z); rw [nsn] at this; cases this
      have s03 : Besides b H (upd H3 sn (.lst [])) := Besides.new (Besides.trans s2 s3) nsn
      refine ⟨_, rfl, b, 5, rfl, b3.upd nsb, by decide, by decide, fun d2 H4 hd2 b4 s4 => ?_⟩
      have esn4 : H4 sn = some (.lst []) := s4 sn _ nsb upd_same
      have eo4 : H4 o = some (.lst vs) := s4 o _ nob (by rw [upd_ne nso]; exact eo3)
      refine ⟨(d2 : Nat), rfl, by omega, by omega, ?_⟩
      rw [show ((d2 : Nat) : Int).toNat = d2 by omega]
      refine for_range (fun i σ H' => ∃ y2 y5 y6, σ = [some (.ref b), some (.ref o), y2, some (.ref a0), some (.ref sn), y5, y6, none, none, none, none, none, none] ∧ BagAt H' b ∧ Besides b H H' ∧ H' o = some (.lst vs) ∧ Paired (TlAt K H') vs M ∧ ∃ xs S, H' sn = some (.lst xs) ∧ Paired (SeenAt K H') xs S ∧ S.length = i ∧ ∀ e ∈ S, (∀ c ∈ e.1.1 ++ e.1.2, c < 200) ∧ e.1.1.length ≤ 200 ∧ e.1.2.length ≤ 200)
        ⟨_, none, none, rfl, b4, Besides.trans s03 s4, eo4, L2.Paired.mapP hPM3 fun _ _ z => z.but (b3.upd nsb) s4, [], [], esn4, .nil, rfl, by simp⟩ ?_ ?_
      · rintro i σ H5 hi ⟨y2', y5, y6, rfl, b5, s5, eo5, hPM5, xs, S, esn5, hPS, hSl, hSs⟩
        obtain ⟨m1, hm1, a1, ea1, hT1, wf1⟩ := paired_get hPM5 hix
        cases ea1
        obtain ⟨hL0, hL3⟩ := wf1.len
        obtain ⟨v1, et1, _⟩ := id hT1
        refine ⟨_, rfl, _, rfl, a0, _, 0, _, rfl, rfl, SqL.of et1, rfl, b, m1.1, rfl, b5, hL0, by omega, fun t u x H6 nt hro hu hx hxn hul hxl b6 s6 => ?_⟩
        have hT6 : ToolAt K H6 a0 m1.1 m1.2 := by
          obtain ⟨ys, e, n⟩ := b5.plain
          exact hT1.but b5 s6 (hT1.ne e n)
        have sml : ∀ c ∈ u ++ x, c < 200 := fun c hc => letters_small wf1.l c ((List.mem_append.mp hc).elim (hu c) (hx c))
        have ntb : t ≠ b := fun z => by
          obtain ⟨ys, e, _⟩ := b5.plain
          rw [z, e] at nt; cases nt
        refine ⟨_, rfl, b, 6, rfl, b6, by decide, by decide, fun d3 H7 hd3 b7 s7 => ⟨_, _, rfl, rfl, _, rfl, ?_⟩⟩
        have hT7 : ToolAt K H7 a0 m1.1 m1.2 := by
          obtain ⟨ys, e, n⟩ := b6.plain
          exact hT6.but b6 s7 (hT6.ne e n)
        have hro7 : RopeAt K H7 t u x := (b6.tups s7).seq hro
        by_cases h30 : ((d3 : Nat) : Int) > 0
        case' pos =>
          refine iteTc (decide_eq_true h30) ⟨_, rfl, _, rfl, a0, t, m1.1, m1.2, u, x, rfl, hT7, hro7, wf1, hu, hx, hxn, by omega, by omega, fun bt H8 s8 _ => ?_⟩
          have b8 := b7.same s8
          have s78 : Besides b H7 H8 := Same.but s8
        case' neg =>
          refine iteFc (decide_eq_false h30) ⟨_, rfl, b, 2, rfl, b7, by decide, by decide, fun d4 H8 hd4 b8 s78 => ⟨rfl, ?_⟩⟩
          generalize decide (V.int ((d4 : Nat) : Int) = V.int 0) = bt
        all_goals
          have s58 : Besides b H5 H8 := Besides.trans (Besides.trans s6 s7) s78
          have esn8 : H8 sn = some (.lst xs) := s58 sn _ nsb esn5
          have hro8 : RopeAt K H8 t u x := (b7.tups s78).seq hro7
          refine ⟨_, rfl, .inl ⟨rfl, _, SqL.of esn8⟩, _, rfl, _, rfl, by show 2 ≤ sizeLine; decide, fun z nz => ?_⟩
          have sz : Same H8 (upd H8 z (.tup [.ref t, .bl bt])) := Same.new nz
          have esn9 := sz _ _ esn8
          have nzb : z ≠ b := b8.ne nz
          have pl : Plain xs := plain_seen hPS
          have hPS8 : Paired (SeenAt K H8) xs S := L2.Paired.mapP hPS fun _ _ y => y.mono (b5.tups s58)
          have tz : Tups H8 (upd (upd H8 z (.tup [.ref t, .bl bt])) sn (.lst (xs ++ [.ref z]))) := (Same.tups sz).trans (tups_put esn9)
          have tz2 : Tups (upd H8 z (.tup [.ref t, .bl bt])) (upd (upd H8 z (.tup [.ref t, .bl bt])) sn (.lst (xs ++ [.ref z]))) := tups_put esn9
          refine ⟨sn, _, _, rfl, rfl, esn9, by rw [Paired.length hPS, hSl, sizeLine_eq]; omega, _, _, _, rfl, (b8.upd nzb).upd nsb, fun y o' hy ey => ?_, ?_, ?_, xs ++ [.ref z], S ++ [((u, x), bt)], upd_same, ?_, by simp [hSl], fun e he => ?_⟩
          · rw [upd_ne (ne_of_none ey n0)]
            exact sz _ _ (s58 y o' hy (s5 y o' hy ey))
          · rw [upd_ne nso]
            exact sz _ _ (s58 o _ nob eo5)
          · exact L2.Paired.mapP hPM5 fun _ _ y => ((y.but b5 s58).same sz).put esn9 pl
          · exact paired_snoc (L2.Paired.mapP hPS8 fun _ _ y => y.mono tz) ⟨z, t, rfl, tz2.seq (SqT.of upd_same), tz.seq hro8, by show u.length ≤ 1000; omega, by show x.length ≤ 1000; omega⟩
          · rcases List.mem_append.mp he with y | y
            · exact hSs e y
            · rw [List.mem_singleton.mp y]
              exact ⟨sml, by show u.length ≤ 200; omega, by show x.length ≤ 200; omega⟩
      · rintro σ H5 ⟨y2', y5, y6, rfl, b5, s5, eo5, hPM5, xs, S, esn5, hPS, hSl, hSs⟩
        have hxl5 : xs.length = S.length := Paired.length hPS
        refine ⟨Nat.zero_le _, fun du ndu => ?_⟩
        have s6 : Same H5 (upd H5 du (.lst [])) := Same.new ndu
        refine ⟨_, rfl, _, vs.length, rfl, .inl ⟨_, SqL.of (s6 _ _ eo5), rfl⟩, (vs.length : Nat), rfl, by omega, by omega, ?_⟩
        rw [show ((vs.length : Nat) : Int).toNat = M.length by omega]
        refine for_range (fun i σ H' => ∃ y8 y9 du, σ = [some (.ref b), some (.ref o), y2', some (.ref a0), some (.ref sn), y5, y6, some (.ref du), y8, y9, none, none, none] ∧ Same H5 H' ∧ H' du = some (.lst (natV (picked (fitsAt M S) i)))) ⟨none, none, du, rfl, s6, upd_same⟩ ?_ ?_
        · rintro i σ H7 hi ⟨y8, y9, du1, rfl, s7, ed7⟩
          have hiM : M[i]? = some M[i] := List.getElem?_eq_getElem hi
          obtain ⟨vi, hvi, ai, rfl, hTi, wfi⟩ := paired_get' hPM5 hiM
          dsimp only
          rw [show (0 : Int) + ((i : Nat) : Int) = ((i : Nat) : Int) by omega]
          refine ⟨_, rfl, sn, rfl, ⟨_, SqL.of (s7 _ _ esn5)⟩, fun D hD => ?_⟩
          have hfa : fitsAt M S i = S.all (fitsOne M[i].1 M[i].2) := by unfold fitsAt; rw [hiM]
          refine lc_val (walk_list (xs := xs)) (S.map fun e => V.bl (fitsOne M[i].1 M[i].2 e)) (by rw [List.length_map, hxl5]) (by omega) hD (fun _ s1 => Same.seq s1 (SqL.of (s7 _ _ esn5))) (fun j z H8 H9 c Qe hc s8 yl k => ?_) (fun H8 s8 eD => ?_)
          · obtain ⟨rfl, hz⟩ := yl
            obtain ⟨e, he, hse⟩ := paired_get hPS hz
            rw [List.getElem?_map, he] at hc
            cases hc
            have s58 := Same.trans s7 s8
            obtain ⟨bz, t, rfl, g1, g2, l1, l2⟩ := hse.mono (Same.tups s58)
            obtain ⟨h1, h2, h3⟩ := hSs e (List.mem_of_getElem? he)
            refine ⟨bz, _, rfl, g1, rfl, _, _, rfl, _, _, rfl, rfl, rfl, ?_⟩
            refine ⟨_, rfl, _, rfl, o, vs, _, _, rfl, rfl, SqL.of (s58 _ _ eo5), atI_nat hvi, _, rfl, ai, t, M[i].1, M[i].2, e.1.1, e.1.2, rfl, hTi.same s58, g2, h2, h3, h1, fun H3 s3 => ?_⟩
            cases hro : ropeOk e.1.1 e.1.2 M[i].1 with
            | false =>
              refine ⟨_, rfl, iteF ?_⟩
              have z : Qe (V.bl (fitsOne M[i].1 M[i].2 e)) H3 := k H3 s3
              rw [show fitsOne M[i].1 M[i].2 e = false by unfold fitsOne; rw [hro]; rfl] at z
              exact z
            | true =>
              obtain ⟨r1, r2, r3⟩ := ropeOk_iff.mp hro
              refine ⟨_, rfl, iteT ⟨_, rfl, _, rfl, o, vs, _, _, rfl, rfl, SqL.of (s3 _ _ (s58 _ _ eo5)), atI_nat hvi, _, rfl, ai, t, M[i].1, M[i].2, e.1.1, e.1.2, rfl, hTi.same (Same.trans s58 s3), Same.seqT s3 g2, wfi, r2, r3, r1, by omega, by omega, fun b' H4 s4 hb => ⟨_, rfl, rfl, ?_⟩⟩⟩
              have z : Qe (V.bl (fitsOne M[i].1 M[i].2 e)) H4 := k H4 (Same.trans s3 s4)
              have ez : fitsOne M[i].1 M[i].2 e = decide (V.bl b' = V.bl e.2) := by
                unfold fitsOne
                rw [hro, Bool.true_and]
                have hdb : ∀ (dc : Decidable (Lies M[i].1 M[i].2 0 (app e.1.1 (rep e.1.2)))), @decide _ dc = b' := fun dc => by
                  rw [Bool.eq_iff_iff, hb]
                  exact @decide_eq_true_iff _ dc
                rw [hdb]
                cases b' <;> cases e.2 <;> decide
              rw [ez] at z
              exact z
          · have ed8 := s8 _ _ ed7
            refine ⟨_, rfl, _, rfl, D, S.map (fitsOne M[i].1 M[i].2), rfl, SqL.of (by rw [eD, List.map_map]; rfl), _, rfl, ?_⟩
            rw [List.all_map]
            have hpl := picked_len (fitsAt M S) i
            cases hf : S.all (fitsOne M[i].1 M[i].2) with
            | true =>
              refine iteTc (by exact hf) ⟨_, rfl, by show 1 ≤ sizeLine; decide, fun l nl => ?_⟩
              have ed9 := Same.new (o := .lst [.int (i : Nat)]) nl _ _ ed8
              refine ⟨du1, l, _, _, rfl, rfl, ed9, upd_same, ?_, fun l2 nl2 => ⟨_, _, l2, rfl, Same.trans (Same.trans s7 s8) (Same.trans (Same.new nl) (Same.new nl2)), ?_⟩⟩
              · rw [natV_len, sizeLine_eq]; show _ + 1 ≤ _; omega
              · rw [upd_same, picked_succ, hfa, hf, natV_app]; rfl
            | false =>
              refine iteFc (by exact hf) ⟨Nat.zero_le _, fun l nl => ?_⟩
              have ed9 := Same.new (o := .lst []) nl _ _ ed8
              refine ⟨du1, l, _, _, rfl, rfl, ed9, upd_same, ?_, fun l2 nl2 => ⟨_, _, l2, rfl, Same.trans (Same.trans s7 s8) (Same.trans (Same.new nl) (Same.new nl2)), ?_⟩⟩
              · rw [natV_len, sizeLine_eq]; show _ + 0 ≤ _; omega
              · rw [upd_same, picked_succ, hfa, hf, natV_app]; rfl
        · rintro σ H7 ⟨y8, y9, du1, rfl, s7, ed7⟩
          -- the machines
          refine ⟨_, rfl, o, rfl, ⟨_, SqL.of (s7 _ _ eo5)⟩, fun D hD => ?_⟩
          refine lc_it (walk_list (xs := vs)) (fun i H' => Same H7 H' ∧ ∃ ms, H' D = some (.lst ms) ∧ Paired (MachsAt K mg H') ms (M.take i)) ⟨Same.new hD, [], upd_same, .nil⟩ (fun i H' _ pv => Same.seq pv.1 (SqL.of (s7 _ _ eo5))) (fun i z H8 H9 hi pv yl => ?_) (fun H8 pv => ?_)
          · obtain ⟨s8, ms, e8, hP8⟩ := pv
            obtain ⟨rfl, hz⟩ := yl
            obtain ⟨m, hm, az, rfl, hTz, wfz⟩ := paired_get hPM5 hz
            have s58 := Same.trans s7 s8
            refine ⟨rfl, _, rfl, az, m.1, m.2, rfl, hTz.same s58, wfz, fun pz H10 s10 hMz => ?_⟩
            have e10 := s10 _ _ e8
            have hml : ms.length ≤ i := by
              have := Paired.length hP8
              rw [List.length_take] at this; omega
            refine ⟨ms, e10, by rw [sizeLine_eq]; omega, Same.mut (Same.trans s8 s10) hD, ms ++ [.ref pz], upd_same, ?_⟩
            rw [List.take_add_one, hm]
            exact paired_snoc (L2.Paired.mapP hP8 fun _ _ y => (y.same s10).put e10) (MachsAt.put ⟨pz, rfl, hMz, wfz⟩ e10)
          · obtain ⟨s8, ms, e8, hP8⟩ := pv
            rw [List.take_of_length_le (by omega)] at hP8
            refine ⟨D, _, rfl, .inl ⟨SqL.of e8, fun mt nmt => ?_⟩⟩
            have s9 : Same H8 (upd H8 mt (.tup ms)) := Same.new nmt
            have hPM9 : Paired (MachsAt K mg (upd H8 mt (.tup ms))) ms M := L2.Paired.mapP hP8 fun _ _ y => y.same s9
            have eM9 : SqT K (upd H8 mt (.tup ms)) mt ms := SqT.of upd_same
            have s59 : Same H5 (upd H8 mt (.tup ms)) := Same.trans (Same.trans s7 s8) s9
            have ed9 : (upd H8 mt (.tup ms)) du1 = some (.lst (natV (picked (fitsAt M S) M.length))) := s9 _ _ (s8 _ _ ed7)
            revert hPM9 eM9 s59 ed9
            generalize upd H8 mt (.tup ms) = H9
            intro hPM9 eM9 s59 ed9
            have hM6 : M.length ≤ 6 := by omega
            have hSl4 : S.length ≤ 5 := by omega
            -- what is told
            have esn : ∀ H', Same H9 H' → SqL K H' sn xs := fun H' s' => SqL.of (s' _ _ (s59 _ _ esn5))
            have hPSx : ∀ H', Same H9 H' → Paired (SeenAt K H') xs S := fun H' s' => L2.Paired.mapP hPS fun _ _ y => y.mono (Same.tups (Same.trans s59 s'))
            have hPMx : ∀ H', Same H9 H' → Paired (MachsAt K mg H') ms M := fun H' s' => L2.Paired.mapP hPM9 fun _ _ y => y.same s'
            refine ⟨_, rfl, _, rfl, sn, xs, rfl, .inl ⟨esn _ (Same.refl _), fun t1 nt1 => ?_⟩⟩
            have s10 : Same H9 (upd H9 t1 (.tup xs)) := Same.new nt1
            refine ⟨mt, t1, ms, xs, M, S, rfl, Same.seqT s10 eM9, hPMx _ s10, SqT.of upd_same, hPSx _ s10, by omega, by omega, fun r1 H11 s11 hr1 => ?_⟩
            have s911 := Same.trans s10 s11
            refine ⟨_, rfl, sn, xs, rfl, .inl ⟨esn _ s911, fun t2 nt2 => ⟨_, rfl, ?_⟩⟩⟩
            have s12 : Same H9 (upd H11 t2 (.tup xs)) := Same.trans s911 (Same.new nt2)
            refine ⟨mt, t2, ms, xs, M, S, rfl, Same.seqT s12 eM9, hPMx _ s12, SqT.of upd_same, hPSx _ s12, by omega, by omega, fun r2 H13 s13 hr2 => ?_⟩
            refine ⟨by show 2 ≤ sizeLine; decide, fun tl ntl => ?_⟩
            have s913 := Same.trans s12 s13
            have hr1' : SqT K (upd H13 tl (.lst [.ref r1, .ref r2])) r1 (natV (picked (fitsAt M S) M.length)) := Same.seqT (Same.trans (Same.trans (Same.new nt2) s13) (Same.new ntl)) hr1
            have hr2' : SqT K (upd H13 tl (.lst [.ref r1, .ref r2])) r2 (natV (picked (fitsAt M S) M.length)) := Same.seqT (Same.new ntl) hr2
            have s14 : Same H9 (upd H13 tl (.lst [.ref r1, .ref r2])) := Same.trans s913 (Same.new ntl)
            have hpk := picked_len (fitsAt M S) M.length
            have okP : okAll (natD (picked (fitsAt M S) M.length)) := ok_nats _ fun n hn => by
              have : n < M.length := by
                have := (List.mem_filter.mp hn).1
                simpa using this
              omega
            have okT : okD (.list [.tuple (natD (picked (fitsAt M S) M.length)), .tuple (natD (picked (fitsAt M S) M.length))]) := okLst (okCons (okTup okP) (okCons (okTup okP) okNil))
            have dpT : PyData.depth (.list [.tuple (natD (picked (fitsAt M S) M.length)), .tuple (natD (picked (fitsAt M S) M.length))]) ≤ 60 := by simp only [PyData.depth, PyData.depthAll, depth_nats]; decide
            have csT : cost (.list [.tuple (natD (picked (fitsAt M S) M.length)), .tuple (natD (picked (fitsAt M S) M.length))]) ≤ 10000000 := by simp only [cost, costAll, cost_nats]; omega
            refine ⟨_, rfl, _, _, rfl, .lst (SqL.of upd_same) (.cons (.tup hr1' (dp_nats _)) (.cons (.tup hr2' (dp_nats _)) .nil)), okT, dpT, csT, ?_⟩
            have ed14 := s14 _ _ ed9
            revert s14 ed14
            generalize upd H13 tl (.lst [.ref r1, .ref r2]) = H14
            intro s14 ed14
            refine ⟨_, rfl, du1, _, rfl, .inl ⟨SqL.of ed14, fun t3 nt3 => ?_⟩⟩
            refine ⟨_, rfl, du1, _, rfl, .inl ⟨SqL.of (Same.new nt3 _ _ ed14), fun t4 nt4 => ⟨by show 2 ≤ sizeLine; decide, fun l nl => ?_⟩⟩⟩
            have n34 : t3 ≠ t4 := fun z => by rw [← z, upd_same] at nt4; cases nt4
            have hr3' : SqT K (upd (upd (upd H14 t3 (.tup (natV (picked (fitsAt M S) M.length)))) t4 (.tup (natV (picked (fitsAt M S) M.length)))) l (.lst [.ref t3, .ref t4])) t3 (natV (picked (fitsAt M S) M.length)) := Same.seqT (Same.trans (Same.new nt4) (Same.new nl)) (SqT.of upd_same)
            have hr4' : SqT K (upd (upd (upd H14 t3 (.tup (natV (picked (fitsAt M S) M.length)))) t4 (.tup (natV (picked (fitsAt M S) M.length)))) l (.lst [.ref t3, .ref t4])) t4 (natV (picked (fitsAt M S) M.length)) := Same.seqT (Same.new nl) (SqT.of upd_same)
            have s15 : Same H9 (upd (upd (upd H14 t3 (.tup (natV (picked (fitsAt M S) M.length)))) t4 (.tup (natV (picked (fitsAt M S) M.length)))) l (.lst [.ref t3, .ref t4])) := Same.trans s14 (Same.trans (Same.new nt3) (Same.trans (Same.new nt4) (Same.new nl)))
            refine ⟨_, _, rfl, .lst (SqL.of upd_same) (.cons (.tup hr3' (dp_nats _)) (.cons (.tup hr4' (dp_nats _)) .nil)), okT, dpT, csT, rfl, _, rfl, ?_⟩
            refine iteFc ne_V ?_
            revert s15
            generalize upd (upd (upd H14 t3 (.tup (natV (picked (fitsAt M S) M.length)))) t4 (.tup (natV (picked (fitsAt M S) M.length)))) l (.lst [.ref t3, .ref t4]) = H15
            intro s15
            clear okT dpT csT okP hpk hr1 hr2 hr1' hr2' s14 ed14 s913 s13 s12 s911 s11 s10 hr3' hr4'
            -- nothing seen, no machine
            refine ⟨_, rfl, Nat.zero_le _, fun t5 nt5 => ?_⟩
            have s16 : Same H9 (upd H15 t5 (.tup [])) := Same.trans s15 (Same.new nt5)
            refine ⟨mt, t5, ms, [], M, [], rfl, Same.seqT s16 eM9, hPMx _ s16, SqT.of upd_same, .nil, by omega, by simp, fun r3 H17 s17 hr3 => ?_⟩
            have s917 := Same.trans s16 s17
            refine ⟨Nat.zero_le _, fun t6 nt6 => ?_⟩
            have s18 : Same H9 (upd H17 t6 (.tup [])) := Same.trans s917 (Same.new nt6)
            refine ⟨_, rfl, sn, xs, rfl, .inl ⟨esn _ s18, fun t7 nt7 => ?_⟩⟩
            have s19 : Same H9 (upd (upd H17 t6 (.tup [])) t7 (.tup xs)) := Same.trans s18 (Same.new nt7)
            refine ⟨t6, t7, [], xs, [], S, rfl, Same.seqT (Same.new nt7) (SqT.of upd_same), .nil, SqT.of upd_same, hPSx _ s19, by simp, by omega, fun r4 H20 s20 hr4 => ⟨by show 2 ≤ sizeLine; decide, fun tl2 ntl2 => ?_⟩⟩
            have s21 : Same H9 (upd H20 tl2 (.lst [.ref r3, .ref r4])) := Same.trans (Same.trans s19 s20) (Same.new ntl2)
            have epk : picked (fitsAt M []) M.length = List.range M.length := by
              unfold picked
              rw [List.filter_eq_self]
              intro i hi
              have hi' : i < M.length := by simpa using hi
              unfold fitsAt
              rw [List.getElem?_eq_getElem hi']
              rfl
            rw [epk] at hr3
            have hr3' : SqT K (upd H20 tl2 (.lst [.ref r3, .ref r4])) r3 (natV (List.range M.length)) := Same.seqT (Same.trans (Same.trans (Same.trans (Same.new nt6) (Same.new nt7)) s20) (Same.new ntl2)) hr3
            have hr4' : SqT K (upd H20 tl2 (.lst [.ref r3, .ref r4])) r4 (natV []) := Same.seqT (Same.new ntl2) hr4
            have okU : okD (.list [.tuple (natD (List.range M.length)), .tuple (natD [])]) := okLst (okCons (okTup (ok_nats _ fun n hn => by
              have : n < M.length := by simpa using hn
              omega)) (okCons (okTup okNil) okNil))
            have dpU : PyData.depth (.list [.tuple (natD (List.range M.length)), .tuple (natD [])]) ≤ 60 := by simp only [PyData.depth, PyData.depthAll, depth_nats]; decide
            have csU : cost (.list [.tuple (natD (List.range M.length)), .tuple (natD [])]) ≤ 10000000 := by simp only [cost, costAll, cost_nats, List.length_range, List.length_nil]; omega
            refine ⟨_, _, rfl, .lst (SqL.of upd_same) (.cons (.tup hr3' (dp_nats _)) (.cons (.tup hr4' (dp_nats _)) .nil)), okU, dpU, csU, ?_⟩
            have hml : ms.length = M.length := Paired.length hPM9
            refine ⟨_, rfl, _, ms.length, rfl, .inr ⟨_, Same.seqT s21 eM9, rfl⟩, (ms.length : Nat), rfl, RgOk.of_le (by decide) (by omega) (by decide) (by omega), fun t8 nt8 => ⟨Nat.zero_le _, fun t9 nt9 => ⟨by show 2 ≤ sizeLine; decide, fun l3 nl3 => ?_⟩⟩⟩
            have erg : rgV 0 ((ms.length : Nat) : Int) = natV (List.range M.length) := by
              unfold rgV natV
              rw [hml, show (((M.length : Nat) : Int) - 0).toNat = M.length by omega]
              exact List.map_congr_left fun i _ => by rw [Int.zero_add]
            have h8 : SqT K (upd (upd (upd (upd H20 tl2 (.lst [.ref r3, .ref r4])) t8 (.tup (rgV 0 ((ms.length : Nat) : Int)))) t9 (.tup [])) l3 (.lst [.ref t8, .ref t9])) t8 (natV (List.range M.length)) := Same.seqT (Same.trans (Same.new nt9) (Same.new nl3)) (SqT.of (by rw [upd_same, erg]))
            have h9 : SqT K (upd (upd (upd (upd H20 tl2 (.lst [.ref r3, .ref r4])) t8 (.tup (rgV 0 ((ms.length : Nat) : Int)))) t9 (.tup [])) l3 (.lst [.ref t8, .ref t9])) t9 (natV []) := Same.seqT (Same.new nl3) (SqT.of upd_same)
            refine ⟨_, _, rfl, .lst (SqL.of upd_same) (.cons (.tup h8 (dp_nats _)) (.cons (.tup h9 (dp_nats _)) .nil)), okU, dpU, csU, rfl, ?_⟩
            rw [eq_V]
            exact q _ (Besides.trans s5 (Same.but (Same.trans s59 (Same.trans s21 (Same.trans (Same.new nt8) (Same.trans (Same.new nt9) (Same.new nl3)))))))
end
end GH
namespace GH
open PySem PySem.Spec PyProof.Rows L2
section
variable {P : Program} {w : World} {K : PySem.W.Frag} {mg : Str → Option Value} {base : Heap}
def sp_law (K : PySem.W.Frag) : Sp := fun vs H Q _ => ∃ (a : Addr) (ns : List Int), vs = [.ref a] ∧ SqL K H a (ns.map V.int) ∧ ns.length ≤ 63 ∧ ∀ H', Q (.bl true) H'
theorem o_law (T : Txt K mg) : OkG P w K mg base 31 "law" ["_law_script"] (sp_law K) := by
  refine okG_def T.d_law sc_law (fun _ _ _ _ _ _ us hl => match us, hl with | [_], _ => rfl) (fun vs H Q E h => ?_) (fun f cdv A outer s H vs Q E gd hr h => ?_)
  · obtain ⟨a, ns, rfl, _⟩ := h; rfl
  · obtain ⟨a, ns, rfl, hS, hl, q⟩ := h
    refine ⟨_, (pss_cons (ps_for PassesOwn.never rfl (pi_range1 (by rfl) T.B.range_ (pa_cons (T.B.pMax2 (pa_cons pe_int (pa_cons (T.B.pMin2 (pa_cons (T.B.pLen (K := K) (pa_cons (pv 0) pa_nil)) (pa_cons pe_int pa_nil))) pa_nil))) pa_nil)) (pg_name (i := 1) sc_law.nd rfl (by first | exact .inl rfl | exact .inr rfl))
      (pss_one (ps_if (pt_not (pt_val (pe_fnG (o__law_right T) gd (hr.mono (by decide)) (by rfl) (pa_cons (pe_fn (o__law_purse T) (hr.mono (by decide)) (by rfl) (pa_cons (pv 0) (pa_cons (pv 1) pa_nil))) pa_nil))))
          (pss_one (ps_ret pe_bl))
          pss_nil)))
    (pss_one (ps_ret pe_bl))), ?_⟩
    refine ⟨_, rfl, _, ns.length, rfl, .inl ⟨_, hS, by simp⟩, _, _, rfl, _, _, rfl, _, rfl, ?_, ?_, ?_⟩
    · split <;> split <;> omega
    · split <;> split <;> omega
    · obtain ⟨n, hn, hn4⟩ : ∃ n : Nat, (if (if (5 : Int) < ((ns.length : Nat) : Int) then (5 : Int) else ((ns.length : Nat) : Int)) > 2 then (if (5 : Int) < ((ns.length : Nat) : Int) then (5 : Int) else ((ns.length : Nat) : Int)) else 2 : Int).toNat = n ∧ n ≤ 10 := ⟨_, rfl, by split <;> split <;> omega⟩
      rw [hn]
      refine for_range (fun i σ H' => ∃ y1, σ = [some (.ref a), y1] ∧ Same H H') ⟨none, rfl, Same.refl _⟩ ?_ ?_
      · rintro i σ H1 hi ⟨y1, rfl, s1⟩
        dsimp only
        rw [show (0 : Int) + ((i : Nat) : Int) = ((i : Nat) : Int) by omega]
        refine ⟨_, rfl, _, rfl, a, ns, i, rfl, Same.seq s1 hS, hl, by omega, fun b H3 nb s3 hb => ?_⟩
        refine ⟨b, rfl, hb, fun H4 s4 => ⟨_, rfl, iteF ⟨_, rfl, fun x o e => ?_⟩⟩⟩
        have e1 := s1 _ _ e
        exact s4 x o (ne_of_none e1 nb) (s3 x o e1)
      · rintro σ H1 ⟨y1, rfl, s1⟩
        exact q H1
end
end GH
namespace GH
open PySem PySem.Spec PyProof.Rows L2
/-! ### the end of the top, looked at: defs where they stand, and one Bool more -/
structure Dn where
  adr : PySem.W.Frag → Addr
  nm : Str
  qu : Str
  st : Stmt
def Dn.seen (K : PySem.W.Frag) (d : Dn) : He.FnV := match K.lookup (d.adr K) with
  | some ⟨_, _, .func u, _⟩ => some (u.name, u.qualname, u.params, u.body, u.scope, u.globals, u.closure, u.defaults, u.builtins)
  | _ => none
def Dn.due (d : Dn) : He.FnV := some (d.nm, d.qu, defArgs d.st, .stmts (defBody d.st), defScope d.st, mainGlobals, [], .none, builtinsNs)
def Dn.fit (K : PySem.W.Frag) (d : Dn) : Bool := PySem.W.keepIn K (.ref (d.adr K)) && (match K.lookup (d.adr K) with
  | some ⟨_, _, .func u, _⟩ => PySem.W.codeIn K u.code d.qu
  | _ => false)
theorem Dn.is {K : PySem.W.Frag} {d : Dn} (e : d.seen K = d.due) (c : d.fit K = true) : ∃ u, Fun K d.nm d.qu d.st (d.adr K) u := by
  obtain ⟨kp, c⟩ := He.ba c
  unfold Dn.seen at e
  cases q : K.lookup (d.adr K) with
  | none => rw [q] at c; cases c
  | some o =>
    obtain ⟨oc, od, dt, osl⟩ := o
    rw [q] at c e
    cases dt with
    | func u =>
      obtain ⟨m1, m2, m3, m4, m5, m6, m7, m8, m9, m10, m11, m12, m13, m14, m15⟩ := u
      have e2 : (some (m1, m2, m3, m4, m5, m6, m7, m8, m15) : He.FnV) = some (d.nm, d.qu, defArgs d.st, .stmts (defBody d.st), defScope d.st, mainGlobals, [], .none, builtinsNs) := e
      simp only [Option.some.injEq, Prod.mk.injEq] at e2
      obtain ⟨i1, i2, i3, i4, i5, i6, i7, i8, i9⟩ := e2
      subst i1 i2 i3 i4 i5 i6 i7 i8 i9
      exact ⟨_, fun_mk q c kp⟩
    | _ => cases c
def lookM (ds : List Dn) (ex : PySem.W.Frag → Bool) (K : PySem.W.Frag) : He.Al := (ex K && ds.all fun d => d.fit K, ds.map fun d => d.seen K)
def dueM (ds : List Dn) : He.Al := (true, ds.map Dn.due)
def SaysM (ds : List Dn) (ex : PySem.W.Frag → Bool) (K : PySem.W.Frag) : Prop := lookM ds ex K = dueM ds
def lookG (n : Nat) (ds : List Dn) (ex : PySem.W.Frag → Bool) (g : Addr → Option Obj) : He.Al := lookM ds ex (He.frG g (He.asD g n))
def hookM (n : Nat) (ds : List Dn) (ex : PySem.W.Frag → Bool) : PySem.W.Hook where
  α := He.Al
  obs := fun s => lookG n ds ex s.heap.get?
  val := fun _ => dueM ds
  says := fun _ h => ∃ K : PySem.W.Frag, K.In h ∧ SaysM ds ex K
  of := fun _ _ e => ⟨_, He.frG_in, e⟩
  keeps := fun _ _ _ ⟨K, hK, c⟩ k => ⟨K, PySem.W.Frag.In.keeps hK k, c⟩
theorem lookG_eq {n : Nat} {ds : List Dn} {ex : PySem.W.Frag → Bool} {g : Addr → Option Obj} {s : Shared} (h : ∀ a, g a = s.heap.get? a) : lookG n ds ex g = (hookM n ds ex).obs s := by
  have e : g = s.heap.get? := funext h
  rw [e] <;> rfl
section
variable {ds : List Dn} {ex : PySem.W.Frag → Bool} {K : PySem.W.Frag} {mg : Str → Option Value} {h : Heap}
theorem SaysM.more (c : SaysM ds ex K) : ex K = true := (He.ba (show (ex K && ds.all fun d => d.fit K) = true from congrArg (fun z : He.Al => z.1) c)).1
theorem SaysM.is (c : SaysM ds ex K) (i : Nat) {d : Dn} (h : ds[i]? = some d := by rfl) : ∃ u, Fun K d.nm d.qu d.st (d.adr K) u := by
  have c2 := (He.ba (show (ex K && ds.all fun d => d.fit K) = true from congrArg (fun z : He.Al => z.1) c)).2
  have e : ds.map (fun d => d.seen K) = ds.map Dn.due := congrArg (fun z : He.Al => z.2) c
  have e2 : (ds.map fun d => d.seen K)[i]? = (ds.map Dn.due)[i]? := by rw [e]
  rw [List.getElem?_map, List.getElem?_map, h] at e2
  exact Dn.is (Option.some.inj e2) (List.all_eq_true.mp c2 d (List.mem_of_getElem? h))
/-! ### facts -/
def dnG (x : Str) (st : Stmt) : Dn := ⟨fun K => He.ga K x, x, x, st⟩
def facts (fs : List He.Fa) (K : PySem.W.Frag) : Bool := fs.all fun f => f.ok K
theorem facts_at {fs : List He.Fa} (c : facts fs K = true) (i : Nat) {f : He.Fa} (h : fs[i]? = some f := by rfl) : f.ok K = true := List.all_eq_true.mp c f (List.mem_of_getElem? h)
theorem def_is (X : K.In h) (G : h.Ns mainGlobals mg) {x : Str} {st : Stmt} (g : (He.Fa.glo x).ok K = true) (c : ∃ u, Fun K x x st (He.ga K x) u) : Def K mg x st := by
  obtain ⟨u, F⟩ := c
  exact ⟨_, u, F, He.glo_ok X G g⟩
theorem cst_int (X : K.In h) (G : h.Ns mainGlobals mg) {x : Str} {i : Int} (c : (He.Fa.int x i).ok K = true) : Cst mg x (.int i) := by
  obtain ⟨t, e⟩ := He.int_ok X G c
  exact ⟨_, e, t, rfl⟩
theorem cst_str (X : K.In h) (G : h.Ns mainGlobals mg) {x z : Str} (c : (He.Fa.str x z).ok K = true) : Cst mg x (.str z) := by
  obtain ⟨t, e⟩ := He.str_ok X G c
  exact ⟨_, e, t, rfl⟩
/-! ### the class Machine -/
def mP (x f : Str) (K : PySem.W.Frag) : Addr := He.ma K (He.ga K x) f
def mGet (x f : Str) (K : PySem.W.Frag) : Addr := match PySem.W.recIn K (mP x f K) "property" with
  | some (.ref g :: _) => g
  | _ => 0
def propB (x f : Str) (K : PySem.W.Frag) : Bool := He.eqO (PySem.W.findIn K (.ref (He.ga K x)) f) (some (some (.ref (mP x f K)))) && (He.eqO (PySem.W.specialIn K (.ref (mP x f K)) "__get__") (some (some (.builtin "property.__get__"))) &&
  (decide (PySem.W.takesIn K (.ref (mP x f K)) = some true) && (match PySem.W.recIn K (mP x f K) "property" with
    | some (.ref _ :: _) => true
    | _ => false)))
theorem propB_ok {x f : Str} (c : propB x f K = true) : PropOf K (He.ga K x) f (mP x f K) (mGet x f K) := by
  obtain ⟨c1, c⟩ := He.ba c
  obtain ⟨c2, c⟩ := He.ba c
  obtain ⟨c3, c4⟩ := He.ba c
  refine ⟨He.eqO_ok c1, He.eqO_ok c2, of_decide_eq_true c3, ?_⟩
  unfold mGet
  split at c4
  · rename_i g r e
    exact ⟨r, by rw [e]⟩
  · cases c4
def clsB (x : Str) (K : PySem.W.Frag) : Bool := He.eqO (PySem.W.findIn K (.ref (He.ga K x)) "__class__") (some (some (.builtin "object.__class__"))) && (He.eqO (PySem.W.specialIn K (.builtin "object.__class__") "__get__") (some (some (.builtin "getset_descriptor.__get__"))) &&
  (decide (PySem.W.takesIn K (.builtin "object.__class__") = some true) && (decide (PySem.W.mroIn K (He.ga K x) (.type "object") = some true) && decide (PySem.W.kitOne K (.ref (He.ga K x)) (.ref (He.ga K x)) = some true))))
def machFa : List He.Fa := [.glo "Machine", .cls "Machine", .mkr "Machine", .noat "Machine" "held_letters", .noat "Machine" "held_states"]
def machB (K : PySem.W.Frag) : Bool := facts machFa K && (propB "Machine" "letters" K && (propB "Machine" "states" K && clsB "Machine" K))
def dnI (st : Stmt) : Dn := ⟨mP "Machine" "__init__", "__init__", "Machine.__init__", st⟩
def dnL (st : Stmt) : Dn := ⟨mGet "Machine" "letters", "letters", "Machine.letters", st⟩
def dnS (st : Stmt) : Dn := ⟨mGet "Machine" "states", "states", "Machine.states", st⟩
theorem mach_is (X : K.In h) (G : h.Ns mainGlobals mg) {sI sL sS : Stmt} (c : machB K = true) (cI : ∃ u, Fun K "__init__" "Machine.__init__" sI (mP "Machine" "__init__" K) u) (cL : ∃ u, Fun K "letters" "Machine.letters" sL (mGet "Machine" "letters" K) u) (cS : ∃ u, Fun K "states" "Machine.states" sS (mGet "Machine" "states" K) u) : MachCls K mg sI sL sS := by
  obtain ⟨c0, c⟩ := He.ba c
  obtain ⟨c1, c⟩ := He.ba c
  obtain ⟨c2, c⟩ := He.ba c
  obtain ⟨d1, c⟩ := He.ba c
  obtain ⟨d2, c⟩ := He.ba c
  obtain ⟨d3, c⟩ := He.ba c
  obtain ⟨d4, d5⟩ := He.ba c
  obtain ⟨u1, F1⟩ := cI
  obtain ⟨u2, F2⟩ := cL
  obtain ⟨u3, F3⟩ := cS
  exact ⟨_, _, _, _, _, _, u1, u2, u3, He.glo_ok X G (facts_at c0 0), He.cls_ok (facts_at c0 1), He.mkr_ok (facts_at c0 2), He.noat_ok (facts_at c0 3), He.noat_ok (facts_at c0 4), F1, propB_ok c1, F2, propB_ok c2, F3,
    He.eqO_ok d1, He.eqO_ok d2, of_decide_eq_true d3, of_decide_eq_true d4, of_decide_eq_true d5⟩
end
/-! ### the law's def of every heap -/
theorem Ok.every {P : Program} {w : World} {K : PySem.W.Frag} {mg : Str → Option Value} {n : Nat} {x p : Str} {sp : Sp} {f : Addr} (O : ∀ base : Heap, Ok P w K mg base n x [p] sp) (m : mg x = some (.ref f)) :
    ∃ fd : FuncData, (∀ (s : Shared) (u : Value), BindsTo s fd ⟨[u], []⟩ [(p, u)]) ∧ ∀ base : Heap, FnOk P w K mg base CX0 n f fd [p] sp := by
  obtain ⟨f0, fd, F, b, m0, k, bt, oc, od, osl, lk⟩ := (O default).ex
  rw [m] at m0
  cases m0
  refine ⟨fd, fun s u => bt s [u] rfl, fun base => ?_⟩
  obtain ⟨f1, fd1, F1, _, m1, _, _, oc1, od1, osl1, lk1⟩ := (O base).ex
  rw [m] at m1
  cases m1
  rw [lk] at lk1
  cases lk1
  exact F1
end GH
namespace GH
open PySem PySem.Spec PyProof.Rows L2
def lawFa0 : List He.Fa := [.free "len", .free "all", .free "isinstance", .free "zip", .free "enumerate", .free "range", .free "max", .free "min", .free "abs", .free "divmod", .free "int", .free "str", .free "bool", .free "tuple", .free "list", .free "repr", .free "any", .free "sorted", .free "dict", .free "set"]
def lawFa1 : List He.Fa := [.glo "is_integer", .glo "is_word_of", .glo "is_tuple_of", .glo "are_letters", .glo "is_state", .glo "digit_of", .glo "state_of", .glo "is_rope", .glo "way_of", .glo "end_of", .glo "greatest_of", .glo "is_in", .glo "does_fit", .glo "fitting", .glo "_law_purse", .glo "_law_draw", .glo "_law_pick", .glo "_law_tool", .glo "_law_made", .glo "_law_walk"]
def lawFa2 : List He.Fa := [.glo "_law_end", .glo "_law_is_in", .glo "_law_is_rope", .glo "_law_run", .glo "_law_rope", .glo "_law_right", .glo "law", .int "MOST_LETTERS" 3, .int "MOST_STATES" 6, .int "MOST_COLOUR" 6, .str "LETTERS" (Str.ofString "abcdefghijklmnopqrstuvwxyz"), .str "DIGITS" (Str.ofString "0123456789")]
def lawFa : List He.Fa := lawFa0 ++ lawFa1 ++ lawFa2
def lawDn0 : List Dn := [dnG "is_integer" s_is_integer, dnG "is_word_of" s_is_word_of, dnG "is_tuple_of" s_is_tuple_of, dnG "are_letters" s_are_letters, dnG "is_state" s_is_state, dnG "digit_of" s_digit_of, dnG "state_of" s_state_of, dnG "is_rope" s_is_rope, dnG "way_of" s_way_of, dnG "end_of" s_end_of, dnG "greatest_of" s_greatest_of, dnG "is_in" s_is_in, dnG "does_fit" s_does_fit, dnG "fitting" s_fitting, dnG "_law_purse" s__law_purse, dnG "_law_draw" s__law_draw, dnG "_law_pick" s__law_pick, dnG "_law_tool" s__law_tool, dnG "_law_made" s__law_made, dnG "_law_walk" s__law_walk]
def lawDn1 : List Dn := [dnG "_law_end" s__law_end, dnG "_law_is_in" s__law_is_in, dnG "_law_is_rope" s__law_is_rope, dnG "_law_run" s__law_run, dnG "_law_rope" s__law_rope, dnG "_law_right" s__law_right, dnG "law" s_law, dnI s_Machine___init__, dnL s_Machine_letters, dnS s_Machine_states]
def lawDn : List Dn := lawDn0 ++ lawDn1
def lawOut0 : List Str := ["_wall", "BadValue", "InvalidText", "InvalidLetters", "InvalidStates", "MOST_LETTERS", "MOST_STATES", "MOST_COLOUR", "LETTERS", "DIGITS", "is_integer", "is_word_of", "is_tuple_of", "are_letters", "is_state", "digit_of", "state_of", "Machine", "is_rope", "way_of"]
def lawOut1 : List Str := ["end_of", "greatest_of", "is_in", "does_fit", "fitting", "_law_purse", "_law_draw", "_law_pick", "_law_tool", "_law_made", "_law_walk", "_law_end", "_law_is_in", "_law_is_rope", "_law_run", "_law_rope", "_law_right"]
def lawOut : List Str := lawOut0 ++ lawOut1
def lawEx (K : PySem.W.Frag) : Bool := facts lawFa K && machB K
abbrev lawRow : PySem.W.OpenRow := PySem.W.OpenLaw.row PySem.Challenge.rw_guardhopes_k33_fitting_machines
abbrev lawHook : PySem.W.Hook := hookM 5 lawDn lawEx
def lawOb (s : PySem.W.SharedT) : He.Al := lookG 5 lawDn lawEx (HandSHeadRun.getT s)
theorem lawOb_eq (s : PySem.W.SharedT) : lawOb s = lawHook.obs s.abs := lookG_eq (HandSHeadRun.getT_eq s)
theorem lawRun (w : World) : HandSHeadRun.RunEq lawRow (PySem.W.view lawRow.prog [43]) lawHook lawOb 4000 lawOut w := by
  intro os
  kernel_rfl
theorem lawTxt {K : PySem.W.Frag} {h : Heap} {mg : Str → Option Value} (X : K.In h) (G : h.Ns mainGlobals mg) (c : SaysM lawDn lawEx K) : Txt K mg := by
  have z := c.more
  obtain ⟨z, zM⟩ := He.ba z
  exact {
    B := ⟨He.free_ok X G (facts_at z 0), He.free_ok X G (facts_at z 1), He.free_ok X G (facts_at z 2), He.free_ok X G (facts_at z 3), He.free_ok X G (facts_at z 4), He.free_ok X G (facts_at z 5), He.free_ok X G (facts_at z 6), He.free_ok X G (facts_at z 7), He.free_ok X G (facts_at z 8), He.free_ok X G (facts_at z 9), He.free_ok X G (facts_at z 10), He.free_ok X G (facts_at z 11), He.free_ok X G (facts_at z 12), He.free_ok X G (facts_at z 13), He.free_ok X G (facts_at z 14), He.free_ok X G (facts_at z 15), He.free_ok X G (facts_at z 16), He.free_ok X G (facts_at z 17), He.free_ok X G (facts_at z 18), He.free_ok X G (facts_at z 19)⟩
    d_is_integer := def_is X G (facts_at z 20) (c.is 0)
    d_is_word_of := def_is X G (facts_at z 21) (c.is 1)
    d_is_tuple_of := def_is X G (facts_at z 22) (c.is 2)
    d_are_letters := def_is X G (facts_at z 23) (c.is 3)
    d_is_state := def_is X G (facts_at z 24) (c.is 4)
    d_digit_of := def_is X G (facts_at z 25) (c.is 5)
    d_state_of := def_is X G (facts_at z 26) (c.is 6)
    d_is_rope := def_is X G (facts_at z 27) (c.is 7)
    d_way_of := def_is X G (facts_at z 28) (c.is 8)
    d_end_of := def_is X G (facts_at z 29) (c.is 9)
    d_greatest_of := def_is X G (facts_at z 30) (c.is 10)
    d_is_in := def_is X G (facts_at z 31) (c.is 11)
    d_does_fit := def_is X G (facts_at z 32) (c.is 12)
    d_fitting := def_is X G (facts_at z 33) (c.is 13)
    d__law_purse := def_is X G (facts_at z 34) (c.is 14)
    d__law_draw := def_is X G (facts_at z 35) (c.is 15)
    d__law_pick := def_is X G (facts_at z 36) (c.is 16)
    d__law_tool := def_is X G (facts_at z 37) (c.is 17)
    d__law_made := def_is X G (facts_at z 38) (c.is 18)
    d__law_walk := def_is X G (facts_at z 39) (c.is 19)
    d__law_end := def_is X G (facts_at z 40) (c.is 20)
    d__law_is_in := def_is X G (facts_at z 41) (c.is 21)
    d__law_is_rope := def_is X G (facts_at z 42) (c.is 22)
    d__law_run := def_is X G (facts_at z 43) (c.is 23)
    d__law_rope := def_is X G (facts_at z 44) (c.is 24)
    d__law_right := def_is X G (facts_at z 45) (c.is 25)
    d_law := def_is X G (facts_at z 46) (c.is 26)
    c_MOST_LETTERS := cst_int X G (facts_at z 47)
    c_MOST_STATES := cst_int X G (facts_at z 48)
    c_MOST_COLOUR := cst_int X G (facts_at z 49)
    c_LETTERS := cst_str X G (facts_at z 50)
    c_DIGITS := cst_str X G (facts_at z 51)
    M := mach_is X G zM (c.is 27) (c.is 28) (c.is 29)
  }
end GH
open PySem PySem.W PySem.Calls PyProof.Rows
theorem PySem.Challenge.cw_guardhopes_k33_fitting_machines_holds : PySem.Challenge.rw_guardhopes_k33_fitting_machines.Holds := by
  w_on; o_law
  refine HandSHeadRun.head_any (r := OpenLaw.row PySem.Challenge.rw_guardhopes_k33_fitting_machines) (q := view (OpenLaw.row PySem.Challenge.rw_guardhopes_k33_fitting_machines).prog [43]) (H := GH.lawHook) (ob := GH.lawOb) (M := 4000) (loose := GH.lawOut) (d := HandSHeadRun.topDef (OpenLaw.row PySem.Challenge.rw_guardhopes_k33_fitting_machines).prog 43) (kwd := []) GH.lawOb_eq
    (by kernel_rfl) (fun s => by kernel_rfl) GH.lawRun (by kernel_rfl) (by kernel_rfl) (by kernel_rfl) (by rfl) (by first | assumption | decide +kernel) (by decide +kernel) ⟨rfl, rfl, rfl, rfl, rfl, by decide +kernel⟩ ?hw ?hc
  case hw => w_witness2
  case hc =>
    refine GH.go_walk (l := PySem.Challenge.rw_guardhopes_k33_fitting_machines) (n := 63) (k := 31) (x := "_law_script") rfl (by decide) (by kernel_rfl) ⟨rfl, by decide, by decide⟩ ?F
    intro w mg fa h Y G hmg0
    obtain ⟨K, KX, c⟩ := Y
    have e0 : (HandSHeadRun.topDef (OpenLaw.row PySem.Challenge.rw_guardhopes_k33_fitting_machines).prog 43).name = ("law" : PySem.Str) := by kernel_rfl
    rw [e0] at hmg0
    have T := GH.lawTxt KX G c
    obtain ⟨fd, hb, hF⟩ := GH.OkG.every (P := (PySem.Challenge.rw_guardhopes_k33_fitting_machines).prog) (w := w) (fun base => GH.o_law T) hmg0
    exact ⟨K, fd, GH.sp_law K, KX, hb, fun H a ns hl hS => ⟨a, ns, rfl, hS, hl, fun _ => rfl⟩, fun base => hF base⟩
