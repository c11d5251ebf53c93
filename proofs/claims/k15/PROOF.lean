import PyProof.Rows.All
import Wide.All
import OpenK.AllK
import Wide.FinOn
import HandS.ForMost
import HandS.Walk
import KE.GoesZip
import KE.GoesEnum
import HandS.Defaults
import HandS.WordsExc
import HandS.IsInst
import HandS.Star
import HandS.Style
import HandS.Property
import HandS.Replace
import HandS.Exc
import HandS.Codes
import HandS.HeadHook1
import HandS.RaiseMore
import PyProof.ReprLen
import PyProof.ReprRoads
import HandS.Ends
import HandS.HeadEnd
import HandS.TupMul
import HandS.Conv
import PyProof.ListStr
import HandS.Dict
import HandS.DictComp
import HandS.WordsDict
import PyProof.DictUpdate
import PyProof.FactsAll.dict_3
import PyProof.FactsAll.dict_4
import HandS.More
import HandS.Head0
import HandS.Head1
import HandS.Head2
import HandS.HeadHook2
import HandS.List
import PyProof.Claim2
import HandS.Iter
import HandS.TupAny
import HandS.Deep
import HandS.Text
import HandS.TupLen
import HandS.Comp
import PySem.Challenge.RW_guardhopes_k15_whole_watchable
set_option Elab.async false
set_option linter.all false
set_option maxRecDepth 100000
set_option maxHeartbeats 0
namespace GH
/-! endless words -/
abbrev W := Nat → Nat
def app (u : List Nat) (a : W) : W := fun n => if h : n < u.length then u[n] else a (n - u.length)
def rep (v : List Nat) : W := fun n => v.getD (n % v.length) 0
theorem app_lt {u : List Nat} {a : W} {n : Nat} (h : n < u.length) : app u a n = u[n] := by
  unfold app; rw [dif_pos h]
theorem app_ge {u : List Nat} {a : W} {n : Nat} (h : u.length ≤ n) : app u a n = a (n - u.length) := by
  unfold app; rw [dif_neg (by omega)]
theorem app_add (u : List Nat) (a : W) (n : Nat) : app u a (u.length + n) = a n := by
  rw [app_ge (by omega)]; congr 1; omega
theorem app_nil (a : W) : app [] a = a := by
  funext n; rw [app_ge (by simp)]; simp
theorem app_append (u v : List Nat) (a : W) : app (u ++ v) a = app u (app v a) := by
  funext n
  by_cases h : n < u.length
  · rw [app_lt (by simp; omega), app_lt h, List.getElem_append_left h]
  · rw [app_ge (u := u) (by omega)]
    by_cases h2 : n - u.length < v.length
    · rw [app_lt (by simp; omega), app_lt h2, List.getElem_append_right (by omega)]
    · rw [app_ge (by simp; omega), app_ge (by omega)]
      congr 1; simp; omega
/-- the one endless word that begins with v and goes on as itself -/
theorem rep_uniq {v : List Nat} (hv : v ≠ []) {a : W} (h : a = app v a) : a = rep v := by
  have hl : 0 < v.length := List.length_pos_iff.mpr hv
  funext n
  induction n using Nat.strongRecOn with
  | ind n ih =>
    rw [h]
    by_cases hn : n < v.length
    · rw [app_lt hn]
      unfold rep
      rw [Nat.mod_eq_of_lt hn, List.getD_eq_getElem?_getD, List.getElem?_eq_getElem hn]; rfl
    · rw [app_ge (by omega), ih _ (by omega)]
      unfold rep
      rw [← Nat.mod_eq_sub_mod (by omega)]
theorem app_rep {v : List Nat} (hv : v ≠ []) : app v (rep v) = rep v := by
  have hl : 0 < v.length := List.length_pos_iff.mpr hv
  funext n
  by_cases hn : n < v.length
  · rw [app_lt hn]
    unfold rep
    rw [Nat.mod_eq_of_lt hn, List.getD_eq_getElem?_getD, List.getElem?_eq_getElem hn]; rfl
  · rw [app_ge (by omega)]
    unfold rep
    rw [← Nat.mod_eq_sub_mod (by omega)]
def pow (v : List Nat) : Nat → List Nat
  | 0 => []
  | n + 1 => v ++ pow v n
theorem app_pow {v : List Nat} (hv : v ≠ []) : ∀ m, app (pow v m) (rep v) = rep v
  | 0 => app_nil _
  | m + 1 => by
    show app (v ++ pow v m) (rep v) = rep v
    rw [app_append, app_pow hv m, app_rep hv]
theorem pow_ne {v : List Nat} (hv : v ≠ []) {m : Nat} (hm : 0 < m) : pow v m ≠ [] := by
  cases m with
  | zero => omega
  | succ m =>
    intro h
    exact hv (List.append_eq_nil_iff.mp h).1
theorem rep_pow {v : List Nat} (hv : v ≠ []) {m : Nat} (hm : 0 < m) : rep (pow v m) = rep v :=
  (rep_uniq (pow_ne hv hm) (app_pow hv m).symm).symm
theorem rep_turn (v w : List Nat) (h : v ++ w ≠ []) : app v (rep (w ++ v)) = rep (v ++ w) := by
  have h2 : w ++ v ≠ [] := by
    intro e
    obtain ⟨a, b⟩ := List.append_eq_nil_iff.mp e
    exact h (by rw [a, b]; rfl)
  have e : app w (rep (v ++ w)) = rep (w ++ v) := rep_uniq h2 (by
    rw [app_append, ← app_append v w, app_rep h])
  rw [← e, ← app_append, app_rep h]
/-! machines: letters, rows (colour, next states) -/
abbrev Row := Nat × List Nat
def stp (L : List Nat) (R : List Row) (s c : Nat) : Nat := ((R.getD s (0, [])).2).getD (L.idxOf c) 0
def col (R : List Row) (s : Nat) : Nat := (R.getD s (0, [])).1
def way (L : List Nat) (R : List Row) : Nat → List Nat → List Nat
  | _, [] => []
  | s, c :: w => stp L R s c :: way L R (stp L R s c) w
def endS (L : List Nat) (R : List Row) (s : Nat) (w : List Nat) : Nat := w.foldl (stp L R) s
theorem way_append (L : List Nat) (R : List Row) : ∀ (u v : List Nat) (s : Nat), way L R s (u ++ v) = way L R s u ++ way L R (endS L R s u) v
  | [], _, _ => rfl
  | c :: u, v, s => by
    show stp L R s c :: way L R (stp L R s c) (u ++ v) = _
    rw [way_append L R u v]; rfl
theorem way_length (L : List Nat) (R : List Row) : ∀ (u : List Nat) (s : Nat), (way L R s u).length = u.length
  | [], _ => rfl
  | c :: u, s => by
    show (way L R (stp L R s c) u).length + 1 = u.length + 1
    rw [way_length L R u]
theorem way_last (L : List Nat) (R : List Row) : ∀ (u : List Nat) (s : Nat), (s :: way L R s u).getLast? = some (endS L R s u)
  | [], _ => rfl
  | c :: u, s => by
    show (s :: stp L R s c :: way L R (stp L R s c) u).getLast? = some (endS L R (stp L R s c) u)
    rw [List.getLast?_cons_cons, way_last L R u]
theorem endS_append (L : List Nat) (R : List Row) (u v : List Nat) (s : Nat) : endS L R s (u ++ v) = endS L R (endS L R s u) v := by
  unfold endS; rw [List.foldl_append]
/-- the run: the state behind n letters -/
def run (L : List Nat) (R : List Row) (s : Nat) (a : W) : Nat → Nat
  | 0 => s
  | n + 1 => stp L R (run L R s a n) (a n)
theorem run_shift (L : List Nat) (R : List Row) (s : Nat) (a : W) : ∀ n m, run L R s a (n + m) = run L R (run L R s a n) (fun k => a (n + k)) m
  | n, 0 => rfl
  | n, m + 1 => by
    show stp L R (run L R s a (n + m)) (a (n + m)) = _
    rw [run_shift L R s a n m]; rfl
theorem run_app (L : List Nat) (R : List Row) : ∀ (u : List Nat) (s : Nat) (a : W), run L R s (app u a) u.length = endS L R s u
  | [], _, _ => rfl
  | c :: u, s, a => by
    have e : run L R s (app (c :: u) a) (1 + u.length) = run L R (run L R s (app (c :: u) a) 1) (fun k => app (c :: u) a (1 + k)) u.length := run_shift ..
    have e1 : run L R s (app (c :: u) a) 1 = stp L R s c := rfl
    have e2 : (fun k => app (c :: u) a (1 + k)) = app u a := by
      funext k
      have := app_append [c] u a
      show app ([c] ++ u) a (1 + k) = app u a k
      rw [this, show 1 = [c].length from rfl, app_add]
    rw [List.length_cons, Nat.add_comm, e, e1, e2, run_app L R u]; rfl
theorem run_app_add (L : List Nat) (R : List Row) (u : List Nat) (s : Nat) (a : W) (n : Nat) : run L R s (app u a) (u.length + n) = run L R (endS L R s u) a n := by
  rw [run_shift, run_app]
  congr 1
  funext k
  exact app_add u a k
theorem run_way (L : List Nat) (R : List Row) : ∀ (u : List Nat) (s : Nat) (a : W) (i : Nat) (h : i < u.length), (way L R s u)[i]? = some (run L R s (app u a) (i + 1))
  | c :: u, s, a, 0, h => by
    show some (stp L R s c) = some (stp L R s (app (c :: u) a 0))
    rw [app_lt (by simp)]; rfl
  | c :: u, s, a, i + 1, h => by
    have h' : i < u.length := by simpa using h
    show (way L R (stp L R s c) u)[i]? = _
    rw [run_way L R u (stp L R s c) a i h']
    have e : app (c :: u) a = app [c] (app u a) := app_append [c] u a
    have e2 := run_app_add L R [c] s (app u a) (i + 1)
    rw [e, show i + 1 + 1 = [c].length + (i + 1) by simp; omega, e2]; rfl
/-- a colour comes again and again -/
def Io (L : List Nat) (R : List Row) (s : Nat) (a : W) (c : Nat) : Prop := ∀ n, ∃ m, n ≤ m ∧ col R (run L R s a (m + 1)) = c
/-- the endless run from s lies in the wish -/
def Lies (L : List Nat) (R : List Row) (s : Nat) (a : W) : Prop := ∃ c, Io L R s a c ∧ (∀ c', Io L R s a c' → c' ≤ c) ∧ c % 2 = 0
theorem Io_app (L : List Nat) (R : List Row) (u : List Nat) (s : Nat) (a : W) (c : Nat) : Io L R s (app u a) c ↔ Io L R (endS L R s u) a c := by
  constructor
  · intro h n
    obtain ⟨m, hm, e⟩ := h (u.length + n)
    refine ⟨m - u.length, by omega, ?_⟩
    rw [← run_app_add L R u s a, show u.length + (m - u.length + 1) = m + 1 by omega]
    exact e
  · intro h n
    obtain ⟨m, hm, e⟩ := h n
    refine ⟨u.length + m, by omega, ?_⟩
    rw [show u.length + m + 1 = u.length + (m + 1) by omega, run_app_add]
    exact e
theorem Lies_app (L : List Nat) (R : List Row) (u : List Nat) (s : Nat) (a : W) : Lies L R s (app u a) ↔ Lies L R (endS L R s u) a := by
  unfold Lies
  simp only [Io_app]
/-- the greatest of some numbers -/
def IsMax (l : List Nat) (m : Nat) : Prop := m ∈ l ∧ ∀ x ∈ l, x ≤ m
/-- if the colours that come again and again are those of a list, its greatest decides -/
theorem lies_of_max {L : List Nat} {R : List Row} {s : Nat} {a : W} {l : List Nat} {m : Nat} (h : ∀ c, Io L R s a c ↔ c ∈ l) (hm : IsMax l m) : Lies L R s a ↔ m % 2 = 0 := by
  constructor
  · rintro ⟨c, h1, h2, h3⟩
    have e : c = m := Nat.le_antisymm (hm.2 c ((h c).mp h1)) (h2 m ((h m).mpr hm.1))
    rw [← e]; exact h3
  · intro e
    exact ⟨m, (h m).mpr hm.1, fun c' h' => hm.2 c' ((h c').mp h'), e⟩
/-! a round that is gone through again and again -/
def iter (f : Nat → Nat) : Nat → Nat → Nat
  | 0, s => s
  | n + 1, s => iter f n (f s)
theorem iter_succ (f : Nat → Nat) : ∀ n s, iter f (n + 1) s = f (iter f n s)
  | 0, _ => rfl
  | n + 1, s => iter_succ f n (f s)
theorem iter_add (f : Nat → Nat) : ∀ n m s, iter f (n + m) s = iter f m (iter f n s)
  | 0, m, s => by rw [Nat.zero_add]; rfl
  | n + 1, m, s => by rw [Nat.succ_add]; exact iter_add f n m (f s)
theorem endS_pow (L : List Nat) (R : List Row) (v : List Nat) : ∀ n s, endS L R s (pow v n) = iter (fun x => endS L R x v) n s
  | 0, _ => rfl
  | n + 1, s => by
    show endS L R s (v ++ pow v n) = _
    rw [endS_append, endS_pow L R v n]; rfl
theorem pow_length (v : List Nat) : ∀ n, (pow v n).length = n * v.length
  | 0 => by simp [pow]
  | n + 1 => by
    show (v ++ pow v n).length = _
    rw [List.length_append, pow_length v n, Nat.succ_mul, Nat.add_comm]
/-- behind n rounds, i letters more -/
theorem run_rep {L : List Nat} {R : List Row} {v : List Nat} (hv : v ≠ []) (s n i : Nat) (hi : i < v.length) :
    (way L R (iter (fun x => endS L R x v) n s) v)[i]? = some (run L R s (rep v) (n * v.length + i + 1)) := by
  rw [run_way L R v _ (rep v) i hi, app_rep hv]
  have e := run_app_add L R (pow v n) s (rep v) (i + 1)
  rw [app_pow hv, pow_length, endS_pow] at e
  rw [show n * v.length + i + 1 = n * v.length + (i + 1) by omega, e]
/-- the states come round: from j on with the period p -/
theorem iter_period {f : Nat → Nat} {s j p : Nat} (h : iter f (j + p) s = iter f j s) : ∀ q r, iter f (j + q * p + r) s = iter f (j + r) s
  | 0, r => by simp
  | q + 1, r => by
    have e : j + (q + 1) * p + r = (j + p) + (q * p + r) := by rw [Nat.succ_mul]; omega
    rw [e, iter_add, h, ← iter_add, show j + (q * p + r) = j + q * p + r by omega, iter_period h q r]
theorem io_rep {L : List Nat} {R : List Row} {v : List Nat} (hv : v ≠ []) {s j p : Nat} (hp : 0 < p) (h : iter (fun x => endS L R x v) (j + p) s = iter (fun x => endS L R x v) j s) (c : Nat) :
    Io L R s (rep v) c ↔ ∃ r, r < p ∧ ∃ x ∈ way L R (iter (fun x => endS L R x v) (j + r) s) v, col R x = c := by
  have hl : 0 < v.length := List.length_pos_iff.mpr hv
  constructor
  · intro hio
    obtain ⟨m, hm, e⟩ := hio (j * v.length)
    have e1 : m / v.length * v.length + m % v.length + 1 = m + 1 := by
      rw [Nat.mul_comm, Nat.div_add_mod]
    have hi : m % v.length < v.length := Nat.mod_lt _ hl
    have hq : j ≤ m / v.length := (Nat.le_div_iff_mul_le hl).mpr hm
    have hr := run_rep (L := L) (R := R) hv s (m / v.length) (m % v.length) hi
    rw [e1] at hr
    refine ⟨(m / v.length - j) % p, Nat.mod_lt _ hp, run L R s (rep v) (m + 1), ?_, e⟩
    have e2 : m / v.length = j + (m / v.length - j) / p * p + (m / v.length - j) % p := by
      have := Nat.div_add_mod (m / v.length - j) p
      rw [Nat.mul_comm] at this
      omega
    rw [e2, iter_period h] at hr
    exact List.mem_of_getElem? hr
  · rintro ⟨r, hr, x, hx, e⟩ n
    obtain ⟨i, hi⟩ := List.getElem?_of_mem hx
    have hil : i < v.length := by
      have := (List.getElem?_eq_some_iff.mp hi).1
      rw [way_length] at this; exact this
    refine ⟨(j + n * p + r) * v.length + i, ?_, ?_⟩
    · have h1 : n ≤ n * p := Nat.le_mul_of_pos_right n hp
      have h2 : n * p ≤ (j + n * p + r) := by omega
      have h3 : (j + n * p + r) ≤ (j + n * p + r) * v.length := Nat.le_mul_of_pos_right _ hl
      omega
    · have hh := run_rep (L := L) (R := R) hv s (j + n * p + r) i hil
      rw [iter_period h, hi] at hh
      rw [← Option.some.inj hh]; exact e
end GH
namespace GH
theorem nodup_bound : ∀ (n : Nat) (l : List Nat), l.Nodup → (∀ x ∈ l, x < n) → l.length ≤ n
  | 0, l, _, h => by
    cases l with
    | nil => simp
    | cons a r => exact absurd (h a (by simp)) (by omega)
  | n + 1, l, nd, h => by
    by_cases hm : n ∈ l
    · have ih := nodup_bound n (l.erase n) (nd.erase n) (fun x hx => by
        have := (nd.mem_erase_iff).mp hx
        have := h x this.2
        omega)
      rw [List.length_erase_of_mem hm] at ih
      omega
    · have ih := nodup_bound n l nd (fun x hx => by
        have := h x hx
        have : x ≠ n := fun e => hm (e ▸ hx)
        omega)
      omega
/-- the states behind so many rounds -/
def orbit (f : Nat → Nat) (s k : Nat) : List Nat := (List.range k).map fun i => iter f i s
theorem orbit_succ (f : Nat → Nat) (s k : Nat) : orbit f s (k + 1) = orbit f s k ++ [iter f k s] := by
  unfold orbit; rw [List.range_succ, List.map_append]; rfl
theorem orbit_length (f : Nat → Nat) (s k : Nat) : (orbit f s k).length = k := by simp [orbit]
theorem orbit_get {f : Nat → Nat} {s k i : Nat} (h : i < k) : (orbit f s k)[i]? = some (iter f i s) := by simp [orbit, h]
/-- the states that are gone through in the rounds from j on -/
def rounds (L : List Nat) (R : List Row) (v : List Nat) (s j n : Nat) : List Nat := (List.range' j n).flatMap fun i => way L R (iter (fun x => endS L R x v) i s) v
theorem rounds_succ (L : List Nat) (R : List Row) (v : List Nat) (s j n : Nat) : rounds L R v s j (n + 1) = rounds L R v s j n ++ way L R (iter (fun x => endS L R x v) (j + n) s) v := by
  unfold rounds
  rw [List.range'_concat, List.flatMap_append]
  simp
theorem rounds_ne {L : List Nat} {R : List Row} {v : List Nat} {s j n : Nat} (hv : v ≠ []) (hn : 0 < n) : rounds L R v s j n ≠ [] := by
  intro e
  cases n with
  | zero => omega
  | succ n =>
    rw [rounds_succ] at e
    have z := (List.append_eq_nil_iff.mp e).2
    have := way_length L R v (iter (fun x => endS L R x v) (j + n) s)
    rw [z] at this
    exact hv (List.length_eq_zero_iff.mp this.symm)
theorem lies_rounds {L : List Nat} {R : List Row} {u v : List Nat} (hv : v ≠ []) {j k m : Nat} (hj : j < k) (h : iter (fun x => endS L R x v) k (endS L R 0 u) = iter (fun x => endS L R x v) j (endS L R 0 u))
    (hm : IsMax ((rounds L R v (endS L R 0 u) j (k - j)).map (col R)) m) : Lies L R 0 (app u (rep v)) ↔ m % 2 = 0 := by
  rw [Lies_app]
  refine lies_of_max (fun c => ?_) hm
  have h' : iter (fun x => endS L R x v) (j + (k - j)) (endS L R 0 u) = iter (fun x => endS L R x v) j (endS L R 0 u) := by
    rw [show j + (k - j) = k by omega]; exact h
  rw [io_rep hv (by omega : 0 < k - j) h' c]
  constructor
  · rintro ⟨r, hr, x, hx, e⟩
    refine List.mem_map.mpr ⟨x, ?_, e⟩
    exact List.mem_flatMap.mpr ⟨j + r, by simp; omega, hx⟩
  · intro hc
    obtain ⟨x, hx, e⟩ := List.mem_map.mp hc
    obtain ⟨i, hi, hx⟩ := List.mem_flatMap.mp hx
    have hi' : j ≤ i ∧ i < j + (k - j) := by
      have := List.mem_range'.mp hi
      obtain ⟨a, h1, h2⟩ := this
      omega
    exact ⟨i - j, by omega, x, by rw [show j + (i - j) = i by omega]; exact hx, e⟩
/-- states stay states -/
def Closed (L : List Nat) (R : List Row) : Prop := ∀ s c, s < R.length → c ∈ L → stp L R s c < R.length
theorem way_lt {L : List Nat} {R : List Row} (hc : Closed L R) : ∀ (w : List Nat) (s : Nat), s < R.length → (∀ c ∈ w, c ∈ L) → ∀ x ∈ way L R s w, x < R.length
  | [], _, _, _, x, hx => by cases hx
  | c :: w, s, hs, hw, x, hx => by
    have h1 := hc s c hs (hw c (by simp))
    rcases List.mem_cons.mp hx with e | e
    · rw [e]; exact h1
    · exact way_lt hc w _ h1 (fun d hd => hw d (by simp [hd])) x e
theorem endS_lt {L : List Nat} {R : List Row} (hc : Closed L R) : ∀ (w : List Nat) (s : Nat), s < R.length → (∀ c ∈ w, c ∈ L) → endS L R s w < R.length
  | [], _, hs, _ => hs
  | c :: w, s, hs, hw => endS_lt hc w _ (hc s c hs (hw c (by simp))) fun d hd => hw d (by simp [hd])
theorem iter_lt {L : List Nat} {R : List Row} (hc : Closed L R) {v : List Nat} (hv : ∀ c ∈ v, c ∈ L) : ∀ (k s : Nat), s < R.length → iter (fun x => endS L R x v) k s < R.length
  | 0, _, hs => hs
  | k + 1, s, hs => iter_lt hc hv k _ (endS_lt hc v s hs hv)
theorem rounds_lt {L : List Nat} {R : List Row} (hc : Closed L R) {v : List Nat} (hv : ∀ c ∈ v, c ∈ L) {s : Nat} (hs : s < R.length) (j n : Nat) : ∀ x ∈ rounds L R v s j n, x < R.length := by
  intro x hx
  obtain ⟨i, _, hx⟩ := List.mem_flatMap.mp hx
  exact way_lt hc v _ (iter_lt hc hv i s hs) hv x hx
theorem rounds_length (L : List Nat) (R : List Row) (v : List Nat) (s j : Nat) : ∀ n, (rounds L R v s j n).length = n * v.length
  | 0 => by simp [rounds]
  | n + 1 => by rw [rounds_succ, List.length_append, rounds_length L R v s j n, way_length, Nat.succ_mul]
end GH
namespace GH
/-! lassos that tell the same run -/
theorem same1 {u v : List Nat} (hv : v ≠ []) {m : Nat} (hm : 0 < m) : app u (rep (pow v m)) = app u (rep v) := by rw [rep_pow hv hm]
theorem same3 {u v : List Nat} (hv : v ≠ []) : app (u ++ v) (rep v) = app u (rep v) := by rw [app_append, app_rep hv]
theorem turn_take {v : List Nat} (hv : v ≠ []) (k : Nat) : app (v.take k) (rep (v.drop k ++ v.take k)) = rep v := by
  rw [rep_turn (v.take k) (v.drop k) (by rw [List.take_append_drop]; exact hv), List.take_append_drop]
theorem turned_ne {v : List Nat} (hv : v ≠ []) (k : Nat) : v.drop k ++ v.take k ≠ [] := by
  intro h
  have e := congrArg List.length h
  have : 0 < v.length := List.length_pos_iff.mpr hv
  simp only [List.length_append, List.length_drop, List.length_take, List.length_nil] at e
  omega
theorem same4 {u v : List Nat} (hv : v ≠ []) (k : Nat) : app (u ++ v.take k) (rep (v.drop k ++ v.take k)) = app u (rep v) := by
  rw [app_append, turn_take hv]
theorem same5 {u v : List Nat} (hv : v ≠ []) (k : Nat) {m : Nat} (hm : 0 < m) : app (u ++ pow v m ++ v.take k) (rep (pow (v.drop k ++ v.take k) m)) = app u (rep v) := by
  rw [rep_pow (turned_ne hv k) hm, app_append, app_append, turn_take hv, app_pow hv]
theorem same6 (u v : List Nat) (c : Nat) : app u (rep (c :: v)) = app (u ++ [c]) (rep (v ++ [c])) := by
  rw [app_append, rep_turn [c] v (by simp)]; rfl
theorem rep_mem {v : List Nat} (hv : v ≠ []) (n : Nat) : rep v n ∈ v := by
  have hl : 0 < v.length := List.length_pos_iff.mpr hv
  unfold rep
  rw [List.getD_eq_getElem?_getD, List.getElem?_eq_getElem (Nat.mod_lt n hl)]
  exact List.getElem_mem _
theorem app_mem {u v L : List Nat} (hv : v ≠ []) (h1 : ∀ c ∈ u, c ∈ L) (h2 : ∀ c ∈ v, c ∈ L) (n : Nat) : app u (rep v) n ∈ L := by
  by_cases h : n < u.length
  · rw [app_lt h]; exact h1 _ (List.getElem_mem h)
  · rw [app_ge (by omega)]; exact h2 _ (rep_mem hv _)
/-! two states exchanged -/
def sw (a k : Nat) : Nat := if k = 0 then a else if k = a then 0 else k
theorem sw_sw (a k : Nat) : sw a (sw a k) = k := by
  unfold sw
  by_cases h0 : k = 0
  · subst h0
    rw [if_pos rfl]
    by_cases ha : a = 0
    · rw [if_pos ha, ha]
    · rw [if_neg ha, if_pos rfl]
  · rw [if_neg h0]
    by_cases h1 : k = a
    · rw [if_pos h1, if_pos rfl, h1]
    · rw [if_neg h1, if_neg h0, if_neg h1]
theorem sw_lt {a k n : Nat} (ha : a < n) (hk : k < n) : sw a k < n := by
  unfold sw
  by_cases h0 : k = 0
  · rw [if_pos h0]; exact ha
  · rw [if_neg h0]
    by_cases h1 : k = a
    · rw [if_pos h1]; omega
    · rw [if_neg h1]; exact hk
def swRow (R : List Row) (a k : Nat) : Row := (col R (sw a k), (R.getD (sw a k) (0, [])).2.map (sw a))
def swR (R : List Row) (a : Nat) : List Row := (List.range R.length).map (swRow R a)
theorem swR_length (R : List Row) (a : Nat) : (swR R a).length = R.length := by simp [swR]
theorem swR_get {R : List Row} {a s : Nat} (hs : s < R.length) : (swR R a).getD s (0, []) = swRow R a s := by
  rw [List.getD_eq_getElem?_getD]
  unfold swR
  rw [List.getElem?_map, List.getElem?_range hs]; rfl
theorem swR_col {R : List Row} {a s : Nat} (hs : s < R.length) : col (swR R a) s = col R (sw a s) := by
  unfold col
  rw [swR_get hs]; rfl
theorem swR_stp {L : List Nat} {R : List Row} {a s c : Nat} (hs : s < R.length) (hc : L.idxOf c < ((R.getD (sw a s) (0, [])).2).length) : stp L (swR R a) s c = sw a (stp L R (sw a s) c) := by
  unfold stp
  rw [swR_get hs]
  show ((R.getD (sw a s) (0, [])).2.map (sw a)).getD (L.idxOf c) 0 = _
  rw [List.getD_eq_getElem?_getD, List.getElem?_map, List.getElem?_eq_getElem hc, List.getD_eq_getElem?_getD (l := (R.getD (sw a s) (0, [])).2), List.getElem?_eq_getElem hc]
  rfl
theorem run_lt {L : List Nat} {R : List Row} (hc : Closed L R) {s : Nat} (hs : s < R.length) {x : W} (hx : ∀ n, x n ∈ L) : ∀ n, run L R s x n < R.length
  | 0 => hs
  | n + 1 => hc _ _ (run_lt hc hs hx n) (hx n)
/-- rows as long as the letters -/
def Full (L : List Nat) (R : List Row) : Prop := ∀ s c, s < R.length → c ∈ L → L.idxOf c < ((R.getD s (0, [])).2).length
theorem swR_run {L : List Nat} {R : List Row} (hc : Closed L R) (hf : Full L R) {a s : Nat} (ha : a < R.length) (hs : s < R.length) {x : W} (hx : ∀ n, x n ∈ L) : ∀ n, run L (swR R a) s x n = sw a (run L R (sw a s) x n)
  | 0 => by show s = sw a (sw a s); rw [sw_sw]
  | n + 1 => by
    have h1 := run_lt hc (sw_lt ha hs) hx n
    show stp L (swR R a) (run L (swR R a) s x n) (x n) = sw a (stp L R (run L R (sw a s) x n) (x n))
    rw [swR_run hc hf ha hs hx n, swR_stp (sw_lt ha h1) (hf _ _ (by rw [sw_sw]; exact h1) (hx n)), sw_sw]
theorem swR_lies {L : List Nat} {R : List Row} (hc : Closed L R) (hf : Full L R) {a s : Nat} (ha : a < R.length) (hs : s < R.length) {x : W} (hx : ∀ n, x n ∈ L) : Lies L (swR R a) s x ↔ Lies L R (sw a s) x := by
  have e : ∀ c, Io L (swR R a) s x c ↔ Io L R (sw a s) x c := fun c => by
    unfold Io
    have e1 : ∀ m, col (swR R a) (run L (swR R a) s x (m + 1)) = col R (run L R (sw a s) x (m + 1)) := fun m => by
      have h1 := run_lt hc (sw_lt ha hs) hx (m + 1)
      rw [swR_run hc hf ha hs hx, swR_col (sw_lt ha h1), sw_sw]
    simp only [e1]
  unfold Lies
  simp only [e]
end GH
namespace GH
/-! states come back -/
theorem comes_back {f : Nat → Nat} {n s : Nat} (h : ∀ k, iter f k s < n) : ∃ j p, 0 < p ∧ j + p ≤ n ∧ iter f (j + p) s = iter f j s := by
  apply Classical.byContradiction
  intro hn
  have no : ∀ j p, 0 < p → j + p ≤ n → iter f (j + p) s ≠ iter f j s := fun j p h1 h2 e => hn ⟨j, p, h1, h2, e⟩
  have nd : ∀ k, k ≤ n + 1 → (orbit f s k).Nodup := by
    intro k
    induction k with
    | zero => intro _; exact List.nodup_nil
    | succ k ih =>
      intro hk
      rw [orbit_succ, List.nodup_append]
      refine ⟨ih (by omega), by simp, fun a ha b hb => ?_⟩
      rw [List.mem_singleton.mp hb]
      obtain ⟨i, hi, rfl⟩ := List.mem_map.mp ha
      have hi' : i < k := by simpa using hi
      intro e
      refine no i (k - i) (by omega) (by omega) ?_
      rw [show i + (k - i) = k by omega]; exact e.symm
  have := nodup_bound n _ (nd (n + 1) (Nat.le_refl _)) (fun x hx => by
    obtain ⟨i, _, rfl⟩ := List.mem_map.mp hx
    exact h i)
  rw [orbit_length] at this
  omega
/-- behind n rounds, n rounds more show what is met again and again -/
theorem lies_window {L : List Nat} {R : List Row} {u v : List Nat} (hv : v ≠ []) {n m : Nat} (hlt : ∀ k, iter (fun x => endS L R x v) k (endS L R 0 u) < n)
    (hm : IsMax ((rounds L R v (endS L R 0 u) n n).map (col R)) m) : Lies L R 0 (app u (rep v)) ↔ m % 2 = 0 := by
  obtain ⟨j, p, hp, hjp, h⟩ := comes_back hlt
  have h' : iter (fun x => endS L R x v) (n + p) (endS L R 0 u) = iter (fun x => endS L R x v) n (endS L R 0 u) := by
    have := iter_period h 1 (n - j)
    rw [show j + 1 * p + (n - j) = n + p by omega, show j + (n - j) = n by omega] at this
    exact this
  rw [Lies_app]
  refine lies_of_max (fun c => ?_) hm
  rw [io_rep hv hp h' c]
  constructor
  · rintro ⟨r, hr, x, hx, e⟩
    refine List.mem_map.mpr ⟨x, ?_, e⟩
    exact List.mem_flatMap.mpr ⟨n + r, by simp; omega, hx⟩
  · intro hc
    obtain ⟨x, hx, e⟩ := List.mem_map.mp hc
    obtain ⟨i, hi, hx⟩ := List.mem_flatMap.mp hx
    obtain ⟨a, h1, h2⟩ := List.mem_range'.mp hi
    have e2 : i = n + a / p * p + a % p := by
      have := Nat.div_add_mod a p
      rw [Nat.mul_comm] at this
      omega
    refine ⟨a % p, Nat.mod_lt _ hp, x, ?_, e⟩
    rw [e2, iter_period h'] at hx
    exact hx
/-- a state that leads to itself -/
theorem lies_lone {L : List Nat} {c : Nat} {g : List Nat} (hg : ∀ t ∈ g, t = 0) (a : W) : Lies L [(c, g)] 0 a ↔ c % 2 = 0 := by
  have hs : ∀ x, stp L [(c, g)] 0 x = 0 := fun x => by
    show (g.getD (L.idxOf x) 0) = 0
    rw [List.getD_eq_getElem?_getD]
    cases e : g[L.idxOf x]? with
    | none => rfl
    | some t => exact hg t (List.mem_of_getElem? e)
  have hr : ∀ (n : Nat) (b : W), run L [(c, g)] 0 b n = 0 := by
    intro n
    induction n with
    | zero => intro b; rfl
    | succ n ih =>
      intro b
      have := run_shift L [(c, g)] 0 b n 1
      rw [this, ih]
      exact hs _
  have io : ∀ d, Io L [(c, g)] 0 a d ↔ d ∈ [c] := fun d => by
    constructor
    · intro h
      obtain ⟨m, _, e⟩ := h 0
      rw [hr] at e
      rw [← e]; simp [col]
    · intro h n
      refine ⟨n, Nat.le_refl _, ?_⟩
      rw [hr, List.mem_singleton.mp h]
      simp [col]
  exact lies_of_max io ⟨by simp, by simp⟩
end GH
namespace GH
open PySem PySem.Spec PyProof.Rows L2
/-! what enumerate and zip draw from: a text, a tuple -/
inductive Src where
  | txt (x : Str)
  | tup (a : Addr) (xs : List V)
namespace Src
def val : Src → V
  | .txt x => .str x
  | .tup a _ => .ref a
def items : Src → List V
  | .txt x => x.cps.toList.map fun c => V.str ⟨#[c]⟩
  | .tup _ xs => xs
def At (K : PySem.W.Frag) (H : Hp) : Src → Prop
  | .txt _ => True
  | .tup a xs => SqT K H a xs
/-- the iterator at it has drawn i -/
def On (h : Heap) (it : Addr) (i : Nat) : Src → Prop
  | .txt x => ∃ t, h.IsStrIter it (strIterType x) x t i
  | .tup a _ => h.IsTupleIter it a i
theorem On.move {h h' : Heap} {it : Addr} {i : Nat} : ∀ {s : Src}, s.On h it i → (∀ o, h.get? it = some o → h'.get? it = some o) → s.On h' it i
  | .txt _, ⟨t, ob, q, r⟩, k => ⟨t, ob, k ob q, r⟩
  | .tup _ _, st, k => Heap.IsTupleIter.at st k
theorem On.obj {h : Heap} {it : Addr} {i : Nat} : ∀ {s : Src}, s.On h it i → ∃ o, h.get? it = some o ∧ ∀ v, o.data ≠ .cell v
  | .txt _, ⟨t, ob, q, _, d⟩ => ⟨ob, q, fun v z => by rw [d] at z; cases z⟩
  | .tup _ _, ⟨ob, q, _, d⟩ => ⟨ob, q, fun v z => by rw [d] at z; cases z⟩
/-- what the library's rules ask of it at a state -/
structure Gives (X : Cx) (s : Shared) (A : Around) (H : Hp) (it : Addr) (i : Nat) (src : Src) (fp : List Addr) (P : Nat → Value → Prop) (St : Nat → Heap → Prop) : Prop where
  d : Draws X.prog X.w A it fp src.items.length P St
  st : St i s.heap
  mem : it ∈ fp
  sub : ∀ b ∈ fp, b = it ∨ (H b ≠ none ∨ ∃ o, X.base.get? b = some o)
  yl : ∀ j v, P j v → ∃ x, src.items[j]? = some x ∧ RelV x v
  on : ∀ j h, St j h → src.On h it j
theorem gives {X : Cx} {pins : List (Addr × Obj)} {σ : L2.St} {H : Hp} {s : Shared} {A : Around} {it : Addr} {i : Nat} (hh : A.handled = none) (I : Inv X pins σ H s) : ∀ {src : Src}, src.At X.K H → src.On s.heap it i → ∃ fp P St, Gives X s A H it i src fp P St
  | .txt x, _, ⟨t, on⟩ => by
    have e : (Src.txt x).items.length = x.cps.size := by simp [items]
    have d := Draws.text (prog := X.prog) (w := X.w) hh it x t
    rw [← e] at d
    refine ⟨[it], _, _, ⟨d, on, by simp, fun b hb => .inl (by simpa using hb), fun j v hv => ?_, fun j h st => ⟨t, st⟩⟩⟩
    obtain ⟨c, u, hc, rfl⟩ := hv
    exact ⟨.str ⟨#[c]⟩, by simp [items, hc], u, rfl⟩
  | .tup a xs, hat, on => by
    have hat' : SqT X.K H a xs := hat
    obtain ⟨its, rv, p, _⟩ := I.tuple hat'
    have hne : a ≠ it := by
      intro e
      obtain ⟨o, ho, hc, n, hd⟩ := p
      obtain ⟨o2, ho2, hc2, hd2⟩ := on
      rw [e, ho2] at ho
      cases ho
      rw [hc] at hc2
      exact absurd hc2 (by decide)
    have el : its.toArray.size = xs.length := by
      have := rv.length
      simp [this]
    have d := Draws.tuple (prog := X.prog) (w := X.w) hh it a hne its.toArray
    rw [show its.toArray.size = (Src.tup a xs).items.length from el] at d
    refine ⟨[it, a], _, _, ⟨d, ⟨on, p⟩, by simp, fun b hb => ?_, fun j v hv => ?_, fun j h st => st.1⟩⟩
    · have e' : b = it ∨ b = a := by simpa using hb
      rcases e' with z | z
      · exact .inl z
      · refine .inr ?_
        rw [z]
        rcases hat' with (h1 | ⟨o, h1⟩) | h1
        · exact .inl (by rw [h1]; simp)
        · exact .inl (by rw [h1]; simp)
        · obtain ⟨o, its2, n2, lk, _⟩ := h1
          exact .inr ⟨o, I.ok.mod.kin _ _ lk⟩
    · have hv' : its[j]? = some v := by simpa using hv
      cases hx : xs[j]? with
      | none =>
        have := rv.none_of hx
        rw [this] at hv'; cases hv'
      | some x =>
        obtain ⟨u, hu, ru⟩ := rv.get hx
        rw [hu] at hv'
        cases hv'
        exact ⟨x, hx, ru⟩
/-- an iterator's own cell is none of what is read -/
theorem Gives.out {X : Cx} {pins : List (Addr × Obj)} {σ : L2.St} {H : Hp} {s : Shared} {A : Around} {it b : Addr} {i : Nat} {src : Src} {fp : List Addr} {P : Nat → Value → Prop} {St : Nat → Heap → Prop} (g : Gives X s A H it i src fp P St) (I : Inv X pins σ H s) (hb : FpOk X pins H b) (hx : X.base.get? b = none) (hne : b ≠ it) : b ∉ fp := fun hm => by
  rcases g.sub b hm with z | z | ⟨o, z⟩
  · exact hne z
  · exact z hb.1
  · rw [hx] at z; cases z
end Src
end GH
namespace GH
open PySem PySem.Spec PyProof.Rows L2
theorem fp_base {X : Cx} {pins : List (Addr × Obj)} {σ : L2.St} {H : Hp} {s : Shared} {b : Addr} (I : Inv X pins σ H s) (f : FpOk X pins H b) : X.base.get? b = none := by
  cases e : X.base.get? b with
  | none => rfl
  | some o =>
    rcases f.2.2.2.1 with z | z
    · exact absurd z (I.ok.noex b o e)
    · exact absurd (Nat.lt_of_lt_of_le (Heap.lt_size (I.ok.bs b o e).1) z) (Nat.lt_irrefl _)
/-! zip of two -/
def ItZ (K : PySem.W.Frag) (s1 s2 : Src) : It where
  go := fun i H => s1.At K H ∧ s2.At K H ∧ i < s1.items.length ∧ i < s2.items.length
  yld := fun i H v H' => ∃ T x y, v = .ref T ∧ H T = none ∧ H' = upd H T (.tup [x, y]) ∧ s1.items[i]? = some x ∧ s2.items[i]? = some y
  stop := fun i H => s1.At K H ∧ s2.At K H ∧ i = min s1.items.length s2.items.length
structure Five (z TI TO i1 i2 : Addr) : Prop where
  a1 : TI ≠ z
  a2 : TO ≠ z
  a3 : TI ≠ TO
  a4 : TI ≠ i1
  a5 : TI ≠ i2
  a6 : z ≠ i1
  a7 : z ≠ i2
  a8 : TO ≠ i1
  a9 : TO ≠ i2
  a0 : i1 ≠ i2
theorem five_of (n : Nat) : Five (n + 4) (n + 2) (n + 3) n (n + 1) := by
  constructor <;> (show (_ : Nat) ≠ _) <;> omega
theorem turn_zipG {P : Program} {w : World} {K : PySem.W.Frag} {elts : List Expr} {kk : Nat} {tpos : Pos} {z TI TO i1 i2 : Addr} {s1 s2 : Src} (F : Five z TI TO i1 i2) :
    Turn P w K (.Tuple elts kk tpos) (ItZ K s1 s2) [z, TI, TO, i1, i2] z (fun i h => IsZip h z TI TO .none ∧ IsTupOf2 h TI (.ref i1) (.ref i2) ∧ (∃ p q, IsTupOf2 h TO p q) ∧ s1.On h i1 i ∧ s2.On h i2 i) where
  mem := by simp
  obj := fun i h st c hc => by
    obtain ⟨hz, hI, ⟨p, q, hO⟩, h1, h2⟩ := st
    have e : c = z ∨ c = TI ∨ c = TO ∨ c = i1 ∨ c = i2 := by simpa using hc
    rcases e with rfl | rfl | rfl | rfl | rfl
    · exact ⟨_, hz, fun v q => nomatch q⟩
    · exact ⟨_, hI, fun v q => nomatch q⟩
    · exact ⟨_, hO, fun v q => nomatch q⟩
    · exact h1.obj
    · exact h2.obj
  keep := fun i h h' st k => by
    obtain ⟨hz, hI, ⟨p, q, hO⟩, h1, h2⟩ := st
    exact ⟨k z (by simp) _ hz, k TI (by simp) _ hI, ⟨p, q, k TO (by simp) _ hO⟩, h1.move fun o e => k i1 (by simp) o e, h2.move fun o e => k i2 (by simp) o e⟩
  item := by
    intro X eP ew eK hc i pins s σ H E I hf st hg
    subst eP ew eK
    obtain ⟨hz, hI, ⟨p, q, hO⟩, h1, h2⟩ := st
    obtain ⟨A1, A2, l1, l2⟩ := hg
    obtain ⟨fp1, P1, S1, g1⟩ := Src.gives (A := X.A.in1) (it := i1) (i := i) (src := s1) (I.ok.hd hc) I A1 h1
    obtain ⟨fp2, P2, S2, g2⟩ := Src.gives (A := X.A.in1) (it := i2) (i := i) (src := s2) (I.ok.hd hc) I A2 h2
    have nb : ∀ b ∈ [z, TI, TO, i1, i2], FpOk X pins H b ∧ X.base.get? b = none := fun b hb => ⟨hf b hb, fp_base I (hf b hb)⟩
    have o1 : ∀ b ∈ [z, TI, TO, i1, i2], b ≠ i1 → b ∉ fp1 := fun b hb hn => g1.out I (nb b hb).1 (nb b hb).2 hn
    have o2 : ∀ b ∈ [z, TI, TO, i1, i2], b ≠ i2 → b ∉ fp2 := fun b hb hn => g2.out I (nb b hb).1 (nb b hb).2 hn
    have sep : ZipSep2 z TI TO i1 i2 fp1 fp2 := ⟨F.a1, F.a2, F.a3, F.a4, g1.mem, o1 z (by simp) F.a6, o1 TO (by simp) F.a8, F.a5, g2.mem, o2 z (by simp) F.a7, o2 TO (by simp) F.a9, o2 i1 (by simp) F.a0, o1 i2 (by simp) F.a0.symm⟩
    have zl : z < s.heap.objs.size := Heap.lt_size hz
    refine wpAny_pyNext_zipD2_item sep g1.d g2.d hz hI hO g1.st g2.st l1 l2 fun u1 u2 h' tk y1 y2 z' O' n1 n2 hT hsz hk => ?_
    obtain ⟨x1, e1, r1⟩ := g1.yl i u1 y1
    obtain ⟨x2, e2, r2⟩ := g2.yl i u2 y2
    refine ⟨_, rfl, wpAny_letOwnedTupleGo_zip (s := { s with heap := h', toks := tk }) z' fun h'' z'' sb => ?_⟩
    have hT2 : h''.get? s.heap.objs.size = some { cls := .type "tuple", data := .seq #[u1, u2] } := (sb.2 _ (Nat.ne_of_gt zl)).trans hT
    have new : ObjOk X.prog X.w (upd H s.heap.objs.size (.tup [x1, x2])) h'' s.heap.objs.size (.tup [x1, x2]) :=
      ⟨by show 2 ≤ sizeLine; decide, [u1, u2], .cons r1 (.cons r2 .nil), ⟨_, hT2, rfl, _, rfl⟩⟩
    have I1 : Inv X pins σ (upd H s.heap.objs.size (.tup [x1, x2])) { s with heap := h'', toks := tk } :=
      I.turnedNew (t' := tk) (ch := [z, TI, TO, i1, i2]) (fun c o hb e => (sb.2 c (fun e' => hb (by simp [e']))).trans (hk c o (fun e' => hb (by simp [e'])) (fun e' => hb (by simp [e'])) (fun e' => hb (by simp [e'])) (fun e' => hb (by simp [e'])) e)) hf (Nat.le_refl _) new
    refine ⟨.ref s.heap.objs.size, _, I1, rfl, ⟨_, x1, x2, rfl, I.hok.fresh (Nat.le_refl _), rfl, e1, e2⟩, ⟨z'', ?_, ⟨u1, u2, ?_⟩, ?_, ?_⟩, fun c hcm => ?_⟩
    · exact (sb.2 _ F.a1).trans (hk _ _ F.a1 F.a3 F.a4 F.a5 hI)
    · exact (sb.2 _ F.a2).trans O'
    · exact (g1.on _ _ n1).move fun o e => (sb.2 _ F.a6.symm).trans e
    · exact (g2.on _ _ n2).move fun o e => (sb.2 _ F.a7.symm).trans e
    · have lt : c < s.heap.objs.size := by
        have e' : c = z ∨ c = TI ∨ c = TO ∨ c = i1 ∨ c = i2 := by simpa using hcm
        rcases e' with rfl | rfl | rfl | rfl | rfl
        · exact zl
        · exact Heap.lt_size hI
        · exact Heap.lt_size hO
        · obtain ⟨_, e, _⟩ := h1.obj; exact Heap.lt_size e
        · obtain ⟨_, e, _⟩ := h2.obj; exact Heap.lt_size e
      rw [upd_ne (Nat.ne_of_lt lt)]
      exact (hf c hcm).1
  done := by
    intro X eP ew eK hc i pins s σ H E I hf st hg
    subst eP ew eK
    obtain ⟨hz, hI, ⟨p, q, hO⟩, h1, h2⟩ := st
    obtain ⟨A1, A2, he⟩ := hg
    obtain ⟨fp1, P1, S1, g1⟩ := Src.gives (A := X.A.in1) (it := i1) (i := i) (src := s1) (I.ok.hd hc) I A1 h1
    obtain ⟨fp2, P2, S2, g2⟩ := Src.gives (A := X.A.in1) (it := i2) (i := i) (src := s2) (I.ok.hd hc) I A2 h2
    have nb : ∀ b ∈ [z, TI, TO, i1, i2], FpOk X pins H b ∧ X.base.get? b = none := fun b hb => ⟨hf b hb, fp_base I (hf b hb)⟩
    have o1 : ∀ b ∈ [z, TI, TO, i1, i2], b ≠ i1 → b ∉ fp1 := fun b hb hn => g1.out I (nb b hb).1 (nb b hb).2 hn
    have o2 : ∀ b ∈ [z, TI, TO, i1, i2], b ≠ i2 → b ∉ fp2 := fun b hb hn => g2.out I (nb b hb).1 (nb b hb).2 hn
    have sep : ZipSep2 z TI TO i1 i2 fp1 fp2 := ⟨F.a1, F.a2, F.a3, F.a4, g1.mem, o1 z (by simp) F.a6, o1 TO (by simp) F.a8, F.a5, g2.mem, o2 z (by simp) F.a7, o2 TO (by simp) F.a9, o2 i1 (by simp) F.a0, o1 i2 (by simp) F.a0.symm⟩
    exact wpAny_pyNext_zipD2_end sep g1.d g2.d hz hI hO g1.st g2.st (by omega) (by omega) (by omega) fun h' tk hk => ⟨rfl, I.turnedL (t' := tk) (ch := [z, TI, TO, i1, i2]) (fun c o hb e =>
      hk c o (fun e' => hb (by simp [e'])) (fun e' => hb (by simp [e'])) (fun e' => hb (by simp [e'])) (fun e' => hb (by simp [e'])) e) hf⟩
  self := fun A i s Q E st h => wpAny_pyIter_zip st.1 h
theorem walk_zipG {K : PySem.W.Frag} {s1 s2 : Src} : Walk (ItZ K s1 s2) (min s1.items.length s2.items.length) (fun H => s1.At K H ∧ s2.At K H) (YPair (fun i => s1.items[i]?) (fun i => s2.items[i]?)) :=
  ⟨fun i H hi g => ⟨g.1, g.2, by omega, by omega⟩, fun H g => ⟨g.1, g.2, rfl⟩, fun i H x H' _ _ y => y⟩
/-- what zip takes -/
def iZipG (K : PySem.W.Frag) (ta : TA) : TI := fun σ H R => ta σ H fun vs H1 => ∃ s1 s2 : Src, vs = [s1.val, s2.val] ∧ s1.At K H1 ∧ s2.At K H1 ∧ R (ItZ K s1 s2) H1
/-- how a source's iterator is made -/
theorem src_begins {X : Cx} {pins : List (Addr × Obj)} {σ : L2.St} {H : Hp} {s : Shared} (I : Inv X pins σ H s) : ∀ {src : Src} {u : Value}, RelV src.val u → src.At X.K H →
    ∃ (o : Obj) (G : Heap → Prop), Begins u o G ∧ G s.heap ∧ ∀ (h : Heap) (it : Addr), h.get? it = some o → src.On h it 0
  | .txt x, _, ⟨t, rfl⟩, _ => ⟨_, _, begins_text x t, trivial, fun h it e => ⟨t, _, e, rfl, rfl⟩⟩
  | .tup a xs, u, r, hat => by
    obtain ⟨its, rv, p, _⟩ := I.tuple (show SqT X.K H a xs from hat)
    cases (show u = Value.ref a from r)
    exact ⟨_, _, begins_tuple a its.toArray, p, fun h it e => ⟨_, e, rfl, rfl⟩⟩
theorem pi_zipG {X : Cx} {e e2 : Expr} {ta : TA} {p pos tpos : Pos} {elts : List Expr} {kk : Nat} (hg : Gl X "zip") (hm : X.mg "zip" = none) (ha : PA X [e, e2] ta)
    (hs : starEach [e, e2] X.env = (false, eval e X.env) :: starEach [e2] X.env := by rfl) (hpl : (backTo pos (starEach [e2] X.env)).any (·.1) = false := by rfl) :
    PI X (.Tuple elts kk tpos) (.Call (.Name "zip" p) [e, e2] [] pos) (iZipG X.K ta) := by
  constructor
  intro pins s σ H R I h
  refine Call_ (ld_blt I hg hm PyProof.Rows.boot_zip (PyProof.Rows.callWith_type1 (thn (ha.run pos pins s σ H _ I h) fun us s1 hh => ?_) hs hpl))
  obtain ⟨vs, H1, I1, rr, a, b, ev, A1, A2, q⟩ := hh
  subst ev
  cases rr with
  | cons r1 rr =>
    cases rr with
    | cons r2 rr =>
      cases rr
      obtain ⟨o1, G1, B1, k1, on1⟩ := src_begins I1 r1 A1
      obtain ⟨o2, G2, B2, k2, on2⟩ := src_begins I1 r2 A2
      refine zip_begins2 B1 B2 k1 k2 fun h' hz hI hO e1 e2 hsz hk => wpAny_pyIter_zip hz ?_
      have I2 : Inv X pins σ H1 { s1 with heap := h' } := I1.kept (t' := s1.toks) hk
      refine ⟨s1.heap.objs.size + 4, [s1.heap.objs.size + 4, s1.heap.objs.size + 2, s1.heap.objs.size + 3, s1.heap.objs.size, s1.heap.objs.size + 1], _, _, H1, rfl, I2, turn_zipG ?_, ⟨hz, hI, ⟨_, _, hO⟩, on1 _ _ e1, on2 _ _ e2⟩, fun c hcm => ?_, q⟩
      · exact five_of s1.heap.objs.size
      · have e' : c = s1.heap.objs.size + 4 ∨ c = s1.heap.objs.size + 2 ∨ c = s1.heap.objs.size + 3 ∨ c = s1.heap.objs.size ∨ c = s1.heap.objs.size + 1 := by simpa using hcm
        have hle : s1.heap.objs.size ≤ c := by
          rcases e' with z | z | z | z | z
          · rw [z]; exact Nat.le_add_right _ _
          · rw [z]; exact Nat.le_add_right _ _
          · rw [z]; exact Nat.le_add_right _ _
          · rw [z]; exact Nat.le_refl _
          · rw [z]; exact Nat.le_add_right _ _
        exact I1.fpOk hle (I1.hok.fresh hle)
/-! enumerate of one -/
def ItE (K : PySem.W.Frag) (s1 : Src) : It where
  go := fun i H => s1.At K H ∧ i < s1.items.length
  yld := fun i H v H' => ∃ T x y, v = .ref T ∧ H T = none ∧ H' = upd H T (.tup [x, y]) ∧ some (V.int (i : Nat)) = some x ∧ s1.items[i]? = some y
  stop := fun i H => s1.At K H ∧ i = s1.items.length
theorem turn_enumG {P : Program} {w : World} {K : PySem.W.Frag} {elts : List Expr} {kk : Nat} {tpos : Pos} {e it : Addr} {s1 : Src} (ne : e ≠ it) :
    Turn P w K (.Tuple elts kk tpos) (ItE K s1) [e, it] e (fun i h => (∃ old, IsEnum h e it ((i : Nat) : Int) old) ∧ s1.On h it i) where
  mem := by simp
  obj := fun i h st c hc => by
    obtain ⟨⟨old, he⟩, h1⟩ := st
    have e' : c = e ∨ c = it := by simpa using hc
    rcases e' with rfl | rfl
    · exact ⟨_, he, fun v q => nomatch q⟩
    · exact h1.obj
  keep := fun i h h' st k => by
    obtain ⟨⟨old, he⟩, h1⟩ := st
    exact ⟨⟨old, k e (by simp) _ he⟩, h1.move fun o q => k it (by simp) o q⟩
  item := by
    intro X eP ew eK hc i pins s σ H E I hf st hg
    subst eP ew eK
    obtain ⟨⟨old, he⟩, h1⟩ := st
    obtain ⟨A1, l1⟩ := hg
    obtain ⟨fp1, P1, S1, g1⟩ := Src.gives (A := X.A.in1) (it := it) (i := i) (src := s1) (I.ok.hd hc) I A1 h1
    have hx : e ∉ fp1 := g1.out I (hf e (by simp)) (fp_base I (hf e (by simp))) ne
    have el : e < s.heap.objs.size := Heap.lt_size he
    have il : it < s.heap.objs.size := by obtain ⟨_, q, _⟩ := h1.obj; exact Heap.lt_size q
    refine wpAny_pyNext_enum_itemD g1.d he g1.st l1 ne hx fun u h' tk y1 out n1 hT hsz hk => ?_
    obtain ⟨x1, e1, r1⟩ := g1.yl i u y1
    refine ⟨_, rfl, wpAny_letOwnedTupleGo_enum (s := { s with heap := h', toks := tk + 1 }) out fun h'' he' sb => ?_⟩
    have hT2 : h''.get? s.heap.objs.size = some { cls := .type "tuple", data := .seq #[.int i tk, u] } := (sb.2 _ (Nat.ne_of_gt el)).trans hT
    have new : ObjOk X.prog X.w (upd H s.heap.objs.size (.tup [.int (i : Nat), x1])) h'' s.heap.objs.size (.tup [.int (i : Nat), x1]) :=
      ⟨by show 2 ≤ sizeLine; decide, [.int i tk, u], .cons ⟨_, rfl⟩ (.cons r1 .nil), ⟨_, hT2, rfl, _, rfl⟩⟩
    have I1 : Inv X pins σ (upd H s.heap.objs.size (.tup [.int (i : Nat), x1])) { s with heap := h'', toks := tk + 1 } :=
      I.turnedNew (t' := tk + 1) (ch := [e, it]) (fun c o hb q => (sb.2 c (fun z => hb (by simp [z]))).trans (hk c o (fun z => hb (by simp [z])) (fun z => hb (by simp [z])) q)) hf (Nat.le_refl _) new
    refine ⟨.ref s.heap.objs.size, _, I1, rfl, ⟨_, .int (i : Nat), x1, rfl, I.hok.fresh (Nat.le_refl _), rfl, rfl, e1⟩, ⟨⟨u, ?_⟩, ?_⟩, fun c hcm => ?_⟩
    · rw [show ((i + 1 : Nat) : Int) = (i : Int) + 1 by omega]
      exact he'
    · exact (g1.on _ _ n1).move fun o q => (sb.2 _ ne.symm).trans q
    · have lt : c < s.heap.objs.size := by
        have e' : c = e ∨ c = it := by simpa using hcm
        rcases e' with rfl | rfl
        · exact el
        · exact il
      rw [upd_ne (Nat.ne_of_lt lt)]
      exact (hf c hcm).1
  done := by
    intro X eP ew eK hc i pins s σ H E I hf st hg
    subst eP ew eK
    obtain ⟨⟨old, he⟩, h1⟩ := st
    obtain ⟨A1, hl⟩ := hg
    subst hl
    obtain ⟨fp1, P1, S1, g1⟩ := Src.gives (A := X.A.in1) (it := it) (i := s1.items.length) (src := s1) (I.ok.hd hc) I A1 h1
    obtain ⟨f0, f1, f2, f3, f4, f5⟩ := hf it (by simp)
    exact wpAny_pyNext_enum_endD g1.d he g1.st fun h' eb => ⟨rfl, I.turned (t' := s.toks) (fun b o hb q => eb b o hb q) f0 f1 f3 f4 f5⟩
  self := fun A i s Q E st h => by
    obtain ⟨⟨old, he⟩, _⟩ := st
    exact wpAny_pyIter_enum he h
theorem walk_enumG {K : PySem.W.Frag} {s1 : Src} : Walk (ItE K s1) s1.items.length (fun H => s1.At K H) (YPair (fun i => some (.int (i : Nat))) (fun i => s1.items[i]?)) :=
  ⟨fun i H hi g => ⟨g, hi⟩, fun H g => ⟨g, rfl⟩, fun i H x H' _ _ y => y⟩
theorem meets_enum1 {v : Value} {o : Obj} {G : Heap → Prop} (B : Begins v o G) :
    Meets (Builtin.«enumerate.__new__» ⟨[.type "enumerate", v], []⟩) (fun _ R s => G s.heap ∧
      R (.ok (.ret (.ref (s.heap.push o).objs.size))) { s with heap := (s.heap.push o).push { cls := .type "enumerate", data := .fields #[.none, .bool false, .ref s.heap.objs.size, rawInt 0, .none, .none] } }) :=
  .of_wp fun prog w A R s hh => by
    obtain ⟨hp, g, d, tk, os⟩ := s
    obtain ⟨h1, h⟩ := hh
    have hsub := sub_enumerate
    have q1 : ∀ {A' : Around} {E : Value → Shared → Prop} {Q : Value → Shared → Prop}, Q (.ref hp.objs.size) ⟨hp.push o, g, d, tk, os⟩ → wpAny (model prog w) A' (pyIter v) Q E ⟨hp, g, d, tk, os⟩ := fun z => B.iter prog w _ _ ⟨hp, g, d, tk, os⟩ _ h1 z
    wp_walk using q1
    refine wpAny_stack_any fun st => wpAny_pure ?_
    split
    · rename_i c _ _ _ _ _
      cases (c == Value.type "enumerate") <;> (wp_walk using q1; exact ⟨_, rfl, h⟩)
    · wp_walk using q1
      exact ⟨_, rfl, h⟩
theorem enum_begins1 {prog : Program} {w : World} {A : Around} {E : Value → Shared → Prop} {s : Shared} {v : Value} {o : Obj} {G : Heap → Prop} {Q : Value → Shared → Prop} (B : Begins v o G) (h1 : G s.heap)
    (h : ∀ h', IsEnum h' (s.heap.objs.size + 1) s.heap.objs.size 0 .none → h'.get? s.heap.objs.size = some o → (∀ b u, s.heap.get? b = some u → h'.get? b = some u) → Q (.ref (s.heap.objs.size + 1)) { s with heap := h' }) :
    wpAny (model prog w) A (call (.type "enumerate") [v]) Q E s := by
  refine callType_new F.called_enumerate (by decide) (F.typeCall_enumerate_1 _) (F.newCall_enumerate_1 _) (fun obj => F.args_object_init_2 obj _) F.entry_enumerate_new (meets_enum1 B) ⟨h1, ?_⟩
  have hz : (s.heap.push o).objs.size = s.heap.objs.size + 1 := Heap.size_push ..
  show _ ∧ _
  rw [hz]
  have he : IsEnum ((s.heap.push o).push { cls := .type "enumerate", data := .fields #[.none, .bool false, .ref s.heap.objs.size, rawInt 0, .none, .none] }) (s.heap.objs.size + 1) s.heap.objs.size 0 .none := by
    have z := Heap.get?_push_size (s.heap.push o) (o := { cls := .type "enumerate", data := .fields #[.none, .bool false, .ref s.heap.objs.size, rawInt 0, .none, .none] }) rfl
    rw [hz] at z
    exact z
  exact ⟨⟨_, he, rfl⟩, h _ he (Heap.get?_push_of_some _ (Heap.get?_push_size _ B.free)) fun b u x => Heap.get?_push_of_some _ (Heap.get?_push_of_some _ x)⟩
def iEnumG (K : PySem.W.Frag) (ta : TA) : TI := fun σ H R => ta σ H fun vs H1 => ∃ s1 : Src, vs = [s1.val] ∧ s1.At K H1 ∧ R (ItE K s1) H1
theorem pi_enumG {X : Cx} {e : Expr} {ta : TA} {p pos tpos : Pos} {elts : List Expr} {kk : Nat} (hg : Gl X "enumerate") (hm : X.mg "enumerate" = none) (ha : PA X [e] ta) (hs : starEach [e] X.env = [(false, eval e X.env)] := by rfl) :
    PI X (.Tuple elts kk tpos) (.Call (.Name "enumerate" p) [e] [] pos) (iEnumG X.K ta) := by
  constructor
  intro pins s σ H R I h
  refine Call_ (ld_blt I hg hm boot_enumerate (PyProof.Rows.callWith_type1 (thn (ha.run pos pins s σ H _ I h) fun us s1 hh => ?_) hs rfl))
  obtain ⟨vs, H1, I1, rr, a, ev, A1, q⟩ := hh
  subst ev
  cases rr with
  | cons r1 rr =>
    cases rr
    obtain ⟨o1, G1, B1, k1, on1⟩ := src_begins I1 r1 A1
    refine enum_begins1 B1 k1 fun h' he e1 hk => wpAny_pyIter_enum he ?_
    have I2 : Inv X pins σ H1 { s1 with heap := h' } := I1.kept (t' := s1.toks) hk
    refine ⟨s1.heap.objs.size + 1, [s1.heap.objs.size + 1, s1.heap.objs.size], _, _, H1, rfl, I2, turn_enumG (Nat.succ_ne_self _), ⟨⟨.none, he⟩, on1 _ _ e1⟩, fun c hcm => ?_, q⟩
    have e' : c = s1.heap.objs.size + 1 ∨ c = s1.heap.objs.size := by simpa using hcm
    have hle : s1.heap.objs.size ≤ c := by
      rcases e' with z | z
      · rw [z]; exact Nat.le_add_right _ _
      · rw [z]; exact Nat.le_refl _
    exact I1.fpOk hle (I1.hok.fresh hle)
end GH
namespace GH
open PySem PySem.Spec PyProof.Rows L2
/-! ### heaps -/
/-- all but x as it was -/
def Besides (x : Addr) (H H' : Hp) : Prop := ∀ b o, b ≠ x → H b = some o → H' b = some o
/-- tuples and locked things never change -/
structure Tups (H H' : Hp) : Prop where
  t : ∀ b xs, H b = some (.tup xs) → H' b = some (.tup xs)
  f : ∀ b o u, H b = some (.frz o u) → H' b = some (.frz o u)
theorem Tups.refl (H : Hp) : Tups H H := ⟨fun _ _ e => e, fun _ _ _ e => e⟩
theorem Tups.trans {H H1 H2 : Hp} (a : Tups H H1) (b : Tups H1 H2) : Tups H H2 := ⟨fun c xs e => b.t c xs (a.t c xs e), fun c o u e => b.f c o u (a.f c o u e)⟩
theorem Same.tups {H H' : Hp} (s : Same H H') : Tups H H' := ⟨fun b xs e => s b _ e, fun b o u e => s b _ e⟩
theorem Tups.seq {K : PySem.W.Frag} {H H' : Hp} {a : Addr} {xs : List V} (s : Tups H H') (h : SqT K H a xs) : SqT K H' a xs := by
  rcases h with (h | ⟨o, h⟩) | h
  · exact .inl (.inl (s.t _ _ h))
  · exact .inl (.inr ⟨o, s.f _ _ _ h⟩)
  · exact .inr h
theorem Same.new {H : Hp} {p : Addr} {o : HO} (h : H p = none) : Same H (upd H p o) := fun b x e => by
  rw [upd_ne (ne_of_none e h)]; exact e
theorem Same.mut {H H' : Hp} {p : Addr} {o : HO} (s : Same H H') (h : H p = none) : Same H (upd H' p o) := fun b x e => by
  rw [upd_ne (ne_of_none e h)]; exact s b x e
theorem Same.seqT {K : PySem.W.Frag} {H H' : Hp} {a : Addr} {xs : List V} (s : Same H H') (h : SqT K H a xs) : SqT K H' a xs := (Same.tups s).seq h
theorem Besides.refl (x : Addr) (H : Hp) : Besides x H H := fun _ _ _ e => e
theorem Besides.trans {x : Addr} {H H1 H2 : Hp} (a : Besides x H H1) (b : Besides x H1 H2) : Besides x H H2 := fun c o n e => b c o n (a c o n e)
theorem Same.but {x : Addr} {H H' : Hp} (s : Same H H') : Besides x H H' := fun b o _ e => s b o e
theorem Besides.upd {x : Addr} {H H' : Hp} {o : HO} (s : Besides x H H') : Besides x H (upd H' x o) := fun b u n e => by
  rw [upd_ne n]; exact s b u n e
theorem Besides.new {x p : Addr} {H H' : Hp} {o : HO} (s : Besides x H H') (h : H' p = none) : Besides x H (L2.upd H' p o) := fun b u n e => by
  have e' := s b u n e
  rw [upd_ne (ne_of_none e' h)]; exact e'
/-- x a list on the way -/
theorem Besides.tups {x : Addr} {H H' : Hp} {xs : List V} (s : Besides x H H') (h : H x = some (.lst xs)) : Tups H H' := by
  refine ⟨fun b ys e => s b _ (fun z => ?_) e, fun b o u e => s b _ (fun z => ?_) e⟩
  · rw [z, h] at e; cases e
  · rw [z, h] at e; cases e
theorem Besides.seqT {K : PySem.W.Frag} {x : Addr} {H H' : Hp} {xs ys : List V} {a : Addr} (s : Besides x H H') (h : H x = some (.lst xs)) (q : SqT K H a ys) : SqT K H' a ys := (s.tups h).seq q
theorem fresh_of {H H' : Hp} {p : Addr} (s : Same H H') (h : H' p = none) : H p = none := Same.free s h
/-! ### defs by name -/
structure Ok (P : Program) (w : World) (K : PySem.W.Frag) (mg : Str → Option Value) (base : Heap) (n : Nat) (x : Str) (ps : List Str) (sp : Sp) : Prop where
  ex : ∃ f fd, FnOk P w K mg base CX0 n f fd ps sp ∧ Binds K fd ps [] ∧ mg x = some (.ref f) ∧ PySem.W.keepIn K (.ref f) = true ∧ (∀ (s : Shared) (us : List Value), us.length = ps.length → BindsTo s fd ⟨us, []⟩ (ps.zip us)) ∧ ∃ oc od osl, K.lookup f = some ⟨oc, od, .func fd, osl⟩
section
variable {X : Cx} {n : Nat} {x : Str} {ps : List Str} {sp : Sp} {p pos : Pos} {e : Expr} {es : List Expr} {t : TA}
theorem pe_fn (O : Ok X.prog X.w X.K X.mg X.base n x ps sp) (hr : Room n X.A) (hg : Gl X x) (ha : PA X (e :: es) t) (hdb : (x == ("__debug__" : Str)) = false := by decide)
    (he : starEach (e :: es) X.env = (false, eval e X.env) :: starEach es X.env := by rfl) (hpl : (backTo pos (starEach es X.env)).any (·.1) = false := by rfl) :
    PE X (.Call (.Name x p) (e :: es) [] pos) (tCall sp [] E0 t) := by
  obtain ⟨f, fd, F, b, m, k, _⟩ := O.ex
  exact pe_call F hr hg m k b .nil pass0 ha hdb he hpl
end
/-- a def of the text keeps its promise -/
theorem ok_of {P : Program} {w : World} {K : PySem.W.Frag} {mg : Str → Option Value} {base : Heap} {k : Nat} {x : Str} {st : Stmt} {f : Addr} {fd : FuncData} {N ps : List Str} {sp : Sp} (F : Fun K x x st f fd) (m : mg x = some (.ref f)) (S : FnScope N ps (defScope st))
    (hb : ∀ (kV doc pm : Value) (an : Option Addr) (cdv ct : Value) (us : List Value), us.length = ps.length → bindArgs (PySem.W.fnOf x x (defArgs st) (defBody st) (defScope st) .none kV doc pm an cdv ct) ⟨us, []⟩ = pure (ps.zip us))
    (len : ∀ vs H Q E, sp vs H Q E → vs.length = ps.length)
    (body : ∀ (cdv : Value) (A : Around) (outer : List Env) (s : Shared) (H : Hp) (vs : List V) (Q : VK) (E : XK), Room k (A.deeper (envOfC x (defScope st) s.heap.objs.size f cdv)) → sp vs H Q E →
      ∃ t, PSs (cxOf CX0 P w K mg base N x (defScope st) f cdv A outer s H E).nox (defBody st) t ∧ t { nx := fun _ H' => Q .non H', rt := Q } (start N vs) H) : Ok P w K mg base (k + 1) x ps sp := by
  have z := F.ok S len body
  have b := F.binds hb
  have kp := F.kp
  obtain ⟨oc, od, kV, doc, pm, an, cdv, ct, osl, rfl, lk, hcd⟩ := F.ex
  exact ⟨f, _, z, b, m, kp, fun s us hl => .of_eq (hb kV doc pm an cdv ct us hl), oc, od, osl, lk⟩
/-! ### a text again and again -/
theorem foldl_cat : ∀ (n : Nat) (b a : Array Nat), ((List.replicate n b).foldl (· ++ ·) a).toList = a.toList ++ pow b.toList n
  | 0, b, a => by simp [pow]
  | n + 1, b, a => by
    rw [List.replicate_succ, List.foldl_cons, foldl_cat n b (a ++ b)]
    simp [pow]
theorem pow_nil : ∀ n, pow [] n = []
  | 0 => rfl
  | n + 1 => by show [] ++ pow [] n = []; rw [pow_nil n]; rfl
def rMulS : R2 := fun x y H Q => ∃ (l : List Nat) (n : Nat), x = .str (SX.S l) ∧ y = .int (n : Int) ∧ 1 ≤ n ∧ n ≤ 1000 ∧ l.length ≤ 1000 ∧ Q (.str (SX.S (pow l n))) H
theorem op_mulS {X : Cx} : OpR X (binaryOp .Mult) rMulS := by
  intro pins s σ H x y v u Q I rx ry h
  obtain ⟨l, n, rfl, rfl, h1, h2, h3, q⟩ := h
  obtain ⟨t, rfl⟩ := rx
  obtain ⟨t', rfl⟩ := ry
  have hl : (SX.S l).length = l.length := SX.S_len l
  have hmul : l.length * n ≤ 1000 * 1000 := Nat.mul_le_mul h3 h2
  refine PySem.P.mul_str (by simp; omega) (fun _ _ => ?_) (fun _ _ => ?_) ?_
  · rw [hl]
    have h4 : (1000 : Int) ≤ (2 ^ 63 - 1) / (n : Int) := Int.le_ediv_of_mul_le (by omega) (by omega)
    omega
  · rw [hl, Int.toNat_natCast]
    show decide (l.length * n > sizeLine) = false
    rw [sizeLine_eq]
    exact decide_eq_false (by omega)
  · rw [if_neg (by omega)]
    by_cases hc : ((n : Int) == 1 || (SX.S l).length == 0) = true
    · rw [if_pos hc]
      have e : pow l n = l := by
        rcases Bool.or_eq_true_iff.mp hc with z | z
        · have : n = 1 := by have := eq_of_beq z; omega
          subst this
          show l ++ [] = l
          simp
        · have : l.length = 0 := by have := eq_of_beq z; rw [hl] at this; exact this
          have : l = [] := List.length_eq_zero_iff.mp this
          subst this
          exact pow_nil n
      rw [e] at q
      exact ⟨.str (SX.S l), H, I, ⟨t, rfl⟩, q⟩
    · rw [if_neg hc]
      have e : (⟨(List.replicate ((n : Int)).toNat (SX.S l).cps).foldl (· ++ ·) #[]⟩ : Str) = SX.S (pow l n) := by
        have z := foldl_cat n (SX.S l).cps #[]
        rw [Int.toNat_natCast]
        unfold SX.S at z ⊢
        congr 1
        apply Array.ext'
        rw [z]; simp
      rw [e]
      refine ⟨?_, .str _, H, I.tok _, ⟨_, rfl⟩, q⟩
      rw [SX.S_len, pow_length, Nat.mul_comm, sizeLine_eq]
      omega
end GH
namespace GH
open PySem PySem.Spec PyProof.Rows L2
/-! ### lists side by side -/
theorem paired_snoc {α β : Type} {R : α → β → Prop} : ∀ {xs : List α} {ys : List β} {x : α} {y : β}, Paired R xs ys → R x y → Paired R (xs ++ [x]) (ys ++ [y])
  | _, _, _, _, .nil, r => .cons r .nil
  | _, _, _, _, .cons q t, r => .cons q (paired_snoc t r)
theorem paired_get {α β : Type} {R : α → β → Prop} : ∀ {xs : List α} {ys : List β} {i : Nat} {x : α}, Paired R xs ys → xs[i]? = some x → ∃ y, ys[i]? = some y ∧ R x y
  | _, _, _, _, .nil, e => by simp at e
  | _, _, 0, _, .cons r _, e => by simp at e; subst e; exact ⟨_, rfl, r⟩
  | _, _, i + 1, x, .cons _ t, e => by
    obtain ⟨y, h1, h2⟩ := paired_get (i := i) t (by simpa using e)
    exact ⟨y, by simpa using h1, h2⟩
theorem paired_get' {α β : Type} {R : α → β → Prop} : ∀ {xs : List α} {ys : List β} {i : Nat} {y : β}, Paired R xs ys → ys[i]? = some y → ∃ x, xs[i]? = some x ∧ R x y
  | _, _, _, _, .nil, e => by simp at e
  | _, _, 0, _, .cons r _, e => by simp at e; subst e; exact ⟨_, rfl, r⟩
  | _, _, i + 1, y, .cons _ t, e => by
    obtain ⟨x, h1, h2⟩ := paired_get' (i := i) t (by simpa using e)
    exact ⟨x, by simpa using h1, h2⟩
theorem paired_eq {α β : Type} {f : β → α} : ∀ {xs : List α} {ys : List β}, Paired (fun x y => x = f y) xs ys → xs = ys.map f
  | _, _, .nil => rfl
  | _, _, .cons r t => by rw [r, paired_eq t]; rfl
theorem paired_mapR {α β : Type} {R : α → β → Prop} {f : β → α} (h : ∀ b, R (f b) b) : ∀ ys : List β, Paired R (ys.map f) ys
  | [] => .nil
  | y :: r => .cons (h y) (paired_mapR h r)
/-! ### comprehensions whose element leaves all else as it was -/
theorem lc_rel {J : It} {n : Nat} {G : Hp → Prop} {Y : Nat → Hp → V → Hp → Prop} (w : Walk J n G Y) {g : TG} {te : TE} {vs : List Nat} {σ : L2.St} {H1 : Hp} {D : Addr} {Qd : Hp → Prop} {β : Type} (Rel : Hp → V → β → Prop) (out : List β) (hn : out.length = n) (hsz : n ≤ 100000) (hD : H1 D = none)
    (mono : ∀ H H' y b, Tups H H' → Rel H y b → Rel H' y b) (hG : ∀ H, Same H1 H → G H)
    (hs : ∀ i x H H' b (Qe : VK), out[i]? = some b → Same H1 H → Y i H x H' → (∀ y H4, Same H H4 → Rel H4 y b → Qe y H4) → g x (wipe σ vs) H' fun σ2 H2 => wipe σ2 vs = wipe σ vs ∧ te σ2 H2 Qe)
    (hd : ∀ H ys, Same H1 H → H D = some (.lst ys) → Paired (Rel H) ys out → Qd H) :
    ∃ W : Nat → Nat → Hp → Prop, (∃ m, W 0 m (upd H1 D (.lst []))) ∧ ∀ i m H, W i m H →
      (J.stop i H ∧ Qd H) ∨ (J.go i H ∧ ∃ Nx : Hp → Prop, (∀ H', Nx H' → ∃ m', m' < m ∧ W (i + 1) m' H') ∧ ∀ x H', J.yld i H x H' → g x (wipe σ vs) H' fun σ2 H2 => wipe σ2 vs = wipe σ vs ∧ tYes σ2 H2 fun b H3 =>
        if b = true then te σ2 H3 fun y H4 => ∃ acc, H4 D = some (.lst acc) ∧ acc.length < sizeLine ∧ Nx (upd H4 D (.lst (acc ++ [y]))) else Nx H3) := by
  refine lc_it w (fun i H => Same H1 H ∧ ∃ ys, H D = some (.lst ys) ∧ Paired (Rel H) ys (out.take i)) ⟨Same.new hD, [], upd_same, .nil⟩ (fun i H _ p => hG H p.1) (fun i x H H' hi p y => ?_) (fun H p => ?_)
  · obtain ⟨s1, ys, eD, pr⟩ := p
    have hb : out[i]? = some (out[i]'(by omega)) := List.getElem?_eq_getElem (by omega)
    refine hs i x H H' _ _ hb s1 y fun v H4 s4 r4 => ⟨ys, s4 D _ eD, ?_, ?_⟩
    · have e := Paired.length pr
      rw [List.length_take] at e
      rw [sizeLine_eq]
      omega
    · have tt : Tups H4 (upd H4 D (.lst (ys ++ [v]))) := by
        have e4 := s4 D _ eD
        refine ⟨fun b xs e => ?_, fun b o u e => ?_⟩
        · rw [upd_ne (fun z => by rw [z, e4] at e; cases e)]; exact e
        · rw [upd_ne (fun z => by rw [z, e4] at e; cases e)]; exact e
      refine ⟨Same.mut (Same.trans s1 s4) hD, ys ++ [v], upd_same, ?_⟩
      rw [List.take_add_one, hb]
      refine paired_snoc (L2.Paired.mapP pr fun a b q => mono _ _ _ _ ((Same.tups s4).trans tt) q) (mono _ _ _ _ tt r4)
  · obtain ⟨s1, ys, eD, pr⟩ := p
    rw [List.take_of_length_le (by omega)] at pr
    exact hd H ys s1 eD pr
/-- .. that gives a plain value -/
theorem lc_val {J : It} {n : Nat} {G : Hp → Prop} {Y : Nat → Hp → V → Hp → Prop} (w : Walk J n G Y) {g : TG} {te : TE} {vs : List Nat} {σ : L2.St} {H1 : Hp} {D : Addr} {Qd : Hp → Prop} (out : List V) (hn : out.length = n) (hsz : n ≤ 100000) (hD : H1 D = none) (hG : ∀ H, Same H1 H → G H)
    (hs : ∀ i x H H' b (Qe : VK), out[i]? = some b → Same H1 H → Y i H x H' → (∀ H4, Same H H4 → Qe b H4) → g x (wipe σ vs) H' fun σ2 H2 => wipe σ2 vs = wipe σ vs ∧ te σ2 H2 Qe)
    (hd : ∀ H, Same H1 H → H D = some (.lst out) → Qd H) :
    ∃ W : Nat → Nat → Hp → Prop, (∃ m, W 0 m (upd H1 D (.lst []))) ∧ ∀ i m H, W i m H →
      (J.stop i H ∧ Qd H) ∨ (J.go i H ∧ ∃ Nx : Hp → Prop, (∀ H', Nx H' → ∃ m', m' < m ∧ W (i + 1) m' H') ∧ ∀ x H', J.yld i H x H' → g x (wipe σ vs) H' fun σ2 H2 => wipe σ2 vs = wipe σ vs ∧ tYes σ2 H2 fun b H3 =>
        if b = true then te σ2 H3 fun y H4 => ∃ acc, H4 D = some (.lst acc) ∧ acc.length < sizeLine ∧ Nx (upd H4 D (.lst (acc ++ [y]))) else Nx H3) := by
  refine lc_rel w (fun _ y b => y = b) out hn hsz hD (fun _ _ _ _ _ e => e) hG (fun i x H H' b Qe hb s y q => hs i x H H' b Qe hb s y fun H4 s4 => q b H4 s4 rfl) fun H ys s e pr => hd H s ?_
  have z := paired_eq (f := id) pr
  rw [List.map_id] at z
  rw [e, z]
/-! ### two clauses -/
theorem lc2_out {J : It} {n : Nat} {G : Hp → Prop} {Y : Nat → Hp → V → Hp → Prop} (w : Walk J n G Y) {g g1 : TG} {tt tt1 : TT} {wi1 : TI} {te : TE} {vs vs1 : List Nat} {σ : L2.St} {H1 : Hp} {D : Addr} {Qd : Hp → Prop} (Pv : Nat → Hp → Prop) (h0 : Pv 0 (upd H1 D (.lst []))) (hG : ∀ i H, i ≤ n → Pv i H → G H)
    (hs : ∀ i x H H', i < n → Pv i H → Y i H x H' → g x (wipe σ vs) H' fun σ2 H2 => wipe σ2 vs = wipe σ vs ∧ tt σ2 H2 fun b H3 =>
      if b = true then wi1 σ2 H3 fun J1 H4 => ∃ W1 : Nat → Nat → Hp → Prop, (∃ m, W1 0 m H4) ∧ ∀ j k H, W1 j k H →
        (J1.stop j H ∧ Pv (i + 1) H) ∨ (J1.go j H ∧ ∃ Nx1 : Hp → Prop, (∀ H', Nx1 H' → ∃ k', k' < k ∧ W1 (j + 1) k' H') ∧ ∀ x H', J1.yld j H x H' → g1 x (wipe σ2 vs1) H' fun σ3 H5 => wipe σ3 vs1 = wipe σ2 vs1 ∧ tt1 σ3 H5 fun b H6 =>
          if b = true then te σ3 H6 fun y H7 => ∃ acc, H7 D = some (.lst acc) ∧ acc.length < sizeLine ∧ Nx1 (upd H7 D (.lst (acc ++ [y]))) else Nx1 H6)
      else Pv (i + 1) H3) (hd : ∀ H, Pv n H → Qd H) :
    ∃ W : Nat → Nat → Hp → Prop, (∃ m, W 0 m (upd H1 D (.lst []))) ∧ ∀ i m H, W i m H →
      (J.stop i H ∧ Qd H) ∨ (J.go i H ∧ ∃ Nx : Hp → Prop, (∀ H', Nx H' → ∃ m', m' < m ∧ W (i + 1) m' H') ∧ ∀ x H', J.yld i H x H' → g x (wipe σ vs) H' fun σ2 H2 => wipe σ2 vs = wipe σ vs ∧ tt σ2 H2 fun b H3 =>
        if b = true then wi1 σ2 H3 fun J1 H4 => ∃ W1 : Nat → Nat → Hp → Prop, (∃ m, W1 0 m H4) ∧ ∀ j k H, W1 j k H →
          (J1.stop j H ∧ Nx H) ∨ (J1.go j H ∧ ∃ Nx1 : Hp → Prop, (∀ H', Nx1 H' → ∃ k', k' < k ∧ W1 (j + 1) k' H') ∧ ∀ x H', J1.yld j H x H' → g1 x (wipe σ2 vs1) H' fun σ3 H5 => wipe σ3 vs1 = wipe σ2 vs1 ∧ tt1 σ3 H5 fun b H6 =>
            if b = true then te σ3 H6 fun y H7 => ∃ acc, H7 D = some (.lst acc) ∧ acc.length < sizeLine ∧ Nx1 (upd H7 D (.lst (acc ++ [y]))) else Nx1 H6)
        else Nx H3) := by
  refine ⟨fun i m H => m = n - i ∧ i ≤ n ∧ Pv i H, ⟨n, by simp, Nat.zero_le _, h0⟩, ?_⟩
  rintro i m H ⟨rfl, hi, p⟩
  have q := hG i H hi p
  by_cases hlt : i < n
  · exact .inr ⟨w.goes i H hlt q, Pv (i + 1), fun H' p' => ⟨n - (i + 1), by omega, rfl, hlt, p'⟩, fun x H' y => hs i x H H' hlt p (w.yields i H x H' hlt q y)⟩
  · have e : i = n := by omega
    subst e
    exact .inl ⟨w.stops H q, hd H p⟩
theorem lc2_in {J1 : It} {n : Nat} {G : Hp → Prop} {Y : Nat → Hp → V → Hp → Prop} (w : Walk J1 n G Y) {g1 : TG} {tt1 : TT} {te : TE} {vs1 : List Nat} {σ2 : L2.St} {H4 : Hp} {D : Addr} {Nx : Hp → Prop} (Pw : Nat → Hp → Prop) (h0 : Pw 0 H4) (hG : ∀ i H, i ≤ n → Pw i H → G H)
    (hs : ∀ i x H H', i < n → Pw i H → Y i H x H' → g1 x (wipe σ2 vs1) H' fun σ3 H5 => wipe σ3 vs1 = wipe σ2 vs1 ∧ tt1 σ3 H5 fun b H6 =>
      if b = true then te σ3 H6 fun y H7 => ∃ acc, H7 D = some (.lst acc) ∧ acc.length < sizeLine ∧ Pw (i + 1) (upd H7 D (.lst (acc ++ [y]))) else Pw (i + 1) H6) (hd : ∀ H, Pw n H → Nx H) :
    ∃ W1 : Nat → Nat → Hp → Prop, (∃ m, W1 0 m H4) ∧ ∀ j k H, W1 j k H →
      (J1.stop j H ∧ Nx H) ∨ (J1.go j H ∧ ∃ Nx1 : Hp → Prop, (∀ H', Nx1 H' → ∃ k', k' < k ∧ W1 (j + 1) k' H') ∧ ∀ x H', J1.yld j H x H' → g1 x (wipe σ2 vs1) H' fun σ3 H5 => wipe σ3 vs1 = wipe σ2 vs1 ∧ tt1 σ3 H5 fun b H6 =>
        if b = true then te σ3 H6 fun y H7 => ∃ acc, H7 D = some (.lst acc) ∧ acc.length < sizeLine ∧ Nx1 (upd H7 D (.lst (acc ++ [y]))) else Nx1 H6) := by
  refine ⟨fun i m H => m = n - i ∧ i ≤ n ∧ Pw i H, ⟨n, by simp, Nat.zero_le _, h0⟩, ?_⟩
  rintro i m H ⟨rfl, hi, p⟩
  have q := hG i H hi p
  by_cases hlt : i < n
  · exact .inr ⟨w.goes i H hlt q, Pw (i + 1), fun H' p' => ⟨n - (i + 1), by omega, rfl, hlt, p'⟩, fun x H' y => hs i x H H' hlt p (w.yields i H x H' hlt q y)⟩
  · have e : i = n := by omega
    subst e
    exact .inl ⟨w.stops H q, hd H p⟩
end GH
namespace GH
open PySem PySem.Spec PyProof.Rows L2
/-- the built-in names that the text does not bind -/
structure Blt (mg : Str → Option Value) : Prop where
  len_ : mg "len" = none
  all_ : mg "all" = none
  isinstance_ : mg "isinstance" = none
  zip_ : mg "zip" = none
  enumerate_ : mg "enumerate" = none
  range_ : mg "range" = none
  max_ : mg "max" = none
  min_ : mg "min" = none
  abs_ : mg "abs" = none
  divmod_ : mg "divmod" = none
  int_ : mg "int" = none
  str_ : mg "str" = none
  bool_ : mg "bool" = none
  tuple_ : mg "tuple" = none
  list_ : mg "list" = none
  repr_ : mg "repr" = none
  any_ : mg "any" = none
  sorted_ : mg "sorted" = none
  dict_ : mg "dict" = none
  set_ : mg "set" = none
section
variable {X : Cx} {e e2 : Expr} {ta : TA} {p pos : Pos}
theorem Blt.pLen {K : PySem.W.Frag} {mg : Str → Option Value} (B : Blt mg) (ha : PA X [e] ta) (hmg : X.mg = mg := by rfl) (hK : X.K = K := by rfl)  (hg : Gl X "len" := by rfl) (he : starEach [e] X.env = (false, eval e X.env) :: starEach [] X.env := by rfl) (hpl : (backTo pos (starEach [] X.env)).any (·.1) = false := by rfl) :
    PE X (.Call (.Name "len" p) [e] [] pos) (tCB (fun xs H Q => ∃ x n, xs = [x] ∧ LenV K x H n ∧ Q (.int n) H) ta) := by
  subst hmg
  subst hK
  exact pe_callB call_len hg B.len_ PySem.boot_len ha (by decide) (by decide) he hpl
theorem Blt.pAll {K : PySem.W.Frag} {mg : Str → Option Value} (B : Blt mg) (ha : PA X [e] ta) (hmg : X.mg = mg := by rfl) (hK : X.K = K := by rfl) (hc : X.calm = true := by rfl) (hg : Gl X "all" := by rfl) (he : starEach [e] X.env = (false, eval e X.env) :: starEach [] X.env := by rfl) (hpl : (backTo pos (starEach [] X.env)).any (·.1) = false := by rfl) :
    PE X (.Call (.Name "all" p) [e] [] pos) (tCB (rAll K) ta) := by
  subst hmg
  subst hK
  exact pe_callB (cr_all hc) hg B.all_ boot_all ha (by decide) (by decide) he hpl
theorem Blt.pIsinstance {K : PySem.W.Frag} {mg : Str → Option Value} (B : Blt mg) (ha : PA X [e, e2] ta) (hmg : X.mg = mg := by rfl) (hK : X.K = K := by rfl)  (hg : Gl X "isinstance" := by rfl) (he : starEach [e, e2] X.env = (false, eval e X.env) :: starEach [e2] X.env := by rfl) (hpl : (backTo pos (starEach [e2] X.env)).any (·.1) = false := by rfl) :
    PE X (.Call (.Name "isinstance" p) [e, e2] [] pos) (tCB (rIsi K) ta) := by
  subst hmg
  subst hK
  exact pe_callB call_isi hg B.isinstance_ PyProof.Rows.boot_isinstance ha (by decide) (by decide) he hpl
theorem Blt.pMax1 {K : PySem.W.Frag} {mg : Str → Option Value} (B : Blt mg) (ha : PA X [e] ta) (hmg : X.mg = mg := by rfl) (hK : X.K = K := by rfl) (hc : X.calm = true := by rfl) (hg : Gl X "max" := by rfl) (he : starEach [e] X.env = (false, eval e X.env) :: starEach [] X.env := by rfl) (hpl : (backTo pos (starEach [] X.env)).any (·.1) = false := by rfl) :
    PE X (.Call (.Name "max" p) [e] [] pos) (tCB (rMax K) ta) := by
  subst hmg
  subst hK
  exact pe_callB (cr_max hc) hg B.max_ PyProof.Rows.boot_max ha (by decide) (by decide) he hpl
theorem Blt.pMax2 {mg : Str → Option Value} (B : Blt mg) (ha : PA X [e, e2] ta) (hmg : X.mg = mg := by rfl) (hc : X.calm = true := by rfl) (hg : Gl X "max" := by rfl) (he : starEach [e, e2] X.env = (false, eval e X.env) :: starEach [e2] X.env := by rfl) (hpl : (backTo pos (starEach [e2] X.env)).any (·.1) = false := by rfl) :
    PE X (.Call (.Name "max" p) [e, e2] [] pos) (tCB (fun xs H Q => ∃ i j, xs = [.int i, .int j] ∧ Q (.int (if j > i then j else i)) H) ta) := by
  subst hmg
  skip
  exact pe_callB (call_max2 hc) hg B.max_ PyProof.Rows.boot_max ha (by decide) (by decide) he hpl
theorem Blt.pMin2 {mg : Str → Option Value} (B : Blt mg) (ha : PA X [e, e2] ta) (hmg : X.mg = mg := by rfl) (hc : X.calm = true := by rfl) (hg : Gl X "min" := by rfl) (he : starEach [e, e2] X.env = (false, eval e X.env) :: starEach [e2] X.env := by rfl) (hpl : (backTo pos (starEach [e2] X.env)).any (·.1) = false := by rfl) :
    PE X (.Call (.Name "min" p) [e, e2] [] pos) (tCB (fun xs H Q => ∃ i j, xs = [.int i, .int j] ∧ Q (.int (if j < i then j else i)) H) ta) := by
  subst hmg
  skip
  exact pe_callB (call_min2 hc) hg B.min_ PyProof.Rows.boot_min ha (by decide) (by decide) he hpl
theorem Blt.pAbs {mg : Str → Option Value} (B : Blt mg) (ha : PA X [e] ta) (hmg : X.mg = mg := by rfl)  (hg : Gl X "abs" := by rfl) (he : starEach [e] X.env = (false, eval e X.env) :: starEach [] X.env := by rfl) (hpl : (backTo pos (starEach [] X.env)).any (·.1) = false := by rfl) :
    PE X (.Call (.Name "abs" p) [e] [] pos) (tCB (fun xs H Q => ∃ i, xs = [.int i] ∧ Q (.int (if i < 0 then -i else i)) H) ta) := by
  subst hmg
  skip
  exact pe_callB call_abs hg B.abs_ PyProof.Rows.boot_abs ha (by decide) (by decide) he hpl
theorem Blt.pDivmod {mg : Str → Option Value} (B : Blt mg) (ha : PA X [e, e2] ta) (hmg : X.mg = mg := by rfl)  (hg : Gl X "divmod" := by rfl) (he : starEach [e, e2] X.env = (false, eval e X.env) :: starEach [e2] X.env := by rfl) (hpl : (backTo pos (starEach [e2] X.env)).any (·.1) = false := by rfl) :
    PE X (.Call (.Name "divmod" p) [e, e2] [] pos) (tCB (fun xs H Q => ∃ i j, xs = [.int i, .int j] ∧ CDiv i j ∧ ∀ p, H p = none → Q (.ref p) (upd H p (.tup [.int (i / j), .int (i % j)]))) ta) := by
  subst hmg
  skip
  exact pe_callB call_divmod hg B.divmod_ PyProof.Rows.boot_divmod ha (by decide) (by decide) he hpl
theorem Blt.pInt {mg : Str → Option Value} (B : Blt mg) (ha : PA X [e] ta) (hmg : X.mg = mg := by rfl)  (hg : Gl X "int" := by rfl) (he : starEach [e] X.env = (false, eval e X.env) :: starEach [] X.env := by rfl) (hpl : (backTo pos (starEach [] X.env)).any (·.1) = false := by rfl) :
    PE X (.Call (.Name "int" p) [e] [] pos) (tCB (fun xs H Q => (∃ i, xs = [.int i] ∧ Q (.int i) H) ∨ ∃ k, xs = [.bl k] ∧ Q (.int (if k then 1 else 0)) H) ta) := by
  subst hmg
  skip
  exact pe_callTy call_int1 hg B.int_ PyProof.Rows.boot_int ha (by decide) (by decide) he hpl
theorem Blt.pTuple {K : PySem.W.Frag} {mg : Str → Option Value} (B : Blt mg) (ha : PA X [e] ta) (hmg : X.mg = mg := by rfl) (hK : X.K = K := by rfl)  (hg : Gl X "tuple" := by rfl) (he : starEach [e] X.env = (false, eval e X.env) :: starEach [] X.env := by rfl) (hpl : (backTo pos (starEach [] X.env)).any (·.1) = false := by rfl) :
    PE X (.Call (.Name "tuple" p) [e] [] pos) (tCB (fun xs H Q => ∃ p ys, xs = [.ref p] ∧ ((SqL K H p ys ∧ ∀ l, H l = none → Q (.ref l) (upd H l (.tup ys))) ∨ (SqT K H p ys ∧ Q (.ref p) H))) ta) := by
  subst hmg
  subst hK
  exact pe_callTy call_tuple_of hg B.tuple_ PyProof.Rows.boot_tuple ha (by decide) (by decide) he hpl
theorem Blt.pList {K : PySem.W.Frag} {mg : Str → Option Value} (B : Blt mg) (ha : PA X [e] ta) (hmg : X.mg = mg := by rfl) (hK : X.K = K := by rfl)  (hg : Gl X "list" := by rfl) (he : starEach [e] X.env = (false, eval e X.env) :: starEach [] X.env := by rfl) (hpl : (backTo pos (starEach [] X.env)).any (·.1) = false := by rfl) :
    PE X (.Call (.Name "list" p) [e] [] pos) (tCB (fun xs H Q => ∃ p ys, xs = [.ref p] ∧ (SqL K H p ys ∨ SqT K H p ys) ∧ ∀ l, H l = none → Q (.ref l) (upd H l (.lst ys))) ta) := by
  subst hmg
  subst hK
  exact pe_callTy call_list_of hg B.list_ (by decide +kernel) ha (by decide) (by decide) he hpl
end
/-! the rules that look at the written part, with it told -/
section
variable {X : Cx} {K : PySem.W.Frag}
theorem ix_seqK (h : X.K = K := by rfl) : IxR X (rIx K) := by subst h; exact ix_seq
theorem ix_listK (h : X.K = K := by rfl) : IxR X (rIxL K) := by subst h; exact ix_list
theorem ix_tupK (h : X.K = K := by rfl) : IxR X (rIxT K) := by subst h; exact ix_tup
theorem op_inK (h : X.K = K := by rfl) : OpR X (compareOp .In) (rIn K false) := by subst h; exact op_in_seq
theorem op_notInK (h : X.K = K := by rfl) : OpR X (compareOp .NotIn) (rIn K true) := by subst h; exact op_notIn_seq
theorem op_eqDK (hu : X.A.units + 64 < cLine) (h : X.K = K := by rfl) : OpR X (compareOp .Eq) (rEqD K) := by subst h; exact op_eqD hu
theorem op_neDK (hu : X.A.units + 64 < cLine) (h : X.K = K := by rfl) : OpR X (compareOp .NotEq) (rNeD K) := by subst h; exact op_neD hu
theorem sl_listK (h : X.K = K := by rfl) : SlR X (rSlL K) := by subst h; exact sl_list
theorem sl_tupK (h : X.K = K := by rfl) : SlR X (rSlT K) := by subst h; exact sl_tup
theorem mt_indexK (h : X.K = K := by rfl) : MtR X "list.index" (rIndex K) := by subst h; exact mt_index
theorem pi_listK {tg l : Expr} {tl : TE} (hl : PE X l tl) (h : X.K = K := by rfl) : PI X tg l (iList K tl) := by subst h; exact pi_list hl
theorem pi_tupK {tg l : Expr} {tl : TE} (hl : PE X l tl) (h : X.K = K := by rfl) : PI X tg l (iTup K tl) := by subst h; exact pi_tup hl
theorem pa_starK {e : Expr} {es : List Expr} {te : TE} {t : TA} {p : Pos} (he : PE X e te) (hr : PA X es t) (h : X.K = K := by rfl) (hs : starEach (.Starred e p :: es) X.env = (true, eval e X.env) :: starEach es X.env := by rfl) : PA X (.Starred e p :: es) (StX.tStar K te t) := by
  subst h; exact StX.pa_star he hr hs
theorem pi_zipK {e e2 : Expr} {ta : TA} {p pos tpos : Pos} {elts : List Expr} {kk : Nat} (hm : X.mg "zip" = none) (ha : PA X [e, e2] ta) (h : X.K = K := by rfl) (hg : Gl X "zip" := by rfl)
    (hs : starEach [e, e2] X.env = (false, eval e X.env) :: starEach [e2] X.env := by rfl) (hpl : (backTo pos (starEach [e2] X.env)).any (·.1) = false := by rfl) :
    PI X (.Tuple elts kk tpos) (.Call (.Name "zip" p) [e, e2] [] pos) (iZipG K ta) := by subst h; exact pi_zipG hg hm ha hs hpl
theorem pi_enumK {e : Expr} {ta : TA} {p pos tpos : Pos} {elts : List Expr} {kk : Nat} (hm : X.mg "enumerate" = none) (ha : PA X [e] ta) (h : X.K = K := by rfl) (hg : Gl X "enumerate" := by rfl) (hs : starEach [e] X.env = [(false, eval e X.env)] := by rfl) :
    PI X (.Tuple elts kk tpos) (.Call (.Name "enumerate" p) [e] [] pos) (iEnumG K ta) := by subst h; exact pi_enumG hg hm ha hs
theorem pe_joinK {o e : Expr} {to te : TE} {apos pos : Pos} (ho : PE X o to) (he : PE X e te) (h : X.K = K := by rfl) (hs : starEach [e] X.env = [(false, eval e X.env)] := by rfl) (hbase : attributeBase o "join" X.env (eval o X.env) = eval o X.env := by rfl) (hline : (apos.endLine == pos.line) = true := by rfl) :
    PE X (.Call (.Attribute o "join" apos) [e] [] pos) (tM1 (fun x xs H Q => ∃ a p, ∃ ys : List Str, x = .str a ∧ xs = [.ref p] ∧ (SqL K H p (ys.map V.str) ∨ SqT K H p (ys.map V.str)) ∧ (ys.map (·.length)).sum + ys.length * a.length ≤ 16777216 ∧ Q (.str (Txt.join a ys)) H) to te) := by
  subst h; exact pe_join ho he hs hbase hline
theorem pe_bmK {T : String} {name : Str} {id : String} {r : V → List V → Hp → VK → Prop} {o e : Expr} {es : List Expr} {to : TE} {t : TA} {apos cpos : Pos} (pa : PlainAttrs T) (slot : Slot T name id) (hty : typeOf (.builtin id) = pure (.type "method_descriptor")) (hm : MtR X id r) (ho : PE X o to) (ha : PA X (e :: es) t) (h : X.K = K := by rfl)
    (hbase : attributeBase o name X.env (eval o X.env) = eval o X.env := by rfl)
    (hfew : ((backTo cpos (starEach (e :: es) X.env)).all (fun x => !x.1) && (backToKw cpos (keywordEach [] X.env)).all (fun x => x.1.isSome) && decide ((e :: es).length + ([] : List Keyword).length + (if ([] : List Keyword).isEmpty then 0 else 1) < 30)) = true := by rfl)
    (hline : (apos.endLine == cpos.line) = true := by rfl) (hs : starEach (e :: es) X.env = (false, eval e X.env) :: starEach es X.env := by rfl) (hplain : (backTo cpos (starEach es X.env)).any (·.1) = false := by rfl) :
    PE X (.Call (.Attribute o name apos) (e :: es) [] cpos) (tBM K T r to t) := by
  subst h; exact pe_bm pa slot hty hm ho ha hbase hfew hline hs hplain
end
/-- a constant of the module -/
def Cst (mg : Str → Option Value) (x : Str) (v : V) : Prop := ∃ u, mg x = some u ∧ RelV v u
theorem pe_cst {X : Cx} {x : Str} {v : V} {pos : Pos} (h : Cst X.mg x v) (hg : Gl X x := by rfl) (hd : (x == ("__debug__" : Str)) = false := by decide) : PE X (.Name x pos) (tC v) := by
  obtain ⟨u, m, r⟩ := h
  exact pe_glob hg m r hd
/-- a built-in type as a value -/
theorem pe_type {X : Cx} {x : Str} {T : String} {pos : Pos} (hm : X.mg x = none) (hv : bootBuiltins x = some (.type T)) (hg : Gl X x := by rfl) (hn : x ≠ "__name__" := by decide) (hd : (x == ("__debug__" : Str)) = false := by decide) : PE X (.Name x pos) (tC (.ty T)) := pe_bltn hg hm hv rfl hn hd
/-- a tuple's type -/
theorem ty_tup {K : PySem.W.Frag} {H : Hp} {a : Addr} {xs : List V} (h : SqT K H a xs) : TyX K H (.ref a) (.type "tuple") := by
  rcases h with (h | ⟨o, h⟩) | ⟨o, its, n, lk, hc, _⟩
  · exact .base (.tup h)
  · exact .fTuple h
  · exact .kTuple lk hc
theorem len_small {n : Nat} (h : n ≤ 100000) : n ≤ sizeLine := by rw [sizeLine_eq]; omega
end GH
namespace GH
open PySem PySem.Spec PyProof.Rows L2
/-- a def of the module -/
def Def (K : PySem.W.Frag) (mg : Str → Option Value) (x : Str) (st : Stmt) : Prop := ∃ f fd, Fun K x x st f fd ∧ mg x = some (.ref f)
theorem ok_def {P : Program} {w : World} {K : PySem.W.Frag} {mg : Str → Option Value} {base : Heap} {k : Nat} {x : Str} {st : Stmt} {N ps : List Str} {sp : Sp} (F : Def K mg x st) (S : FnScope N ps (defScope st))
    (hb : ∀ (kV doc pm : Value) (an : Option Addr) (cdv ct : Value) (us : List Value), us.length = ps.length → bindArgs (PySem.W.fnOf x x (defArgs st) (defBody st) (defScope st) .none kV doc pm an cdv ct) ⟨us, []⟩ = pure (ps.zip us))
    (len : ∀ vs H Q E, sp vs H Q E → vs.length = ps.length)
    (body : ∀ (f : Addr) (cdv : Value) (A : Around) (outer : List Env) (s : Shared) (H : Hp) (vs : List V) (Q : VK) (E : XK), Room k (A.deeper (envOfC x (defScope st) s.heap.objs.size f cdv)) → sp vs H Q E →
      ∃ t, PSs (cxOf CX0 P w K mg base N x (defScope st) f cdv A outer s H E).nox (defBody st) t ∧ t { nx := fun _ H' => Q .non H', rt := Q } (start N vs) H) : Ok P w K mg base (k + 1) x ps sp := by
  obtain ⟨f, fd, F1, m⟩ := F
  exact ok_of F1 m S hb len (body f)
/-- what the text says of the class Machine -/
structure MachCls (K : PySem.W.Frag) (mg : Str → Option Value) (sI sL sS : Stmt) : Prop where
  ex : ∃ (C fI pL gL pS gS : Addr) (fdI fdL fdS : FuncData), mg "Machine" = some (.ref C) ∧ Cls K C ∧ Mk K C fI ∧ NoAttr K C "held_letters" ∧ NoAttr K C "held_states" ∧
    Fun K "__init__" "Machine.__init__" sI fI fdI ∧ PropOf K C "letters" pL gL ∧ Fun K "letters" "Machine.letters" sL gL fdL ∧ PropOf K C "states" pS gS ∧ Fun K "states" "Machine.states" sS gS fdS ∧
    PySem.W.findIn K (.ref C) "__class__" = some (some (.builtin "object.__class__")) ∧ PySem.W.specialIn K (.builtin "object.__class__") "__get__" = some (some (.builtin "getset_descriptor.__get__")) ∧ PySem.W.takesIn K (.builtin "object.__class__") = some true ∧
    PySem.W.mroIn K C (.type "object") = some true ∧ PySem.W.kitOne K (.ref C) (.ref C) = some true
/-- the class's address -/
def machC (mg : Str → Option Value) : Addr := match mg "Machine" with
  | some (.ref C) => C
  | _ => 0
section
variable {K : PySem.W.Frag} {mg : Str → Option Value} {sI sL sS : Stmt}
theorem MachCls.c (M : MachCls K mg sI sL sS) : ∃ (fI pL gL pS gS : Addr) (fdI fdL fdS : FuncData), mg "Machine" = some (.ref (machC mg)) ∧ Cls K (machC mg) ∧ Mk K (machC mg) fI ∧ NoAttr K (machC mg) "held_letters" ∧ NoAttr K (machC mg) "held_states" ∧
    Fun K "__init__" "Machine.__init__" sI fI fdI ∧ PropOf K (machC mg) "letters" pL gL ∧ Fun K "letters" "Machine.letters" sL gL fdL ∧ PropOf K (machC mg) "states" pS gS ∧ Fun K "states" "Machine.states" sS gS fdS := by
  obtain ⟨C, fI, pL, gL, pS, gS, fdI, fdL, fdS, m, h1, h2, h3, h4, h5, h6, h7, h8, h9, _⟩ := M.ex
  have e : machC mg = C := by unfold machC; rw [m]
  rw [e]
  exact ⟨fI, pL, gL, pS, gS, fdI, fdL, fdS, m, h1, h2, h3, h4, h5, h6, h7, h8, h9⟩
theorem MachCls.g (M : MachCls K mg sI sL sS) : mg "Machine" = some (.ref (machC mg)) := by
  obtain ⟨_, _, _, _, _, _, _, _, m, _⟩ := M.c
  exact m
theorem MachCls.cl (M : MachCls K mg sI sL sS) : Cls K (machC mg) := by
  obtain ⟨_, _, _, _, _, _, _, _, _, m, _⟩ := M.c
  exact m
theorem MachCls.n1 (M : MachCls K mg sI sL sS) : NoAttr K (machC mg) "held_letters" := by
  obtain ⟨_, _, _, _, _, _, _, _, _, _, _, m, _⟩ := M.c
  exact m
theorem MachCls.n2 (M : MachCls K mg sI sL sS) : NoAttr K (machC mg) "held_states" := by
  obtain ⟨_, _, _, _, _, _, _, _, _, _, _, _, m, _⟩ := M.c
  exact m
theorem MachCls.ty (M : MachCls K mg sI sL sS) {H : Hp} {a dx : Addr} {fs : List (Str × V)} (e : H a = some (.ins (machC mg) dx fs)) : TyX K H (.ref a) (.ref (machC mg)) ∧ PySem.W.kitOne K (.ref (machC mg)) (.ref (machC mg)) = some true := by
  obtain ⟨C, fI, pL, gL, pS, gS, fdI, fdL, fdS, m, h1, h2, h3, h4, h5, h6, h7, h8, h9, a1, a2, a3, a4, a5⟩ := M.ex
  have z : machC mg = C := by unfold machC; rw [m]
  rw [z] at e ⊢
  exact ⟨.base (.ins e h1 a1 a2 a3 a4), a5⟩
end
/-! the fields of a machine -/
def mF (s q : V) : List (Str × V) := [("held_letters", s), ("held_states", q)]
theorem mF_l (s q : V) : (mF s q).lookup ("held_letters" : Str) = some s := by
  unfold mF
  rw [List.lookup_cons, show (("held_letters" : Str) == "held_letters") = true by decide +kernel]
theorem mF_s (s q : V) : (mF s q).lookup ("held_states" : Str) = some q := by
  unfold mF
  rw [List.lookup_cons, show (("held_states" : Str) == "held_letters") = false by decide +kernel, List.lookup_cons, show (("held_states" : Str) == "held_states") = true by decide +kernel]
theorem mF_put (s q : V) : putF "held_states" q (putF "held_letters" s []) = mF s q := by
  show (if ("held_letters" : Str) = "held_states" then _ else (("held_letters" : Str), s) :: putF "held_states" q []) = mF s q
  rw [if_neg (by decide +kernel)]
  rfl
section
variable {X : Cx} {sI sL sS : Stmt} {e : Expr} {te : TE} {pos : Pos}
theorem fn_get {P : Program} {w : World} {K : PySem.W.Frag} {mg : Str → Option Value} {base : Heap} {name qual f : Str} {st : Stmt} {fa C : Addr} {fd : FuncData} (F : Fun K name qual st fa fd) (S : FnScope ["self"] ["self"] (defScope st)) (hb : ∃ p1 p2 p3, defBody st = [.Return (some (.Attribute (.Name "self" p1) f p2)) p3]) (c : Cls K C) (n : NoAttr K C f) :
    FnOk P w K mg base CX0 1 fa fd ["self"] (getSp C f) := by
  obtain ⟨p1, p2, p3, hb⟩ := hb
  obtain ⟨oc, od, kV, doc, pm, an, cdv, ct, osl, rfl, lk, hcd⟩ := F.ex
  exact fn_getter lk hcd S rfl hb c n
end
end GH
namespace GH
open PySem PySem.Spec PyProof.Rows L2
/-! ### what a datum's text may come to -/
mutual
def okD : PyData → Prop
  | .none | .bool _ => True
  | .int i => i.natAbs.log2 < 1920
  | .str x => ∀ c ∈ x.cps.toList, c < 16 ^ 8
  | .list xs | .tuple xs => okAll xs
  | .dict _ => False
def okAll : List PyData → Prop
  | [] => True
  | x :: xs => okD x ∧ okAll xs
end
mutual
def cost : PyData → Nat
  | .none | .bool _ => 5
  | .int _ => 1930
  | .str x => 10 * x.cps.size + 2
  | .list xs | .tuple xs => costAll xs + 3
  | .dict _ => 0
def costAll : List PyData → Nat
  | [] => 0
  | x :: xs => cost x + 2 + costAll xs
end
mutual
theorem okD_showable : ∀ d : PyData, okD d → d.showable = true ∧ d.hasDict = false
  | .none, _ => ⟨rfl, rfl⟩
  | .bool _, _ => ⟨rfl, rfl⟩
  | .int i, h => ⟨decide_eq_true (by simpa only [okD] using h), rfl⟩
  | .str _, _ => ⟨rfl, rfl⟩
  | .list xs, h => by
    have := okAll_showable xs (by simpa only [okD] using h)
    simpa only [PyData.showable, PyData.hasDict] using this
  | .tuple xs, h => by
    have := okAll_showable xs (by simpa only [okD] using h)
    simpa only [PyData.showable, PyData.hasDict] using this
  | .dict _, h => by simp only [okD] at h
theorem okAll_showable : ∀ xs : List PyData, okAll xs → PyData.showableAll xs = true ∧ PyData.hasDictAll xs = false
  | [], _ => ⟨rfl, rfl⟩
  | x :: xs, h => by
    have h' : okD x ∧ okAll xs := by simpa only [okAll] using h
    have h1 := okD_showable x h'.1
    have h2 := okAll_showable xs h'.2
    simp only [PyData.showableAll, PyData.hasDictAll, h1.1, h1.2, h2.1, h2.2]
    decide
end
mutual
theorem shown_cost : ∀ d : PyData, okD d → d.shown.length ≤ cost d
  | .none, _ => by
    have e : (PyData.shown .none).length = 4 := rfl
    simp only [cost]; omega
  | .bool b, _ => by
    have e : (PyData.shown (.bool b)).length ≤ 5 := by cases b <;> decide
    simp only [cost]; omega
  | .int i, h => by
    have h' : i.natAbs.log2 < 1920 := by simpa only [okD] using h
    have e := int_text_length_le (by decide) h'
    have e2 : (PyData.shown (.int i)).length = (toString i).length := by
      simp only [PyData.shown]
      exact PySem.ofString_length _
    simp only [cost]; omega
  | .str x, h => by
    have h' : ∀ c ∈ x.cps.toList, c < 16 ^ 8 := by simpa only [okD] using h
    have e := StrLaws.reprText_len x h'
    have e2 : x.length = x.cps.size := rfl
    simp only [PyData.shown, cost]; omega
  | .list xs, h => by
    have h1 := shownAll_cost xs (by simpa only [okD] using h)
    have h2 := listText_len_le (PyData.shownAll xs)
    have h3 := PyData.shownAll_length xs
    simp only [PyData.shown, cost]; omega
  | .tuple xs, h => by
    have h1 := shownAll_cost xs (by simpa only [okD] using h)
    have h2 := tupleText_len_le (PyData.shownAll xs)
    have h3 := PyData.shownAll_length xs
    simp only [PyData.shown, cost]; omega
  | .dict _, h => by simp only [okD] at h
theorem shownAll_cost : ∀ xs : List PyData, okAll xs → ((PyData.shownAll xs).map (·.length)).sum + 2 * xs.length ≤ costAll xs
  | [], _ => by simp [PyData.shownAll, costAll]
  | x :: xs, h => by
    have h' : okD x ∧ okAll xs := by simpa only [okAll] using h
    have h1 := shown_cost x h'.1
    have h2 := shownAll_cost xs h'.2
    simp only [PyData.shownAll, costAll, List.map_cons, List.sum_cons, List.length_cons]
    omega
end
theorem okInt {i : Int} (h : i.natAbs < 2 ^ 64) : okD (.int i) := by
  simp only [okD]
  by_cases h0 : i.natAbs = 0
  · rw [h0]; decide
  · exact Nat.lt_of_lt_of_le ((Nat.log2_lt h0).mpr h) (by decide)
theorem okNat {n : Nat} (h : n < 2 ^ 64) : okD (.int (n : Nat)) := okInt (by simpa using h)
theorem okBool (b : Bool) : okD (.bool b) := by simp only [okD]
theorem okNil : okAll [] := by simp only [okAll]
theorem okCons {x : PyData} {xs : List PyData} (a : okD x) (b : okAll xs) : okAll (x :: xs) := by simp only [okAll]; exact ⟨a, b⟩
theorem okLst {xs : List PyData} (a : okAll xs) : okD (.list xs) := by simp only [okD]; exact a
theorem okTup {xs : List PyData} (a : okAll xs) : okD (.tuple xs) := by simp only [okD]; exact a
/-! numbers in a row -/
def natD (l : List Nat) : List PyData := l.map fun n => .int (n : Nat)
theorem dp_nats {K : PySem.W.Frag} {H : Hp} : ∀ l : List Nat, DpAll K H (l.map fun n => V.int (n : Nat)) (natD l)
  | [] => .nil
  | _ :: r => .cons (.int _) (dp_nats r)
theorem ok_nats : ∀ l : List Nat, (∀ n ∈ l, n < 2 ^ 64) → okAll (natD l)
  | [], _ => okNil
  | n :: r, h => okCons (okNat (h n List.mem_cons_self)) (ok_nats r fun m hm => h m (List.mem_cons_of_mem _ hm))
theorem cost_nats : ∀ l : List Nat, costAll (natD l) = 1932 * l.length
  | [] => by simp [natD, costAll]
  | n :: r => by
    show cost _ + 2 + costAll (natD r) = _
    rw [cost_nats r]
    simp only [cost, List.length_cons]
    omega
theorem depth_nats : ∀ l : List Nat, PyData.depthAll (natD l) = 0
  | [] => by simp [natD, PyData.depthAll]
  | n :: r => by
    show max (PyData.depth _) (PyData.depthAll (natD r)) = 0
    rw [depth_nats r]
    simp [PyData.depth]
/-! ### repr of a datum, where no repr is under way -/
def rRepr (K : PySem.W.Frag) : List V → Hp → VK → Prop := fun xs H Q => ∃ x d, xs = [x] ∧ Dp K H x d ∧ okD d ∧ d.depth ≤ 60 ∧ cost d ≤ 10000000 ∧ Q (.str d.shown) H
theorem call_reprD {X : Cx} {k : Nat} (hg : X.A.guards = some []) (hr : Room k X.A) : CallR X (.builtin "repr") (rRepr X.K) := by
  intro pins s σ H xs us Q I r h
  obtain ⟨x, d, rfl, hd, ok, dp, cs, q⟩ := h
  obtain ⟨u, rfl, ru⟩ := vals1 r
  have hz : d.shown.length ≤ sizeLine := by
    have := shown_cost d ok
    rw [sizeLine_eq]; omega
  cases hd with
  | non => cases ru; exact PySem.P.repr_of_none ⟨.str _, H, I.tok _, ⟨_, rfl⟩, q⟩
  | bl b => cases ru; exact PySem.P.repr_of_bool ⟨.str _, H, I.tok _, ⟨_, rfl⟩, by cases b <;> exact q⟩
  | int i =>
    obtain ⟨t, rfl⟩ := ru
    exact PySem.P.repr_of_int (by simpa only [okD] using ok) ⟨.str _, H, I.tok _, ⟨_, rfl⟩, q⟩
  | str y =>
    obtain ⟨t, rfl⟩ := ru
    exact PySem.P.repr_of_str ⟨.str _, H, I.tok _, ⟨_, rfl⟩, q⟩ hz
  | lst hs ha =>
    obtain ⟨as, rd⟩ := Dp.reads I _ _ _ (.lst hs ha) ru
    cases ru
    have o := okD_showable _ ok
    exact repr_of_reads' rd o.1 (PyData.noDict_hsm o.2) hg (by have := hr.units; omega) (fun _ _ e => e) (fun h' u tk hk => ⟨.str _, H, I.kept hk, ⟨_, rfl⟩, q⟩) hz
  | tup hs ha =>
    obtain ⟨as, rd⟩ := Dp.reads I _ _ _ (.tup hs ha) ru
    cases ru
    have o := okD_showable _ ok
    exact repr_of_reads' rd o.1 (PyData.noDict_hsm o.2) hg (by have := hr.units; omega) (fun _ _ e => e) (fun h' u tk hk => ⟨.str _, H, I.kept hk, ⟨_, rfl⟩, q⟩) hz
theorem pe_repr {X : Cx} {K : PySem.W.Frag} {mg : Str → Option Value} {k : Nat} {e : Expr} {ta : TA} {p pos : Pos} (hm : mg "repr" = none) (hq : X.A.guards = some []) (hr : Room k X.A) (ha : PA X [e] ta) (hmg : X.mg = mg := by rfl) (hK : X.K = K := by rfl) (hg : Gl X "repr" := by rfl)
    (he : starEach [e] X.env = (false, eval e X.env) :: starEach [] X.env := by rfl) (hpl : (backTo pos (starEach [] X.env)).any (·.1) = false := by rfl) : PE X (.Call (.Name "repr" p) [e] [] pos) (tCB (rRepr K) ta) := by
  subst hmg
  subst hK
  exact pe_callB (call_reprD hq hr) hg hm (by decide +kernel) ha (by decide) (by decide) he hpl
end GH
namespace GH
open PySem PySem.Spec PyProof.Rows L2
/-! ### a def's promise where no repr is under way -/
structure FnG (P : Program) (w : World) (K : PySem.W.Frag) (mg : Str → Option Value) (base : Heap) (k : Nat) (f : Addr) (fd : FuncData) (ps : List Str) (sp : Sp) : Prop where
  ln : ∀ vs H Q E, sp vs H Q E → vs.length = ps.length
  go : ∀ (A : Around) (ou : List Env) (s : Shared) (H : Hp) (args : Args) (us : List Value) (vs : List V) (Q : VK) (E : XK), A.guards = some [] → Room k A → Env0 P w K mg base A ou s H → BindsTo s fd args (ps.zip us) → Vals vs us → sp vs H Q E →
    codeAny (model P w) A (.call (.ref f) args) (CR CX0 ou P w H s Q E) s
section
variable {X : Cx} {k : Nat} {f : Addr} {fd : FuncData} {ps : List Str} {sp : Sp} {x : Str} {p pos : Pos} {e : Expr} {es : List Expr} {t : TA}
theorem go_fn {pins : List (Addr × Obj)} {σ : L2.St} {H : Hp} {s : Shared} {Q : VK} {us : List Value} {vs : List V} (F : FnG X.prog X.w X.K X.mg X.base k f fd ps sp) (gd : X.A.guards = some []) (hr : Room k X.A) (hb : Binds X.K fd ps [])
    (I : Inv X pins σ H s) (r : Vals vs us) (h : sp vs H Q E0) : wpAny (model X.prog X.w) X.A (call (.ref f) us) (EP X pins σ Q) X.xe s := by
  have hl : (us ++ []).length = ps.length := by rw [List.append_nil, ← r.length]; exact F.ln _ _ _ _ h
  have bt := hb s us I.kIn hl
  rw [List.append_nil] at bt
  refine wpAny_call (codeAny_mono (F.go X.A X.stack s H ⟨us, []⟩ us vs Q E0 gd hr I.env0 bt r h) fun o s' hq => ?_)
  cases o with
  | error e => exact False.elim hq
  | ok fl => cases fl with
    | ret u => exact I.after hq
    | next => exact False.elim hq
    | brk => exact False.elim hq
    | cont => exact False.elim hq
end
structure OkG (P : Program) (w : World) (K : PySem.W.Frag) (mg : Str → Option Value) (base : Heap) (n : Nat) (x : Str) (ps : List Str) (sp : Sp) : Prop where
  ex : ∃ f fd, FnG P w K mg base n f fd ps sp ∧ Binds K fd ps [] ∧ mg x = some (.ref f) ∧ PySem.W.keepIn K (.ref f) = true ∧ (∀ (s : Shared) (us : List Value), us.length = ps.length → BindsTo s fd ⟨us, []⟩ (ps.zip us)) ∧ ∃ oc od osl, K.lookup f = some ⟨oc, od, .func fd, osl⟩
theorem pe_fnG {X : Cx} {n : Nat} {x : Str} {ps : List Str} {sp : Sp} {p pos : Pos} {e : Expr} {es : List Expr} {t : TA} (O : OkG X.prog X.w X.K X.mg X.base n x ps sp) (gd : X.A.guards = some []) (hr : Room n X.A) (hg : Gl X x) (ha : PA X (e :: es) t) (hdb : (x == ("__debug__" : Str)) = false := by decide)
    (he : starEach (e :: es) X.env = (false, eval e X.env) :: starEach es X.env := by rfl) (hpl : (backTo pos (starEach es X.env)).any (·.1) = false := by rfl) :
    PE X (.Call (.Name x p) (e :: es) [] pos) (tCall sp [] E0 t) := by
  obtain ⟨f, fd, F, b, m, k, _⟩ := O.ex
  refine ⟨fun pins s σ H Q I h => ?_⟩
  refine wpAny_Call_Name_kw (ld_glob I hg m ?_ hdb)
  refine PySem.W.callWith_K (h₀ := X.base) I.ok.mod.kin k (thn (ha.run pos pins s σ H _ I h) fun us s1 ⟨vs, H1, I1, r, q⟩ => ⟨I1.kIn, ?_⟩) he hpl
  have q : sp (vs ++ []) H1 Q E0 := q
  rw [List.append_nil] at q
  exact go_fn F gd hr b I1 r q
/-- a def of the text, by its body -/
theorem okG_def {P : Program} {w : World} {K : PySem.W.Frag} {mg : Str → Option Value} {base : Heap} {k : Nat} {x : Str} {st : Stmt} {N ps : List Str} {sp : Sp} (F : Def K mg x st) (S : FnScope N ps (defScope st))
    (hb : ∀ (kV doc pm : Value) (an : Option Addr) (cdv ct : Value) (us : List Value), us.length = ps.length → bindArgs (PySem.W.fnOf x x (defArgs st) (defBody st) (defScope st) .none kV doc pm an cdv ct) ⟨us, []⟩ = pure (ps.zip us))
    (len : ∀ vs H Q E, sp vs H Q E → vs.length = ps.length)
    (body : ∀ (f : Addr) (cdv : Value) (A : Around) (outer : List Env) (s : Shared) (H : Hp) (vs : List V) (Q : VK) (E : XK), A.guards = some [] → Room k (A.deeper (envOfC x (defScope st) s.heap.objs.size f cdv)) → sp vs H Q E →
      ∃ t, PSs (cxOf CX0 P w K mg base N x (defScope st) f cdv A outer s H E).nox (defBody st) t ∧ t { nx := fun _ H' => Q .non H', rt := Q } (start N vs) H) : OkG P w K mg base (k + 1) x ps sp := by
  obtain ⟨f, fd, F1, m⟩ := F
  have bnd := F1.binds hb
  have kp := F1.kp
  obtain ⟨oc, od, kV, doc, pm, an, cdv, ct, osl, rfl, lk, hcd⟩ := F1.ex
  refine ⟨f, _, ⟨len, fun A ou s H args us vs Q E gd hr ev bt rl hs => ?_⟩, bnd, m, kp, fun s us hl => .of_eq (hb kV doc pm an cdv ct us hl), oc, od, osl, lk⟩
  have hv := len _ _ _ _ hs
  have inH : K.In s.heap := ev.mod.kin.keeps fun b o e => (ev.bs b o e).1
  have nlm : s.heap.NoLimit := ev.mod.nolimit.keeps fun b o e => (ev.bs b o e).1
  have knd : ∀ y ∈ ps.zip us, (defScope st).names.lookup y.1 = some .local ∨ ((defScope st).names.lookup y.1 = some .cell ∧ ((cellsFrom (s.heap.objs.size + 1) (defScope st).names []).lookup y.1).isSome = true) := fun ⟨n, v⟩ hy => by
    rcases S.par n (List.of_mem_zip hy).1 with z | z
    · exact .inl z
    · exact .inr ⟨z, PySem.W.cellsFrom_some _ _ _ (.inl z)⟩
  refine codeAny_call_function hr.depth (inH _ _ lk) rfl S.co S.gen rfl (PySem.W.codeRec_of inH hcd) (bt _ _ _ _ ?_)
  refine wpAny_newFunctionEnv_cells S.kind knd fun env he s1 fr => ?_
  subst he
  refine ⟨nlm.keeps fr.toInCall.keep, codeAny_func ?_⟩
  obtain ⟨t, ht, hq⟩ := body f cdv A ou s H vs Q E gd (hr.deeper _) hs
  have I : Inv (cxOf CX0 P w K mg base N x (defScope st) f cdv A ou s H E) [] (start N vs) H s1 := inv_start S hr.hd ev hv rl fr
  have ht2 : PSs (cxOf CX0 P w K mg base N x (defScope st) f cdv A ou s H E) (defBody st) t := ht.nox
  refine wpAny_mono (ht2.run [] s1 (start N vs) H _ I hq) (fun fl s' hz => ?_) fun e s' hz => hz
  cases fl with
  | ret u =>
    obtain ⟨v, σ', H', J, rv, q⟩ := hz
    exact ⟨v, H', J.os, J.bare, J.base, J.hok, rv, q⟩
  | next =>
    obtain ⟨σ', H', J, q⟩ := hz
    exact ⟨.non, H', J.os, J.bare, J.base, J.hok, rfl, q⟩
  | brk => obtain ⟨_, _, _, q⟩ := hz; exact False.elim q
  | cont => obtain ⟨_, _, _, q⟩ := hz; exact False.elim q
theorem OkG.every {P : Program} {w : World} {K : PySem.W.Frag} {mg : Str → Option Value} {n : Nat} {x p : Str} {sp : Sp} {f : Addr} (O : ∀ base : Heap, OkG P w K mg base n x [p] sp) (m : mg x = some (.ref f)) :
    ∃ fd : FuncData, (∀ (s : Shared) (u : Value), BindsTo s fd ⟨[u], []⟩ [(p, u)]) ∧ ∀ base : Heap, FnG P w K mg base n f fd [p] sp := by
  obtain ⟨f0, fd, F, b, m0, k, bt, oc, od, osl, lk⟩ := (O default).ex
  rw [m] at m0
  cases m0
  refine ⟨fd, fun s u => bt s [u] rfl, fun base => ?_⟩
  obtain ⟨f1, fd1, F1, _, m1, _, _, oc1, od1, osl1, lk1⟩ := (O base).ex
  rw [m] at m1
  cases m1
  rw [lk] at lk1
  cases lk1
  exact F1
/-! ### the law's call -/
theorem go_law {P : Program} {w : World} {K : PySem.W.Frag} {mg mb : Str → Option Value} {k : Nat} {fa a : Addr} {fd : FuncData} {x : Str} {sp : Sp} {s1 : Shared} {vs : List Value} {ns : List Int}
    (KX : K.In s1.heap) (hns : s1.heap.Ns mainGlobals mg) (hb : s1.heap.Ns builtinsNs mb) (hbb : ∀ x : Str, x ≠ "__name__" → mb x = bootBuiltins x) (lim : s1.heap.NoLimit) (gn : s1.gens = #[])
    (ha : s1.heap.get? a = some { cls := .type "list", data := .seq vs.toArray }) (hi : IntsAre vs ns) (hl : ns.length ≤ sizeLine) (hr : Room k callerA)
    (F : ∀ base : Heap, FnG P w K mg base k fa fd [x] sp) (hbind : ∀ (s : Shared) (u : Value), BindsTo s fd ⟨[u], []⟩ [(x, u)])
    (hsp : ∀ H : Hp, SqL K H a (ns.map V.int) → sp [.ref a] H (fun v _ => v = .bl true) fun _ _ _ => False) :
    codeAny (model P w) callerA (.call (.ref fa) ⟨[.ref a], []⟩) (fun r s' => r = .ok (.ret (.bool true)) ∧ OldK s1.heap s'.heap ∧ s'.os = s1.os ∧ AllBare s'.gens) s1 := by
  have rv := vals_ints hi
  have hlen := hi.length
  have mid : ∀ H : Hp, Only H → SqL K H a (ns.map V.int) → HOk P w H s1.heap → (∀ b, H b ≠ none → b = a) → (H a ≠ none → K.lookup a = none) →
      codeAny (model P w) callerA (.call (.ref fa) ⟨[.ref a], []⟩) (fun r s' => r = .ok (.ret (.bool true)) ∧ OldK s1.heap s'.heap ∧ s'.os = s1.os ∧ AllBare s'.gens) s1 := by
    intro H only sq hok one out
    have bare : ∀ {b : Addr} {o : Obj} {es : Array DictEntry} {ep : Nat}, s1.heap.get? b = some o → o.data = .dict es ep → H b = none := fun {b o es ep} e d => by
      cases q : H b with
      | none => rfl
      | some u =>
        obtain rfl : b = a := one b (by rw [q]; exact Option.some_ne_none u)
        rw [ha] at e; cases e
        exact nomatch (show Data.seq vs.toArray _ = Data.dict es ep from d)
    have space : ∀ {b : Addr} {m : Str → Option Value}, s1.heap.Ns b m → (hidT s1.heap H).Ns b m := fun {b m} ⟨o, es, ep, e, d, r⟩ => ⟨o, es, ep, hidT_get e (bare e d), d, r⟩
    have part : K.In (hidT s1.heap H) := fun b o e => hidT_get (KX b o e) (by
      cases q : H b with
      | none => rfl
      | some u =>
        obtain rfl : b = a := one b (by rw [q]; exact Option.some_ne_none u)
        rw [out (by rw [q]; exact Option.some_ne_none u)] at e; cases e)
    have md : Mod K mg (hidT s1.heap H) := ⟨part, space hns, ⟨mb, space hb, hbb⟩, let ⟨mc, h1, h2⟩ := lim; ⟨mc, space h1, h2⟩⟩
    have ev : Env0 P w K mg (hidT s1.heap H) callerA [] s1 H := ⟨rfl, md, fun b o e => of_hidT e, Nat.le_of_eq (hidT_size _ _), trivial, fun b hb => (nomatch (show b ∈ ([] : List Addr) from hb)), hok, .of_eq gn⟩
    refine codeAny_mono ((F _).go callerA [] s1 H ⟨[.ref a], []⟩ [.ref a] [.ref a] _ _ rfl hr ev (hbind s1 (.ref a)) (.cons rfl .nil) (hsp H sq)) fun o s' h => ?_
    cases o with
    | error e => exact False.elim h
    | ok fl => cases fl with
      | next => exact False.elim h
      | brk => exact False.elim h
      | cont => exact False.elim h
      | ret u =>
        obtain ⟨v, H', os, br, un, hok', r', q⟩ := h
        obtain rfl : v = .bl true := q
        obtain rfl : u = Value.bool true := r'
        refine ⟨rfl, OldK.of_keep fun b o e => ?_, os, br⟩
        cases q : H b with
        | none => exact un.keep b o e q (fun z => nomatch (show b ∈ ([] : List Addr) from z)) (fun z => nomatch (show b ∈ ([] : List Addr) from z))
        | some u =>
          rcases only b with z | ⟨ob, xs, z⟩
          · rw [q] at z; cases z
          · obtain ⟨i1, _⟩ := hok b _ z
            obtain ⟨i2, _⟩ := hok' b _ (un.frzs b ob _ z)
            rw [e] at i1; cases i1
            exact i2
  cases hk : K.lookup a with
  | some o =>
    have e := KX a o hk
    rw [ha] at e
    cases e
    refine mid (fun _ => none) (fun _ => .inl rfl) (.inr ⟨_, vs.toArray, _, hk, rfl, rfl, rfl, ?_, by simpa using rv⟩) (fun b u z => nomatch (show (none : Option HO) = some u from z)) (fun b z => absurd rfl z) fun z => absurd rfl z
    rw [List.size_toArray, hlen]; exact hl
  | none =>
    let H0 : Hp := fun b => if b = a then some (.frz { cls := .type "list", data := .seq vs.toArray } (.lst (ns.map V.int))) else none
    have at_ : H0 a = some (.frz { cls := .type "list", data := .seq vs.toArray } (.lst (ns.map V.int))) := if_pos rfl
    have off : ∀ b, b ≠ a → H0 b = none := fun b n => if_neg n
    refine mid H0 (fun b => ?_) (.inl (.inr ⟨_, at_⟩)) (fun b u z => ?_) (fun b z => ?_) fun _ => hk
    · by_cases q : b = a
      · subst q; exact .inr ⟨_, _, at_⟩
      · exact .inl (off b q)
    · by_cases q : b = a
      · subst q
        rw [at_] at z; cases z
        exact ⟨ha, by rw [List.length_map]; exact hl, vs, _, rv, ha⟩
      · rw [off b q] at z; cases z
    · by_cases q : b = a
      · exact q
      · exact absurd (off b q) z
theorem go_walk {l : PySem.W.OpenLaw} {n k : Nat} {q : Program} {loose : List Str} {XP : (Str → Option Value) → Heap → Prop} {YP : World → Heap → Prop} {d : DefRec} {x : Str}
    (hn : l.most = some n) (hn2 : n ≤ sizeLine) (hdf : d.params.defaults = []) (hr : Room k callerA)
    (F : ∀ (w : World) (mg : Str → Option Value) (fa : Addr) (h : Heap), YP w h → h.Ns mainGlobals mg → mg d.name = some (.ref fa) →
      ∃ (K : PySem.W.Frag) (fd : FuncData) (sp : Sp), K.In h ∧ (∀ (s : Shared) (u : Value), BindsTo s fd ⟨[u], []⟩ [(x, u)]) ∧
        (∀ (H : Hp) (a : Addr) (ns : List Int), ns.length ≤ n → SqL K H a (ns.map V.int) → sp [.ref a] H (fun v _ => v = .bl true) fun _ _ _ => False) ∧
        ∀ base : Heap, FnG l.prog w K mg base k fa fd [x] sp) : PySem.W.WalkO q loose XP YP l.row.toRowW d [] (fun f vs => PySem.call f vs) := by
  refine Att.attach_call hn hdf fun w s0 s1 mg mb fa o pm cd doc a vs ns G Y _ _ _ hmg hob hin hle hgn => ?_
  obtain ⟨K, fd, sp, KX, hb, hs, hF⟩ := F w mg fa _ Y G.T.g hmg
  exact go_law KX G.T.g G.T.b G.T.builtins G.T.nolimit hgn hob hin (Nat.le_trans hle hn2) hr hF hb fun H hS => hs H a ns hle hS
end GH
namespace GH
open PySem PySem.Spec PyProof.Rows L2
/-! ### a def called by names alone; g: the values in the parameters' order -/
def swp {α : Type} : List α → List α
  | [a, b] => [b, a]
  | _ => []
theorem swp_rel : ∀ {zs : List V} {ws : List Value}, Vals zs ws → Vals (swp zs) (swp ws)
  | _, _, .nil => .nil
  | _, _, .cons _ .nil => .nil
  | _, _, .cons a (.cons b .nil) => .cons b (.cons a .nil)
  | _, _, .cons _ (.cons _ (.cons _ _)) => .nil
theorem swp_ok {p1 p2 : Str} {fd : FuncData} (h : ∀ a b, bindArgs fd ⟨[], [(p2, a), (p1, b)]⟩ = pure [(p1, b), (p2, a)]) : ∀ ws : List Value, (swp ws).length = [p1, p2].length → bindArgs fd ⟨[], [p2, p1].zip ws⟩ = pure ([p1, p2].zip (swp ws))
  | [], hl => nomatch hl
  | [_], hl => nomatch hl
  | [a, b], _ => h a b
  | _ :: _ :: _ :: _, hl => nomatch hl
def tKw (sp : Sp) (g : List V → List V) (tk : TA) : TE := fun σ H Q => tk σ H fun zs H1 => sp (g zs) H1 Q E0
section
variable {X : Cx} {n : Nat} {x : Str} {ps ks : List Str} {sp : Sp} {p pos : Pos} {kws : List Keyword} {tk : TA} {st : Stmt} {g : {α : Type} → List α → List α}
theorem pe_fnK (D : Def X.K X.mg x st) (O : Ok X.prog X.w X.K X.mg X.base n x ps sp) (hr : Room n X.A) (hg : Gl X x) (hkw : PK X kws tk) (hrel : ∀ {zs : List V} {ws : List Value}, Vals zs ws → Vals (g zs) (g ws))
    (hb : ∀ (kV doc pm : Value) (an : Option Addr) (cdv ct : Value) (ws : List Value), (g ws).length = ps.length → bindArgs (PySem.W.fnOf x x (defArgs st) (defBody st) (defScope st) .none kV doc pm an cdv ct) ⟨[], ks.zip ws⟩ = pure (ps.zip (g ws)))
    (hall : (backToKw pos (keywordEach kws X.env)).all (·.1.isSome) = true := by rfl) (hks : (backToKw pos (keywordEach kws X.env)).filterMap (·.1) = ks := by rfl) (hdb : (x == ("__debug__" : Str)) = false := by decide)
    (hpl : ((backTo pos (starEach [] X.env)).any (·.1) || (backToKw pos (keywordEach kws X.env)).any (·.1.isNone)) = false := by rfl) :
    PE X (.Call (.Name x p) [] kws pos) (tKw sp g tk) := by
  obtain ⟨f, fd, F, b, m, k, _, oc, od, osl, lk⟩ := O.ex
  obtain ⟨f1, fd1, F1, m1⟩ := D
  rw [m] at m1
  cases m1
  obtain ⟨oc1, od1, kV, doc, pm, an, cdv, ct, osl1, rfl, lk1, hcd⟩ := F1.ex
  rw [lk] at lk1
  cases lk1
  refine ⟨fun pins s σ H Q I h => ?_⟩
  refine wpAny_Call_Name_kw (ld_glob I hg m ?_ hdb)
  refine PySem.W.callWith_KW0 (h₀ := X.base) I.ok.mod.kin k hall (thn (hkw.run pos pins s σ H _ I h) fun ws s2 ⟨zs, H2, I2, rz, q2⟩ => ⟨I2.kIn, ?_⟩) hpl
  rw [hks]
  have rg := hrel rz
  have hl : (g ws).length = ps.length := by rw [← rg.length]; exact F.len _ _ _ _ q2
  refine wpAny_call (codeAny_mono (F.run X.A X.stack s2 H2 ⟨[], ks.zip ws⟩ (g ws) (g zs) Q E0 hr I2.env0 (.of_eq (hb kV doc pm an cdv ct ws hl)) rg q2) fun o s' hq => ?_)
  cases o with
  | error e => exact False.elim hq
  | ok fl => cases fl with
    | ret u => exact I2.after hq
    | next => exact False.elim hq
    | brk => exact False.elim hq
    | cont => exact False.elim hq
end
end GH
namespace GH
open PySem PySem.Spec PyProof.Rows L2
/-! ### a tuple once -/
theorem tup_once (l : Addr) (items : Array Value) (n : Nat) (dd : Option Addr) (sl : Array (Option Value)) (u : Tok) :
    Meets (Builtin.«tuple.__mul__» ⟨[.ref l, .int 1 u], []⟩) (fun _ R s => s.heap.get? l = some { cls := .type "tuple", dict := dd, data := .seq items n, slots := sl } ∧ R (.ok (.ret (Value.ref l))) s) :=
  .of_wp fun prog w A R s h => by
    obtain ⟨hp, g, d, tk, os⟩ := s
    obtain ⟨hl, h⟩ := h
    have f1 := AutoSeq1.idx_int
    have c1 : (items.isEmpty || (1 : Int) == 1) = true := by simp
    wp_walk using wpAny_loadPart' hl
    repeat (first
      | (refine wpAny_ite_true (decide_eq_true c1) ?_; wp_walk using wpAny_loadPart' hl)
      | (refine wpAny_ite_true rfl ?_; wp_walk using wpAny_loadPart' hl))
    exact ⟨_, rfl, h⟩
def rRepA (K : PySem.W.Frag) : R2 := fun x y H Q => ∃ (l : Addr) (k : Nat) (xs : List V), x = .ref l ∧ y = .int (k : Nat) ∧ SqT K H l xs ∧ xs ≠ [] ∧ 1 ≤ k ∧ k ≤ 1000 ∧ xs.length ≤ 1000 ∧ (k = 1 → Q (.ref l) H) ∧ (k ≠ 1 → ∀ p, H p = none → Q (.ref p) (upd H p (.tup (List.replicate k xs).flatten)))
theorem op_repA {X : Cx} {K : PySem.W.Frag} (hK : X.K = K := by rfl) : OpR X (binaryOp .Mult) (rRepA K) := by
  subst hK
  intro pins s σ H x y v u Q I rx ry h
  obtain ⟨l, k, xs, rfl, rfl, hT, hne, h1, h2, hz, q1, q2⟩ := h
  by_cases hk : k = 1
  · subst hk
    cases rx
    obtain ⟨t, rfl⟩ := ry
    obtain ⟨its, r, ⟨⟨cls, dd, data, sl⟩, ho, hc, n, hd⟩, hs⟩ := I.tuple hT
    simp only at hc hd
    subst hc hd
    have one : Value.int ((1 : Nat) : Int) t = Value.int 1 t := rfl
    rw [one]
    exact wpAny_binaryOp_repeat_ref (T := "tuple") (U := "int") (by decide) ⟨_, ho, rfl⟩ (fun s' => typeIs_int s' 1 t) noFill_tuple_mul F.fills_int_mul F.slot_int_rmul repeat_tuple F.slot_int_index.lookup
      (call_meets F.slot_int_rmul (typeIs_int s 1 t) F.entry_int_rmul (F.args_int_rmul_2 _ _) (int_rmul_tuple 1 t l its.toArray n dd sl)
        ⟨ho, rfl, ⟨_, ho, rfl⟩, call_meets F.slot_tuple_mul ⟨_, ho, rfl⟩ F.entry_tuple_mul (F.args_tuple_mul_2 _ _) (tup_once l its.toArray n dd sl t) ⟨ho, ⟨.ref l, H, I, rfl, q1 rfl⟩⟩⟩)
  · refine op_repT pins s σ H _ _ v u Q I rx ry ⟨l, (k : Nat), xs, rfl, rfl, hT, hne, by omega, by omega, hz, fun p np => ?_⟩
    rw [Int.toNat_natCast]
    exact q2 hk p np
/-! ### list(text) -/
theorem call_listT {X : Cx} (hc : X.calm = true) : CallR X (.type "list") (fun xs H Q => ∃ l : List Nat, xs = [.str (SX.S l)] ∧ l.length ≤ 100000 ∧ ∀ p, H p = none → Q (.ref p) (upd H p (.lst (l.map fun c => V.str ⟨#[c]⟩)))) := by
  intro pins s σ H xs us Q I r h
  obtain ⟨l, rfl, hl, q⟩ := h
  obtain ⟨u, rfl, t, rfl⟩ := vals1 r
  have hz : (SX.S l).length ≤ sizeLine := by rw [SX.S_len, sizeLine_eq]; omega
  refine call_list_str (I.ok.hd hc) (SX.S l) t (hn := hz) fun h' tk acc c' hk hS hacc => ?_
  have hsz : acc.toList.length = l.length := by
    rw [Array.length_toList, hacc.1]; exact SX.S_len l
  refine ⟨.ref s.heap.objs.size, upd H s.heap.objs.size (.lst (l.map fun c => V.str ⟨#[c]⟩)), I.laid hk (Nat.le_refl _) (show ObjOk X.prog X.w _ _ _ (.lst (l.map fun c => V.str ⟨#[c]⟩)) from ⟨?_, acc.toList, c', ?_, ?_⟩), rfl, q _ (I.hok.fresh (Nat.le_refl _))⟩
  · rw [List.length_map, sizeLine_eq]; omega
  · refine vals_of_at (by rw [List.length_map, hsz]) fun j x v h1 h2 => ?_
    obtain ⟨c, u, hcj, rfl⟩ := hacc.2 j v (by rw [← Array.getElem?_toList]; exact h2)
    have e : l[j]? = some c := by simpa [SX.S] using hcj
    rw [List.getElem?_map, e] at h1
    cases h1
    exact ⟨u, rfl⟩
  · rw [Array.toArray_toList]; exact hS
theorem Blt.pListT {X : Cx} {mg : Str → Option Value} {e : Expr} {ta : TA} {p pos : Pos} (B : Blt mg) (ha : PA X [e] ta) (hmg : X.mg = mg := by rfl) (hc : X.calm = true := by rfl) (hg : Gl X "list" := by rfl) (he : starEach [e] X.env = (false, eval e X.env) :: starEach [] X.env := by rfl) (hpl : (backTo pos (starEach [] X.env)).any (·.1) = false := by rfl) :
    PE X (.Call (.Name "list" p) [e] [] pos) (tCB (fun xs H Q => ∃ l : List Nat, xs = [.str (SX.S l)] ∧ l.length ≤ 100000 ∧ ∀ p, H p = none → Q (.ref p) (upd H p (.lst (l.map fun c => V.str ⟨#[c]⟩)))) ta) := by
  subst hmg
  exact pe_callTy (call_listT hc) hg B.list_ (by decide +kernel) ha (by decide) (by decide) he hpl
end GH
namespace GH
open PySem PySem.Spec PyProof.Rows L2
/-! ### one rule or another -/
def tAlt (t1 t2 : TE) : TE := fun σ H Q => t1 σ H Q ∨ t2 σ H Q
theorem pe_alt {X : Cx} {e : Expr} {t1 t2 : TE} (h1 : PE X e t1) (h2 : PE X e t2) : PE X e (tAlt t1 t2) :=
  ⟨fun pins s σ H Q I h => h.elim (fun z => h1.run pins s σ H Q I z) fun z => h2.run pins s σ H Q I z⟩
def bAlt (t1 t2 : TT) : TT := fun σ H Q => t1 σ H Q ∨ t2 σ H Q
theorem pt_alt {X : Cx} {e : Expr} {t1 t2 : TT} (h1 : PT X e t1) (h2 : PT X e t2) : PT X e (bAlt t1 t2) :=
  ⟨fun pins s σ H Q I h => h.elim (fun z => h1.run pins s σ H Q I z) fun z => h2.run pins s σ H Q I z⟩
def iAlt (t1 t2 : TI) : TI := fun σ H R => t1 σ H R ∨ t2 σ H R
theorem pi_alt {X : Cx} {tg e : Expr} {t1 t2 : TI} (h1 : PI X tg e t1) (h2 : PI X tg e t2) : PI X tg e (iAlt t1 t2) :=
  ⟨fun pins s σ H R I h => h.elim (fun z => h1.run pins s σ H R I z) fun z => h2.run pins s σ H R I z⟩
/-! ### a dict's keys; it is locked from there on -/
def iKeysL (td : TE) : TI := fun σ H R => td σ H fun x H1 => ∃ d kvs, x = .ref d ∧ ((∃ o, H1 d = some (.frz o (.dK kvs)) ∧ R (Itk d o kvs) H1) ∨ (H1 d = some (.dK kvs) ∧ ∀ o, R (Itk d o kvs) (upd H1 d (.frz o (.dK kvs)))))
theorem pi_keysL {X : Cx} {tg e : Expr} {td : TE} (he : PE X e td) : PI X tg e (iKeysL td) := by
  refine ⟨fun pins s σ H R I h => ?_⟩
  refine thn (he.run pins s σ H _ I h) fun u s1 ⟨x, H1, I1, rx, d, kvs, ex, q⟩ => ?_
  subst ex
  obtain rfl : u = Value.ref d := rx
  have go : ∀ {H2 : Hp} {o : Obj}, Inv X pins σ H2 s1 → H2 d = some (.frz o (.dK kvs)) → R (Itk d o kvs) H2 → wpAny (model X.prog X.w) X.A (pyIter (.ref d)) (PIE X pins σ tg R) X.xe s1 := fun {H2 o} I2 hd q2 => by
    obtain ⟨hs, hgd, hx, es, ep, vs, hdt, hsz, kv, hm⟩ := I2.frzK hd
    refine iter_keys hs hgd hx hdt (pi_one (tk := s1.toks) I2 _ (turn_keys _ hdt) ⟨_, Heap.get?_push_size _ rfl, rfl, ?_⟩ q2)
    rw [hsz] <;> rfl
  rcases q with ⟨o, hd, q⟩ | ⟨hd, q⟩
  · exact go I1 hd q
  · obtain ⟨od, I2⟩ := I1.lock hd trivial
    exact go I2 upd_same (q od)
theorem pe_fldK {X : Cx} {K : PySem.W.Frag} {e : Expr} {f : Str} {pos : Pos} {ta : TE} (he : PE X e ta) (hb : attributeBase e f X.env (eval e X.env) = eval e X.env) (hK : X.K = K := by rfl) : PE X (.Attribute e f pos) (tFld K ta f) := by
  subst hK
  exact pe_fld he hb
/-! ### d.update(e) of two dicts -/
def rUpd : V → List V → Hp → VK → Prop := fun x xs H Q => ∃ (d o : Addr) (kvs more : List (Key × V)), x = .ref d ∧ xs = [.ref o] ∧ H d = some (.dK kvs) ∧ H o = some (.dK more) ∧ d ≠ o ∧ kvs.length + more.length ≤ 1000 ∧ Q .non (upd H d (.dK (mergeK kvs more)))
theorem mt_update {X : Cx} : MtR X "dict.update" rUpd := by
  intro pins s σ H x xs v us Q I rx rxs h
  obtain ⟨d, o, kvs, more, rfl, rfl, e1, e2, hne, hz, q⟩ := h
  obtain rfl : v = Value.ref d := rx
  obtain ⟨u, rfl, ru⟩ := vals1 rxs
  obtain rfl : u = Value.ref o := ru
  obtain ⟨z1, l1, vs1, r1, d1⟩ := dk_of I.hok e1
  obtain ⟨z2, l2, vs2, r2, d2⟩ := dk_of I.hok e2
  have hl : (mergeK kvs more).length ≤ sizeLine := by
    have := length_mergeK more kvs
    rw [sizeLine_eq]; omega
  refine call_meetsIn PySem.F.slot_dict_update d1.typeIs PySem.F.entry_dict_update (PySem.F.args_dict_update_2 _ _) (meets_dict_update (mixKind X.prog X.w) d o hne l2) ⟨vs1, vs2, d1, d2, ?_, fun h' dd' _ hs => ?_⟩
  · rw [← r1.length, ← r2.length, sizeLine_eq]; omega
  · have he : ∃ q, h'.get? d = some q := let ⟨q, _, _, hq, _⟩ := dd'; ⟨q, hq⟩
    exact ⟨.non, _, d_write (t' := s.toks) I (by rw [e1]; exact True.intro) hs he (dk_new hl l1 (r2.merge r1) dd'), rfl, q⟩
end GH
namespace GH
open PySem PySem.Spec PyProof.Rows L2
/-! ### the end of the top, looked at: defs where they stand, and one Bool more -/
structure Dn where
  adr : PySem.W.Frag → Addr
  nm : Str
  qu : Str
  st : Stmt
def Dn.seen (K : PySem.W.Frag) (d : Dn) : He.FnV := match K.lookup (d.adr K) with
  | some ⟨_, _, .func u, _⟩ => some (u.name, u.qualname, u.params, u.body, u.scope, u.globals, u.closure, u.defaults, u.builtins)
  | _ => none
def Dn.due (d : Dn) : He.FnV := some (d.nm, d.qu, defArgs d.st, .stmts (defBody d.st), defScope d.st, mainGlobals, [], .none, builtinsNs)
def Dn.fit (K : PySem.W.Frag) (d : Dn) : Bool := PySem.W.keepIn K (.ref (d.adr K)) && (match K.lookup (d.adr K) with
  | some ⟨_, _, .func u, _⟩ => PySem.W.codeIn K u.code d.qu
  | _ => false)
theorem Dn.is {K : PySem.W.Frag} {d : Dn} (e : d.seen K = d.due) (c : d.fit K = true) : ∃ u, Fun K d.nm d.qu d.st (d.adr K) u := by
  obtain ⟨kp, c⟩ := He.ba c
  unfold Dn.seen at e
  cases q : K.lookup (d.adr K) with
  | none => rw [q] at c; cases c
  | some o =>
    obtain ⟨oc, od, dt, osl⟩ := o
    rw [q] at c e
    cases dt with
    | func u =>
      obtain ⟨m1, m2, m3, m4, m5, m6, m7, m8, m9, m10, m11, m12, m13, m14, m15⟩ := u
      have e2 : (some (m1, m2, m3, m4, m5, m6, m7, m8, m15) : He.FnV) = some (d.nm, d.qu, defArgs d.st, .stmts (defBody d.st), defScope d.st, mainGlobals, [], .none, builtinsNs) := e
      simp only [Option.some.injEq, Prod.mk.injEq] at e2
      obtain ⟨i1, i2, i3, i4, i5, i6, i7, i8, i9⟩ := e2
      subst i1 i2 i3 i4 i5 i6 i7 i8 i9
      exact ⟨_, fun_mk q c kp⟩
    | _ => cases c
def lookM (ds : List Dn) (ex : PySem.W.Frag → Bool) (K : PySem.W.Frag) : He.Al := (ex K && ds.all fun d => d.fit K, ds.map fun d => d.seen K)
def dueM (ds : List Dn) : He.Al := (true, ds.map Dn.due)
def SaysM (ds : List Dn) (ex : PySem.W.Frag → Bool) (K : PySem.W.Frag) : Prop := lookM ds ex K = dueM ds
def lookG (n : Nat) (ds : List Dn) (ex : PySem.W.Frag → Bool) (g : Addr → Option Obj) : He.Al := lookM ds ex (He.frG g (He.asD g n))
def hookM (n : Nat) (ds : List Dn) (ex : PySem.W.Frag → Bool) : PySem.W.Hook where
  α := He.Al
  obs := fun s => lookG n ds ex s.heap.get?
  val := fun _ => dueM ds
  says := fun _ h => ∃ K : PySem.W.Frag, K.In h ∧ SaysM ds ex K
  of := fun _ _ e => ⟨_, He.frG_in, e⟩
  keeps := fun _ _ _ ⟨K, hK, c⟩ k => ⟨K, PySem.W.Frag.In.keeps hK k, c⟩
theorem lookG_eq {n : Nat} {ds : List Dn} {ex : PySem.W.Frag → Bool} {g : Addr → Option Obj} {s : Shared} (h : ∀ a, g a = s.heap.get? a) : lookG n ds ex g = (hookM n ds ex).obs s := by
  have e : g = s.heap.get? := funext h
  rw [e] <;> rfl
section
variable {ds : List Dn} {ex : PySem.W.Frag → Bool} {K : PySem.W.Frag} {mg : Str → Option Value} {h : Heap}
theorem SaysM.more (c : SaysM ds ex K) : ex K = true := (He.ba (show (ex K && ds.all fun d => d.fit K) = true from congrArg (fun z : He.Al => z.1) c)).1
theorem SaysM.is (c : SaysM ds ex K) (i : Nat) {d : Dn} (h : ds[i]? = some d := by rfl) : ∃ u, Fun K d.nm d.qu d.st (d.adr K) u := by
  have c2 := (He.ba (show (ex K && ds.all fun d => d.fit K) = true from congrArg (fun z : He.Al => z.1) c)).2
  have e : ds.map (fun d => d.seen K) = ds.map Dn.due := congrArg (fun z : He.Al => z.2) c
  have e2 : (ds.map fun d => d.seen K)[i]? = (ds.map Dn.due)[i]? := by rw [e]
  rw [List.getElem?_map, List.getElem?_map, h] at e2
  exact Dn.is (Option.some.inj e2) (List.all_eq_true.mp c2 d (List.mem_of_getElem? h))
/-! ### facts -/
def dnG (x : Str) (st : Stmt) : Dn := ⟨fun K => He.ga K x, x, x, st⟩
def facts (fs : List He.Fa) (K : PySem.W.Frag) : Bool := fs.all fun f => f.ok K
theorem facts_at {fs : List He.Fa} (c : facts fs K = true) (i : Nat) {f : He.Fa} (h : fs[i]? = some f := by rfl) : f.ok K = true := List.all_eq_true.mp c f (List.mem_of_getElem? h)
theorem def_is (X : K.In h) (G : h.Ns mainGlobals mg) {x : Str} {st : Stmt} (g : (He.Fa.glo x).ok K = true) (c : ∃ u, Fun K x x st (He.ga K x) u) : Def K mg x st := by
  obtain ⟨u, F⟩ := c
  exact ⟨_, u, F, He.glo_ok X G g⟩
theorem cst_int (X : K.In h) (G : h.Ns mainGlobals mg) {x : Str} {i : Int} (c : (He.Fa.int x i).ok K = true) : Cst mg x (.int i) := by
  obtain ⟨t, e⟩ := He.int_ok X G c
  exact ⟨_, e, t, rfl⟩
theorem cst_str (X : K.In h) (G : h.Ns mainGlobals mg) {x z : Str} (c : (He.Fa.str x z).ok K = true) : Cst mg x (.str z) := by
  obtain ⟨t, e⟩ := He.str_ok X G c
  exact ⟨_, e, t, rfl⟩
/-! ### the class Machine -/
def mP (x f : Str) (K : PySem.W.Frag) : Addr := He.ma K (He.ga K x) f
def mGet (x f : Str) (K : PySem.W.Frag) : Addr := match PySem.W.recIn K (mP x f K) "property" with
  | some (.ref g :: _) => g
  | _ => 0
def propB (x f : Str) (K : PySem.W.Frag) : Bool := He.eqO (PySem.W.findIn K (.ref (He.ga K x)) f) (some (some (.ref (mP x f K)))) && (He.eqO (PySem.W.specialIn K (.ref (mP x f K)) "__get__") (some (some (.builtin "property.__get__"))) &&
  (decide (PySem.W.takesIn K (.ref (mP x f K)) = some true) && (match PySem.W.recIn K (mP x f K) "property" with
    | some (.ref _ :: _) => true
    | _ => false)))
theorem propB_ok {x f : Str} (c : propB x f K = true) : PropOf K (He.ga K x) f (mP x f K) (mGet x f K) := by
  obtain ⟨c1, c⟩ := He.ba c
  obtain ⟨c2, c⟩ := He.ba c
  obtain ⟨c3, c4⟩ := He.ba c
  refine ⟨He.eqO_ok c1, He.eqO_ok c2, of_decide_eq_true c3, ?_⟩
  unfold mGet
  split at c4
  · rename_i g r e
    exact ⟨r, by rw [e]⟩
  · cases c4
def clsB (x : Str) (K : PySem.W.Frag) : Bool := He.eqO (PySem.W.findIn K (.ref (He.ga K x)) "__class__") (some (some (.builtin "object.__class__"))) && (He.eqO (PySem.W.specialIn K (.builtin "object.__class__") "__get__") (some (some (.builtin "getset_descriptor.__get__"))) &&
  (decide (PySem.W.takesIn K (.builtin "object.__class__") = some true) && (decide (PySem.W.mroIn K (He.ga K x) (.type "object") = some true) && decide (PySem.W.kitOne K (.ref (He.ga K x)) (.ref (He.ga K x)) = some true))))
def machFa : List He.Fa := [.glo "Machine", .cls "Machine", .mkr "Machine", .noat "Machine" "held_letters", .noat "Machine" "held_states"]
def machB (K : PySem.W.Frag) : Bool := facts machFa K && (propB "Machine" "letters" K && (propB "Machine" "states" K && clsB "Machine" K))
def dnI (st : Stmt) : Dn := ⟨mP "Machine" "__init__", "__init__", "Machine.__init__", st⟩
def dnL (st : Stmt) : Dn := ⟨mGet "Machine" "letters", "letters", "Machine.letters", st⟩
def dnS (st : Stmt) : Dn := ⟨mGet "Machine" "states", "states", "Machine.states", st⟩
theorem mach_is (X : K.In h) (G : h.Ns mainGlobals mg) {sI sL sS : Stmt} (c : machB K = true) (cI : ∃ u, Fun K "__init__" "Machine.__init__" sI (mP "Machine" "__init__" K) u) (cL : ∃ u, Fun K "letters" "Machine.letters" sL (mGet "Machine" "letters" K) u) (cS : ∃ u, Fun K "states" "Machine.states" sS (mGet "Machine" "states" K) u) : MachCls K mg sI sL sS := by
  obtain ⟨c0, c⟩ := He.ba c
  obtain ⟨c1, c⟩ := He.ba c
  obtain ⟨c2, c⟩ := He.ba c
  obtain ⟨d1, c⟩ := He.ba c
  obtain ⟨d2, c⟩ := He.ba c
  obtain ⟨d3, c⟩ := He.ba c
  obtain ⟨d4, d5⟩ := He.ba c
  obtain ⟨u1, F1⟩ := cI
  obtain ⟨u2, F2⟩ := cL
  obtain ⟨u3, F3⟩ := cS
  exact ⟨_, _, _, _, _, _, u1, u2, u3, He.glo_ok X G (facts_at c0 0), He.cls_ok (facts_at c0 1), He.mkr_ok (facts_at c0 2), He.noat_ok (facts_at c0 3), He.noat_ok (facts_at c0 4), F1, propB_ok c1, F2, propB_ok c2, F3,
    He.eqO_ok d1, He.eqO_ok d2, of_decide_eq_true d3, of_decide_eq_true d4, of_decide_eq_true d5⟩
end
/-! ### the law's def of every heap -/
theorem Ok.every {P : Program} {w : World} {K : PySem.W.Frag} {mg : Str → Option Value} {n : Nat} {x p : Str} {sp : Sp} {f : Addr} (O : ∀ base : Heap, Ok P w K mg base n x [p] sp) (m : mg x = some (.ref f)) :
    ∃ fd : FuncData, (∀ (s : Shared) (u : Value), BindsTo s fd ⟨[u], []⟩ [(p, u)]) ∧ ∀ base : Heap, FnOk P w K mg base CX0 n f fd [p] sp := by
  obtain ⟨f0, fd, F, b, m0, k, bt, oc, od, osl, lk⟩ := (O default).ex
  rw [m] at m0
  cases m0
  refine ⟨fd, fun s u => bt s [u] rfl, fun base => ?_⟩
  obtain ⟨f1, fd1, F1, _, m1, _, _, oc1, od1, osl1, lk1⟩ := (O base).ex
  rw [m] at m1
  cases m1
  rw [lk] at lk1
  cases lk1
  exact F1
end GH
namespace GH
open PySem PySem.Spec PyProof.Rows L2
/-- a class's address -/
def clsA (mg : Str → Option Value) (c : Str) : Addr := match mg c with
  | some (.ref C) => C
  | _ => 0
theorem clsA_of {mg : Str → Option Value} {c : Str} {C : Addr} (h : mg c = some (.ref C)) : clsA mg c = C := by unfold clsA; rw [h]
/-- a class of the text -/
structure ClsAt (K : PySem.W.Frag) (mg : Str → Option Value) (c : Str) : Prop where
  g : mg c = some (.ref (clsA mg c))
  cl : Cls K (clsA mg c)
/-- a method of it -/
structure MethAt (K : PySem.W.Frag) (mg : Str → Option Value) (c m qual : Str) (st : Stmt) : Prop where
  ex : ∃ f fd, Cls K (clsA mg c) ∧ Meth K (clsA mg c) m f ∧ Fun K m qual st f fd
/-- how it is made -/
structure NewAt (K : PySem.W.Frag) (mg : Str → Option Value) (c qual : Str) (st : Stmt) : Prop where
  ex : ∃ f fd, mg c = some (.ref (clsA mg c)) ∧ Cls K (clsA mg c) ∧ Mk K (clsA mg c) f ∧ Fun K "__init__" qual st f fd
structure OkM (P : Program) (w : World) (K : PySem.W.Frag) (mg : Str → Option Value) (base : Heap) (n : Nat) (c m : Str) (ps : List Str) (sp : Sp) : Prop where
  ex : ∃ f fd, Cls K (clsA mg c) ∧ Meth K (clsA mg c) m f ∧ FnOk P w K mg base CX0 n f fd ps sp ∧ Binds K fd ps []
structure OkN (P : Program) (w : World) (K : PySem.W.Frag) (mg : Str → Option Value) (base : Heap) (n : Nat) (c : Str) (ps : List Str) (sp : Sp) : Prop where
  ex : ∃ f fd, mg c = some (.ref (clsA mg c)) ∧ Mk K (clsA mg c) f ∧ FnOk P w K mg base CX0 n f fd ps sp ∧ Binds K fd ps []
section
variable {P : Program} {w : World} {K : PySem.W.Frag} {mg : Str → Option Value} {base : Heap} {k : Nat} {c m qual : Str} {st : Stmt} {N ps : List Str} {sp : Sp}
theorem okM_def (F : MethAt K mg c m qual st) (S : FnScope N ps (defScope st))
    (hb : ∀ (kV doc pm : Value) (an : Option Addr) (cdv ct : Value) (us : List Value), us.length = ps.length → bindArgs (PySem.W.fnOf m qual (defArgs st) (defBody st) (defScope st) .none kV doc pm an cdv ct) ⟨us, []⟩ = pure (ps.zip us))
    (len : ∀ vs H Q E, sp vs H Q E → vs.length = ps.length)
    (body : ∀ (f : Addr) (cdv : Value) (A : Around) (outer : List Env) (s : Shared) (H : Hp) (vs : List V) (Q : VK) (E : XK), Room k (A.deeper (envOfC qual (defScope st) s.heap.objs.size f cdv)) → sp vs H Q E →
      ∃ t, PSs (cxOf CX0 P w K mg base N qual (defScope st) f cdv A outer s H E).nox (defBody st) t ∧ t { nx := fun _ H' => Q .non H', rt := Q } (start N vs) H) : OkM P w K mg base (k + 1) c m ps sp := by
  obtain ⟨f, fd, cl, me, F1⟩ := F.ex
  exact ⟨f, fd, cl, me, F1.ok S len (body f), F1.binds hb⟩
theorem okN_def (F : NewAt K mg c qual st) (S : FnScope N ps (defScope st))
    (hb : ∀ (kV doc pm : Value) (an : Option Addr) (cdv ct : Value) (us : List Value), us.length = ps.length → bindArgs (PySem.W.fnOf "__init__" qual (defArgs st) (defBody st) (defScope st) .none kV doc pm an cdv ct) ⟨us, []⟩ = pure (ps.zip us))
    (len : ∀ vs H Q E, sp vs H Q E → vs.length = ps.length)
    (body : ∀ (f : Addr) (cdv : Value) (A : Around) (outer : List Env) (s : Shared) (H : Hp) (vs : List V) (Q : VK) (E : XK), Room k (A.deeper (envOfC qual (defScope st) s.heap.objs.size f cdv)) → sp vs H Q E →
      ∃ t, PSs (cxOf CX0 P w K mg base N qual (defScope st) f cdv A outer s H E).nox (defBody st) t ∧ t { nx := fun _ H' => Q .non H', rt := Q } (start N vs) H) : OkN P w K mg base (k + 1) c ps sp := by
  obtain ⟨f, fd, g, cl, mk, F1⟩ := F.ex
  exact ⟨f, fd, g, mk, F1.ok S len (body f), F1.binds hb⟩
end
section
variable {X : Cx} {n : Nat} {c m x : Str} {ps : List Str} {sp : Sp} {p pos apos : Pos} {e o : Expr} {es : List Expr} {ta : TE} {t : TA} {mg : Str → Option Value}
theorem pe_mt {pl : Sem Bool} (O : OkM X.prog X.w X.K X.mg X.base n c m ps sp) (hr : Room n X.A) (he : PE X o ta) (ha : PA X (e :: es) t) (hmg : X.mg = mg := by rfl)
    (hst : starEach (e :: es) X.env = (false, eval e X.env) :: starEach es X.env := by rfl) (hpl : (backTo pos (starEach es X.env)).any (·.1) = false := by rfl)
    (ht : eval (.Call (.Attribute o m apos) (e :: es) [] pos) X.env = (do
      let ov ← eval o X.env
      standAt apos.atName
      let (f, first) ← holding [ov] (getMethod ov m pl)
      callWith pos f first (backTo pos (starEach (e :: es) X.env)) (backToKw pos (keywordEach [] X.env))) := by rfl) :
    PE X (.Call (.Attribute o m apos) (e :: es) [] pos) (tMeth (clsA mg c) m sp [] E0 ta t) := by
  subst hmg
  obtain ⟨f, fd, cl, me, F, b⟩ := O.ex
  exact pe_meth he cl me F hr b .nil pass0 ha hst hpl ht
theorem pe_new (O : OkN X.prog X.w X.K X.mg X.base n c ps sp) (hr : Room (n + 1) X.A) (hg : Gl X c) (ha : PA X (e :: es) t) (hmg : X.mg = mg := by rfl) (hdb : (c == ("__debug__" : Str)) = false := by decide)
    (he : starEach (e :: es) X.env = (false, eval e X.env) :: starEach es X.env := by rfl) (hpl : (backTo pos (starEach es X.env)).any (·.1) = false := by rfl) :
    PE X (.Call (.Name c p) (e :: es) [] pos) (tMake (clsA mg c) sp [] E0 t) := by
  subst hmg
  obtain ⟨f, fd, g, mk, F, b⟩ := O.ex
  exact pe_make mk F hr hg g b .nil pass0 ha hdb he hpl
end
/-! ### what the end of the top shows of a class -/
section
variable {K : PySem.W.Frag} {mg : Str → Option Value} {h : Heap}
def dnM (c m qual : Str) (st : Stmt) : Dn := ⟨mP c m, m, qual, st⟩
theorem meth_is (X : K.In h) (G : h.Ns mainGlobals mg) {c m qual : Str} {st : Stmt} (g : (He.Fa.glo c).ok K = true) (cl : (He.Fa.cls c).ok K = true) (me : (He.Fa.meth c m).ok K = true) (F : ∃ u, Fun K m qual st (mP c m K) u) : MethAt K mg c m qual st := by
  obtain ⟨u, F⟩ := F
  have e : clsA mg c = He.ga K c := clsA_of (He.glo_ok X G g)
  exact ⟨_, u, by rw [e]; exact He.cls_ok cl, by rw [e]; exact He.meth_ok me, F⟩
theorem new_is (X : K.In h) (G : h.Ns mainGlobals mg) {c qual : Str} {st : Stmt} (g : (He.Fa.glo c).ok K = true) (cl : (He.Fa.cls c).ok K = true) (mk : (He.Fa.mkr c).ok K = true) (F : ∃ u, Fun K "__init__" qual st (mP c "__init__" K) u) : NewAt K mg c qual st := by
  obtain ⟨u, F⟩ := F
  have e : clsA mg c = He.ga K c := clsA_of (He.glo_ok X G g)
  exact ⟨_, u, by rw [e]; exact He.glo_ok X G g, by rw [e]; exact He.cls_ok cl, by rw [e]; exact He.mkr_ok mk, F⟩
theorem noat_is (X : K.In h) (G : h.Ns mainGlobals mg) {c f : Str} (g : (He.Fa.glo c).ok K = true) (na : (He.Fa.noat c f).ok K = true) : NoAttr K (clsA mg c) f := by
  have e : clsA mg c = He.ga K c := clsA_of (He.glo_ok X G g)
  rw [e]; exact He.noat_ok na
theorem cls_is (X : K.In h) (G : h.Ns mainGlobals mg) {c : Str} (g : (He.Fa.glo c).ok K = true) (cl : (He.Fa.cls c).ok K = true) : ClsAt K mg c := by
  have e : clsA mg c = He.ga K c := clsA_of (He.glo_ok X G g)
  exact ⟨by rw [e]; exact He.glo_ok X G g, by rw [e]; exact He.cls_ok cl⟩
end
end GH
namespace GH
section
variable {α : Type} [DecidableEq α]
/-! ### what is reached within some places, by one step at least -/
inductive RI (A : α → List α) (S : α → Prop) : α → α → Prop
  | one {a b : α} : b ∈ A a → S b → RI A S a b
  | more {a b c : α} : RI A S a b → c ∈ A b → S c → RI A S a c
namespace RI
variable {A : α → List α} {S S' : α → Prop} {a b c : α}
theorem inn (h : RI A S a b) : S b := by cases h <;> assumption
theorem trans (h : RI A S a b) (g : RI A S b c) : RI A S a c := by
  induction g with
  | one h1 h2 => exact .more h h1 h2
  | more _ h1 h2 ih => exact .more ih h1 h2
theorem mono (hS : ∀ x, S x → S' x) (h : RI A S a b) : RI A S' a b := by
  induction h with
  | one h1 h2 => exact .one h1 (hS _ h2)
  | more _ h1 h2 ih => exact .more ih h1 (hS _ h2)
theorem head (h1 : b ∈ A a) (h2 : S b) (g : RI A S b c) : RI A S a c := trans (.one h1 h2) g
theorem closed {F : List α} (hF : ∀ x, (x = a ∨ x ∈ F) → ∀ y ∈ A x, S y → y ∈ F) (h : RI A S a b) : b ∈ F := by
  induction h with
  | one h1 h2 => exact hF _ (.inl rfl) _ h1 h2
  | more _ h1 h2 ih => exact hF _ (.inr ih) _ h1 h2
/-- the first step -/
theorem first (h : RI A S a b) : ∃ x ∈ A a, S x ∧ (x = b ∨ RI A S x b) := by
  induction h with
  | one h1 h2 => exact ⟨_, h1, h2, .inl rfl⟩
  | more _ h1 h2 ih =>
    obtain ⟨x, hx, hs, h⟩ := ih
    refine ⟨x, hx, hs, .inr ?_⟩
    rcases h with rfl | h
    · exact .one h1 h2
    · exact .more h h1 h2
end RI
def RR (A : α → List α) (S : α → Prop) (a b : α) : Prop := a = b ∨ RI A S a b
namespace RR
variable {A : α → List α} {S S' : α → Prop} {a b c : α}
theorem refl : RR A S a a := .inl rfl
theorem trans (h : RR A S a b) (g : RR A S b c) : RR A S a c := by
  rcases h with rfl | h
  · exact g
  · rcases g with rfl | g
    · exact .inr h
    · exact .inr (h.trans g)
theorem ri (h : RR A S a b) (g : RI A S b c) : RI A S a c := by
  rcases h with rfl | h
  · exact g
  · exact h.trans g
theorem mono (hS : ∀ x, S x → S' x) (h : RR A S a b) : RR A S' a b := h.imp id (RI.mono hS)
theorem step (h : RR A S a b) (h1 : c ∈ A b) (h2 : S c) : RR A S a c := .inr (ri h (.one h1 h2))
end RR
theorem RI.rr {A : α → List α} {S : α → Prop} {a b c : α} (h : RI A S a b) (g : RR A S b c) : RI A S a c := by
  rcases g with rfl | g
  · exact h
  · exact h.trans g
/-- what hangs together with a place -/
def Hang (A : α → List α) (S : α → Prop) (f x : α) : Prop := RR A S f x ∧ RR A S x f
theorem Hang.within {A : α → List α} {S : α → Prop} {f a b : α} (ha : Hang A S f a) (h : RI A S a b) : RR A S b f → RI A (Hang A S f) a b := by
  induction h with
  | one h1 h2 => exact fun hb => .one h1 ⟨ha.1.step h1 h2, hb⟩
  | more h0 h1 h2 ih => exact fun hb => .more (ih (RR.trans (.inr (.one h1 h2)) hb)) h1 ⟨(RR.trans ha.1 (.inr h0)).step h1 h2, hb⟩
/-- a part with a step in it hangs together within itself -/
theorem Hang.lot {A : α → List α} {S : α → Prop} {f a b : α} (hf : RI A S f f) (ha : Hang A S f a) (hb : Hang A S f b) : RI A (Hang A S f) a b :=
  ha.within (ha.2.ri (hf.rr hb.1)) hb.2
/-- from a round through a place: an arrow to itself, or another place in its part -/
theorem Hang.more {A : α → List α} {S : α → Prop} {f : α} (hf : S f) (h : RI A S f f) : f ∈ A f ∨ ∃ y, y ≠ f ∧ Hang A S f y := by
  cases h with
  | one h1 _ => exact .inl h1
  | @more b _ h0 h1 _ =>
    by_cases e : b = f
    · exact .inl (e ▸ h1)
    · exact .inr ⟨b, e, .inr h0, .inr (.one h1 hf)⟩
theorem Hang.round {A : α → List α} {S : α → Prop} {f y : α} (e : y ≠ f) (h : Hang A S f y) : RI A S f f := by
  rcases h.1 with z | z
  · exact absurd z.symm e
  · exact z.rr h.2
theorem nodup_le : ∀ {l m : List α}, l.Nodup → (∀ x ∈ l, x ∈ m) → l.length ≤ m.length
  | [], _, _, _ => Nat.zero_le _
  | x :: l, m, hn, hs => by
    rw [List.nodup_cons] at hn
    have hx : x ∈ m := hs x List.mem_cons_self
    have := nodup_le (l := l) (m := m.erase x) hn.2 fun y hy => (List.mem_erase_of_ne (fun (e : y = x) => hn.1 (e ▸ hy))).mpr (hs y (List.mem_cons_of_mem _ hy))
    rw [List.length_erase_of_mem hx] at this
    have : 0 < m.length := List.length_pos_of_mem hx
    rw [List.length_cons]
    omega
theorem nodup_full {l m : List α} (hl : l.Nodup) (hs : ∀ x ∈ l, x ∈ m) (h : m.length ≤ l.length) : ∀ x ∈ m, x ∈ l := by
  intro x hx
  refine Classical.byContradiction fun hn => ?_
  have := nodup_le (l := x :: l) (m := m) (List.nodup_cons.mpr ⟨hn, hl⟩) (fun y hy => by
    rcases List.mem_cons.mp hy with rfl | hy
    · exact hx
    · exact hs y hy)
  rw [List.length_cons] at this
  omega
/-! ### ways: what Graph.ways computes -/
abbrev FndG (α : Type) := List (α × List Nat)
def keysG (f : FndG α) : List α := f.map (·.1)
/-- one arrow more -/
def pushG (ins : List α) (u : List Nat) (f : FndG α) (a : Nat × α) : FndG α := if a.2 ∈ ins ∧ a.2 ∉ keysG f then f ++ [(a.2, u ++ [a.1])] else f
/-- the arrows of one place -/
def spreadG (L : List Nat) (A : α → List α) (ins : List α) (f : FndG α) (p : α × List Nat) : FndG α := (L.zip (A p.1)).foldl (pushG ins p.2) f
def bfsG (L : List Nat) (A : α → List α) (ins : List α) (first : α) : Nat → FndG α
  | 0 => [(first, [])]
  | k + 1 => match (bfsG L A ins first k)[k]? with
    | some p => spreadG L A ins (bfsG L A ins first k) p
    | none => bfsG L A ins first k
theorem keysG_app (f g : FndG α) : keysG (f ++ g) = keysG f ++ keysG g := by simp [keysG]
theorem pushG_pre (ins : List α) (u : List Nat) (f : FndG α) (a : Nat × α) : ∃ g, pushG ins u f a = f ++ g := by
  unfold pushG
  split
  · exact ⟨_, rfl⟩
  · exact ⟨[], by simp⟩
theorem foldG_pre (ins : List α) (u : List Nat) : ∀ (as : List (Nat × α)) (f : FndG α), ∃ g, as.foldl (pushG ins u) f = f ++ g
  | [], f => ⟨[], by simp⟩
  | a :: r, f => by
    obtain ⟨g, e⟩ := pushG_pre ins u f a
    obtain ⟨g2, e2⟩ := foldG_pre ins u r (pushG ins u f a)
    refine ⟨g ++ g2, ?_⟩
    rw [List.foldl_cons, e2, e, List.append_assoc]
theorem pushG_nodup {ins : List α} {u : List Nat} {f : FndG α} {a : Nat × α} (h : (keysG f).Nodup) : (keysG (pushG ins u f a)).Nodup := by
  unfold pushG
  split
  · rename_i c
    rw [keysG_app, List.nodup_append]
    exact ⟨h, by simp [keysG], fun x hx y hy z => c.2 (by
      have : y = a.2 := by simpa [keysG] using hy
      rw [← this, ← z]; exact hx)⟩
  · exact h
theorem pushG_mem {ins : List α} {u : List Nat} {f : FndG α} {a : Nat × α} {x : α} (h : x ∈ keysG (pushG ins u f a)) : x ∈ keysG f ∨ (x = a.2 ∧ x ∈ ins) := by
  unfold pushG at h
  split at h
  · rename_i c
    rw [keysG_app] at h
    rcases List.mem_append.mp h with z | z
    · exact .inl z
    · have : x = a.2 := by simpa [keysG] using z
      exact .inr ⟨this, this ▸ c.1⟩
  · exact .inl h
theorem pushG_has {ins : List α} {u : List Nat} {f : FndG α} {a : Nat × α} (h : a.2 ∈ ins) : a.2 ∈ keysG (pushG ins u f a) := by
  unfold pushG
  split
  · rw [keysG_app]; exact List.mem_append_right _ (by simp [keysG])
  · rename_i c
    exact Classical.byContradiction fun z => c ⟨h, z⟩
theorem foldG_nodup {ins : List α} {u : List Nat} : ∀ {as : List (Nat × α)} {f : FndG α}, (keysG f).Nodup → (keysG (as.foldl (pushG ins u) f)).Nodup
  | [], _, h => h
  | _ :: r, _, h => foldG_nodup (as := r) (pushG_nodup h)
theorem foldG_mem {ins : List α} {u : List Nat} : ∀ {as : List (Nat × α)} {f : FndG α} {x : α}, x ∈ keysG (as.foldl (pushG ins u) f) → x ∈ keysG f ∨ ((∃ a ∈ as, a.2 = x) ∧ x ∈ ins)
  | [], _, _, h => .inl h
  | a :: r, f, x, h => by
    rcases foldG_mem (as := r) h with z | ⟨⟨b, hb, e⟩, hi⟩
    · rcases pushG_mem z with y | ⟨y1, y2⟩
      · exact .inl y
      · exact .inr ⟨⟨a, List.mem_cons_self, y1.symm⟩, y2⟩
    · exact .inr ⟨⟨b, List.mem_cons_of_mem _ hb, e⟩, hi⟩
theorem foldG_has {ins : List α} {u : List Nat} : ∀ {as : List (Nat × α)} {f : FndG α} {a : Nat × α}, a ∈ as → a.2 ∈ ins → a.2 ∈ keysG (as.foldl (pushG ins u) f)
  | [], _, _, h, _ => absurd h List.not_mem_nil
  | b :: r, f, a, h, hi => by
    rcases List.mem_cons.mp h with rfl | h
    · obtain ⟨g, e⟩ := foldG_pre ins u r (pushG ins u f a)
      rw [List.foldl_cons, e, keysG_app]
      exact List.mem_append_left _ (pushG_has hi)
    · exact foldG_has (as := r) h hi
theorem bfsG_nodup (L : List Nat) (A : α → List α) (ins : List α) (first : α) : ∀ k, (keysG (bfsG L A ins first k)).Nodup
  | 0 => by simp [bfsG, keysG]
  | k + 1 => by
    unfold bfsG
    split
    · exact foldG_nodup (bfsG_nodup L A ins first k)
    · exact bfsG_nodup L A ins first k
theorem bfsG_in (L : List Nat) (A : α → List α) (ins : List α) (first : α) : ∀ k x, x ∈ keysG (bfsG L A ins first k) → x = first ∨ x ∈ ins
  | 0, x, h => by simp [bfsG, keysG] at h; exact .inl h
  | k + 1, x, h => by
    unfold bfsG at h
    split at h
    · rcases foldG_mem h with z | ⟨_, z⟩
      · exact bfsG_in L A ins first k x z
      · exact .inr z
    · exact bfsG_in L A ins first k x h
theorem bfsG_rr (L : List Nat) (A : α → List α) (ins : List α) (first : α) : ∀ k x, x ∈ keysG (bfsG L A ins first k) → RR A (· ∈ ins) first x
  | 0, x, h => by simp [bfsG, keysG] at h; exact .inl h.symm
  | k + 1, x, h => by
    unfold bfsG at h
    split at h
    · rename_i p e
      rcases foldG_mem h with z | ⟨⟨a, ha, rfl⟩, z⟩
      · exact bfsG_rr L A ins first k x z
      · have hp : p.1 ∈ keysG (bfsG L A ins first k) := List.mem_map.mpr ⟨p, List.mem_of_getElem? e, rfl⟩
        exact (bfsG_rr L A ins first k p.1 hp).step (List.of_mem_zip ha).2 z
    · exact bfsG_rr L A ins first k x h
theorem bfsG_pre (L : List Nat) (A : α → List α) (ins : List α) (first : α) (k : Nat) : ∃ g, bfsG L A ins first (k + 1) = bfsG L A ins first k ++ g := by
  conv => enter [1, g, 1]; unfold bfsG
  split
  · exact foldG_pre _ _ _ _
  · exact ⟨[], by simp⟩
theorem bfsG_first (L : List Nat) (A : α → List α) (ins : List α) (first : α) : ∀ k, first ∈ keysG (bfsG L A ins first k)
  | 0 => by simp [bfsG, keysG]
  | k + 1 => by
    obtain ⟨g, e⟩ := bfsG_pre L A ins first k
    rw [e, keysG_app]
    exact List.mem_append_left _ (bfsG_first L A ins first k)
theorem zip_snd {L : List Nat} : ∀ {l : List α} {x : α}, l.length ≤ L.length → x ∈ l → ∃ a ∈ L.zip l, a.2 = x := by
  induction L with
  | nil => intro l x h hx; cases l with
    | nil => exact absurd hx List.not_mem_nil
    | cons => simp at h
  | cons c L ih =>
    intro l x h hx
    cases l with
    | nil => exact absurd hx List.not_mem_nil
    | cons y l =>
      rcases List.mem_cons.mp hx with rfl | hx
      · exact ⟨(c, x), by simp, rfl⟩
      · obtain ⟨a, ha, e⟩ := ih (l := l) (by simpa using h) hx
        exact ⟨a, by simp [ha], e⟩
theorem bfsG_done (L : List Nat) (A : α → List α) (ins : List α) (first : α) : ∀ k i p, i < k → (bfsG L A ins first k)[i]? = some p → (A p.1).length ≤ L.length → ∀ y ∈ A p.1, y ∈ ins → y ∈ keysG (bfsG L A ins first k)
  | 0, i, p, h, _, _, _, _, _ => by omega
  | k + 1, i, p, h, e, hl, y, hy, hi => by
    obtain ⟨g, eg⟩ := bfsG_pre L A ins first k
    by_cases hik : i < k
    · by_cases hil : i < (bfsG L A ins first k).length
      · have e' : (bfsG L A ins first k)[i]? = some p := by rw [eg, List.getElem?_append_left hil] at e; exact e
        rw [eg, keysG_app]
        exact List.mem_append_left _ (bfsG_done L A ins first k i p hik e' hl y hy hi)
      · have : (bfsG L A ins first k)[k]? = none := List.getElem?_eq_none (by omega)
        have e0 : bfsG L A ins first (k + 1) = bfsG L A ins first k := by
          conv => lhs; unfold bfsG
          rw [this]
        rw [e0] at e
        rw [List.getElem?_eq_none (by omega)] at e
        cases e
    · have : i = k := by omega
      subst this
      cases hq : (bfsG L A ins first i)[i]? with
      | none =>
        have e0 : bfsG L A ins first (i + 1) = bfsG L A ins first i := by
          conv => lhs; unfold bfsG
          rw [hq]
        rw [e0, hq] at e; cases e
      | some q =>
        have hlt := (List.getElem?_eq_some_iff.mp hq).1
        have : q = p := by
          rw [eg, List.getElem?_append_left hlt, hq] at e
          exact Option.some.inj e
        subst this
        have e0 : bfsG L A ins first (i + 1) = spreadG L A ins (bfsG L A ins first i) q := by
          conv => lhs; unfold bfsG
          rw [hq]
        rw [e0]
        obtain ⟨a, ha, rfl⟩ := zip_snd hl hy
        exact foldG_has ha hi
/-- it ends -/
theorem bfsG_stop (L : List Nat) (A : α → List α) (ins : List α) (first : α) (k : Nat) (h : (bfsG L A ins first k).length ≤ k) : ∀ j, bfsG L A ins first (k + j) = bfsG L A ins first k
  | 0 => rfl
  | j + 1 => by
    have ih := bfsG_stop L A ins first k h j
    have e : bfsG L A ins first (k + (j + 1)) = (match (bfsG L A ins first (k + j))[k + j]? with
      | some p => spreadG L A ins (bfsG L A ins first (k + j)) p
      | none => bfsG L A ins first (k + j)) := rfl
    rw [e, ih, List.getElem?_eq_none (by omega)]
theorem bfsG_len {L : List Nat} {A : α → List α} {ins D : List α} {first : α} (hf : first ∈ D) (hi : ∀ x ∈ ins, x ∈ D) (k : Nat) : (bfsG L A ins first k).length ≤ D.length := by
  have := nodup_le (bfsG_nodup L A ins first k) (fun x hx => (bfsG_in L A ins first k x hx).elim (fun e => e ▸ hf) (hi x))
  simpa [keysG] using this
theorem waysG_ex (L : List Nat) (A : α → List α) (ins : List α) (first : α) : ∃ f : FndG α, f = bfsG L A ins first 4096 := ⟨_, rfl⟩
/-- (by choice, so that nothing unfolds it) -/
noncomputable def waysG (L : List Nat) (A : α → List α) (ins : List α) (first : α) : FndG α := Classical.choose (waysG_ex L A ins first)
theorem waysG_eq (L : List Nat) (A : α → List α) (ins : List α) (first : α) : waysG L A ins first = bfsG L A ins first 4096 := Classical.choose_spec (waysG_ex L A ins first)
theorem waysG_nodup (L : List Nat) (A : α → List α) (ins : List α) (first : α) : (keysG (waysG L A ins first)).Nodup := by rw [waysG_eq]; exact bfsG_nodup L A ins first _
theorem waysG_len {L : List Nat} {A : α → List α} {ins D : List α} {first : α} (hf : first ∈ D) (hi : ∀ x ∈ ins, x ∈ D) : (waysG L A ins first).length ≤ D.length := by rw [waysG_eq]; exact bfsG_len hf hi _
theorem waysG_of {L : List Nat} {A : α → List α} {ins : List α} {first : α} {k : Nat} (h : (bfsG L A ins first k).length ≤ k) (hk : k ≤ 4096) : bfsG L A ins first k = waysG L A ins first := by
  have := bfsG_stop L A ins first k h (4096 - k)
  rw [show k + (4096 - k) = 4096 by omega] at this
  rw [waysG_eq]
  exact this.symm
theorem waysG_in {L : List Nat} {A : α → List α} {ins : List α} {first x : α} (h : x ∈ keysG (waysG L A ins first)) : x = first ∨ x ∈ ins := by
  rw [waysG_eq] at h
  exact bfsG_in L A ins first _ x h
/-- words are as long as it took -/
theorem pushG_words {ins : List α} {u : List Nat} {f : FndG α} {a : Nat × α} {n : Nat} (hu : u.length < n) (h : ∀ p ∈ f, p.2.length ≤ n) : ∀ p ∈ pushG ins u f a, p.2.length ≤ n := by
  intro p hp
  unfold pushG at hp
  split at hp
  · rcases List.mem_append.mp hp with z | z
    · exact h p z
    · rw [List.mem_singleton.mp z]; simp; omega
  · exact h p hp
theorem foldG_words {ins : List α} {u : List Nat} {n : Nat} (hu : u.length < n) : ∀ {as : List (Nat × α)} {f : FndG α}, (∀ p ∈ f, p.2.length ≤ n) → ∀ p ∈ as.foldl (pushG ins u) f, p.2.length ≤ n
  | [], _, h => h
  | _ :: r, _, h => foldG_words hu (as := r) (pushG_words hu h)
theorem bfsG_words (L : List Nat) (A : α → List α) (ins : List α) (first : α) : ∀ k, ∀ p ∈ bfsG L A ins first k, p.2.length ≤ k
  | 0, p, h => by simp [bfsG] at h; rw [h]; simp
  | k + 1, p, h => by
    unfold bfsG at h
    split at h
    · rename_i q e
      exact foldG_words (Nat.lt_succ_of_le (bfsG_words L A ins first k q (List.mem_of_getElem? e))) (fun p hp => Nat.le_succ_of_le (bfsG_words L A ins first k p hp)) p h
    · exact Nat.le_succ_of_le (bfsG_words L A ins first k p h)
/-- a graph: its places, their arrows; all arrows lead to places -/
structure GrOk (L : List Nat) (D : List α) (A : α → List α) : Prop where
  small : D.length ≤ 400
  nodup : D.Nodup
  arr : ∀ a ∈ D, (A a).length = L.length
  tgt : ∀ a ∈ D, ∀ b ∈ A a, b ∈ D
section
variable {L : List Nat} {D : List α} {A : α → List α} (G : GrOk L D A)
include G
theorem waysG_mem {ins : List α} {first x : α} (hf : first ∈ D) (hi : ∀ x ∈ ins, x ∈ D) : x ∈ keysG (waysG L A ins first) ↔ RR A (· ∈ ins) first x := by
  have hlen := bfsG_len (L := L) (A := A) hf hi 4096
  have hD := G.small
  constructor
  · intro h
    rw [waysG_eq] at h
    exact bfsG_rr L A ins first _ x h
  · intro h
    rw [waysG_eq]
    rcases h with rfl | h
    · exact bfsG_first L A ins _ _
    · refine RI.closed (F := keysG (bfsG L A ins first 4096)) (fun z hz y hy hs => ?_) h
      have hz' : z ∈ keysG (bfsG L A ins first 4096) := by
        rcases hz with rfl | hz
        · exact bfsG_first L A ins _ _
        · exact hz
      have hzD : z ∈ D := (bfsG_in L A ins first _ z hz').elim (fun e => e ▸ hf) (hi z)
      obtain ⟨p, hp, rfl⟩ := List.mem_map.mp hz'
      obtain ⟨i, hil, e⟩ := List.getElem_of_mem hp
      exact bfsG_done L A ins first 4096 i p (by omega) (List.getElem?_eq_some_iff.mpr ⟨hil, e⟩) (by rw [G.arr _ hzD]; omega) y hy hs
end
/-- Graph.part -/
noncomputable def partG (L : List Nat) (A : α → List α) (ins : List α) (first : α) : List α := (keysG (waysG L A ins first)).filter fun p => decide (first ∈ keysG (waysG L A ins p))
theorem partG_nodup (L : List Nat) (A : α → List α) (ins : List α) (first : α) : (partG L A ins first).Nodup := (waysG_nodup L A ins first).filter _
/-- Graph.parts: what was found, what is done -/
noncomputable def partsStepG (L : List Nat) (A : α → List α) (ins : List α) (st : List (List α) × List α) (place : α) : List (List α) × List α :=
  if place ∈ st.2 then st else (if 1 < (partG L A ins place).length ∨ place ∈ A place then st.1 ++ [partG L A ins place] else st.1, st.2 ++ (partG L A ins place).filter fun x => decide (x ∉ st.2))
theorem partsStepG_done {L : List Nat} {A : α → List α} {ins : List α} {st : List (List α) × List α} {x : α} (h : st.2.Nodup) : (partsStepG L A ins st x).2.Nodup := by
  unfold partsStepG
  split
  · exact h
  · exact List.nodup_append.mpr ⟨h, (partG_nodup L A ins x).filter _, fun a ha b hb e => by
      have := (List.mem_filter.mp hb).2
      simp at this
      exact this (e ▸ ha)⟩
noncomputable def partsG (L : List Nat) (A : α → List α) (ins : List α) : List (List α) := (ins.foldl (partsStepG L A ins) ([], [])).1
theorem partsG_len1 (L : List Nat) (A : α → List α) (ins : List α) : ∀ (xs : List α) (st : List (List α) × List α), (xs.foldl (partsStepG L A ins) st).1.length ≤ st.1.length + xs.length
  | [], st => by simp
  | x :: xs, st => by
    have := partsG_len1 L A ins xs (partsStepG L A ins st x)
    have h : (partsStepG L A ins st x).1.length ≤ st.1.length + 1 := by
      unfold partsStepG
      split
      · omega
      · split <;> simp
    rw [List.foldl_cons, List.length_cons]
    omega
theorem partsG_len (L : List Nat) (A : α → List α) (ins : List α) : (partsG L A ins).length ≤ ins.length := by
  have := partsG_len1 L A ins ins ([], [])
  unfold partsG
  simpa using this
section
variable {L : List Nat} {D : List α} {A : α → List α} (G : GrOk L D A) {ins : List α} (hi : ∀ x ∈ ins, x ∈ D)
include G hi
theorem partG_mem {first x : α} (hf : first ∈ ins) : x ∈ partG L A ins first ↔ Hang A (· ∈ ins) first x := by
  unfold partG
  rw [List.mem_filter, decide_eq_true_eq, waysG_mem G (hi _ hf) hi]
  constructor
  · intro h
    have hx : x ∈ ins := by
      rcases h.1 with rfl | h
      · exact hf
      · exact h.inn
    exact ⟨h.1, (waysG_mem G (hi _ hx) hi).mp h.2⟩
  · intro h
    have hx : x ∈ ins := by
      rcases h.1 with rfl | h
      · exact hf
      · exact h.inn
    exact ⟨h.1, (waysG_mem G (hi _ hx) hi).mpr h.2⟩
theorem partG_self {first : α} (hf : first ∈ ins) : first ∈ partG L A ins first := (partG_mem G hi hf).mpr ⟨.refl, .refl⟩
theorem partG_round {first : α} (hf : first ∈ ins) : (1 < (partG L A ins first).length ∨ first ∈ A first) ↔ RI A (· ∈ ins) first first := by
  constructor
  · rintro (h | h)
    · have : ∃ y ∈ partG L A ins first, y ≠ first := by
        refine Classical.byContradiction fun z => ?_
        have := nodup_le (m := [first]) (partG_nodup L A ins first) (fun x hx => by
          refine Classical.byContradiction fun w => z ⟨x, hx, fun e => w (by simp [e])⟩)
        simp at this
        omega
      obtain ⟨y, hy, e⟩ := this
      exact Hang.round e ((partG_mem G hi hf).mp hy)
    · exact .one h hf
  · intro h
    rcases Hang.more hf h with z | ⟨y, e, hy⟩
    · exact .inr z
    · left
      have := nodup_le (l := [first, y]) (m := partG L A ins first) (by simp [Ne.symm e]) (fun x hx => by
        rcases List.mem_cons.mp hx with rfl | hx
        · exact partG_self G hi hf
        · rw [List.mem_singleton.mp hx]; exact (partG_mem G hi hf).mpr hy)
      exact this
theorem partsG_inv : ∀ (xs pre : List α) (st : List (List α) × List α), (∀ x ∈ xs, x ∈ ins) → (∀ P ∈ st.1, ∃ f ∈ ins, P = partG L A ins f ∧ RI A (· ∈ ins) f f) → (∀ y ∈ st.2, ∃ f ∈ ins, y ∈ partG L A ins f ∧ (RI A (· ∈ ins) f f → partG L A ins f ∈ st.1)) → (∀ x ∈ pre, x ∈ st.2) →
    (∀ P ∈ (xs.foldl (partsStepG L A ins) st).1, ∃ f ∈ ins, P = partG L A ins f ∧ RI A (· ∈ ins) f f) ∧ (∀ y ∈ (xs.foldl (partsStepG L A ins) st).2, ∃ f ∈ ins, y ∈ partG L A ins f ∧ (RI A (· ∈ ins) f f → partG L A ins f ∈ (xs.foldl (partsStepG L A ins) st).1)) ∧ (∀ x ∈ pre ++ xs, x ∈ (xs.foldl (partsStepG L A ins) st).2)
  | [], pre, st, _, h1, h2, h3 => ⟨h1, h2, by simpa using h3⟩
  | x :: xs, pre, st, hx, h1, h2, h3 => by
    have hxi : x ∈ ins := hx x List.mem_cons_self
    have := partsG_inv xs (pre ++ [x]) (partsStepG L A ins st x) (fun y hy => hx y (List.mem_cons_of_mem _ hy)) (by
      unfold partsStepG
      split
      · exact h1
      · split
        · rename_i hr
          intro P hP
          rcases List.mem_append.mp hP with z | z
          · exact h1 P z
          · exact ⟨x, hxi, List.mem_singleton.mp z, (partG_round G hi hxi).mp hr⟩
        · exact h1) (by
      unfold partsStepG
      split
      · exact h2
      · rename_i hnd
        intro y hy
        rcases List.mem_append.mp hy with z | z
        · obtain ⟨f, hf, hyf, hr⟩ := h2 y z
          refine ⟨f, hf, hyf, fun h => ?_⟩
          split
          · exact List.mem_append_left _ (hr h)
          · exact hr h
        · refine ⟨x, hxi, (List.mem_filter.mp z).1, fun h => ?_⟩
          rw [if_pos ((partG_round G hi hxi).mpr h)]
          exact List.mem_append_right _ (by simp)) (by
      intro y hy
      unfold partsStepG
      split
      · rename_i hd
        rcases List.mem_append.mp hy with z | z
        · exact h3 y z
        · rw [List.mem_singleton.mp z]; exact hd
      · rename_i hd
        rcases List.mem_append.mp hy with z | z
        · exact List.mem_append_left _ (h3 y z)
        · rw [List.mem_singleton.mp z]
          exact List.mem_append_right _ (List.mem_filter.mpr ⟨partG_self G hi hxi, by simpa using hd⟩))
    rw [List.foldl_cons]
    refine ⟨this.1, this.2.1, fun y hy => this.2.2 y (by simpa using hy)⟩
theorem partsG_is {P : List α} (h : P ∈ partsG L A ins) : ∃ f ∈ ins, P = partG L A ins f ∧ RI A (· ∈ ins) f f :=
  (partsG_inv G hi ins [] ([], []) (fun _ h => h) (by simp) (by simp) (by simp)).1 P h
theorem partsG_has {x : α} (hx : x ∈ ins) (hr : RI A (· ∈ ins) x x) : ∃ f ∈ ins, partG L A ins f ∈ partsG L A ins ∧ x ∈ partG L A ins f := by
  obtain ⟨h1, h2, h3⟩ := partsG_inv G hi ins [] ([], []) (fun _ h => h) (by simp) (by simp) (by simp)
  obtain ⟨f, hf, hy, h⟩ := h2 x (h3 x (by simpa using hx))
  refine ⟨f, hf, h ?_, hy⟩
  have hh := (partG_mem G hi hf).mp hy
  exact hh.1.ri (hr.rr hh.2)
end
end
end GH
namespace GH
section
variable {α : Type} [DecidableEq α]
/-! ### loops -/
def uptoG (C : α → Int) (ins : List α) (c : Int) : List α := ins.filter fun p => decide (C p ≤ c)
def hasG (C : α → Int) (ins : List α) (c : Int) : List α := ins.filter fun p => decide (C p = c)
/-- loops_of -/
noncomputable def loopsG (L : List Nat) (A : α → List α) (C : α → Int) (ins : List α) (cs : List Int) : List (List α × α) := cs.flatMap fun c => (partsG L A (uptoG C ins c)).filterMap fun P => (hasG C P c).head?.map fun t => (P, t)
/-- places that hang together, within themselves -/
def Lot (A : α → List α) (X : List α) : Prop := ∀ a ∈ X, ∀ b ∈ X, RI A (· ∈ X) a b
def TopIs (C : α → Int) (X : List α) (c : Int) : Prop := (∀ a ∈ X, C a ≤ c) ∧ ∃ a ∈ X, C a = c
/-- a run from p can end in a loop whose greatest colour is such a one -/
def EndsIn (A : α → List α) (C : α → Int) (D : List α) (par : Int → Prop) (p : α) : Prop := ∃ X c, (∀ x ∈ X, x ∈ D) ∧ Lot A X ∧ TopIs C X c ∧ par c ∧ ∃ g ∈ X, RR A (· ∈ D) p g
theorem uptoG_mem {C : α → Int} {ins : List α} {c : Int} {x : α} : x ∈ uptoG C ins c ↔ x ∈ ins ∧ C x ≤ c := by simp [uptoG]
theorem hasG_mem {C : α → Int} {ins : List α} {c : Int} {x : α} : x ∈ hasG C ins c ↔ x ∈ ins ∧ C x = c := by simp [hasG]
section
variable {L : List Nat} {D : List α} {A : α → List α} {C : α → Int} (G : GrOk L D A) {ins : List α} (hi : ∀ x ∈ ins, x ∈ D)
include G hi
theorem partG_lot {f : α} (hf : f ∈ ins) (hr : RI A (· ∈ ins) f f) : Lot A (partG L A ins f) := by
  intro a ha b hb
  refine RI.mono (fun x hx => ?_) (Hang.lot hr ((partG_mem G hi hf).mp ha) ((partG_mem G hi hf).mp hb))
  exact (partG_mem G hi hf).mpr hx
theorem partG_sub {f x : α} (hf : f ∈ ins) (hx : x ∈ partG L A ins f) : x ∈ ins := by
  rcases ((partG_mem G hi hf).mp hx).1 with rfl | h
  · exact hf
  · exact h.inn
theorem loopsG_is {cs : List Int} {P : List α} {t : α} (h : (P, t) ∈ loopsG L A C ins cs) : ∃ c ∈ cs, Lot A P ∧ TopIs C P c ∧ t ∈ P ∧ C t = c ∧ P.Nodup ∧ ∀ x ∈ P, x ∈ ins := by
  unfold loopsG at h
  obtain ⟨c, hc, h⟩ := List.mem_flatMap.mp h
  obtain ⟨Q, hQ, h⟩ := List.mem_filterMap.mp h
  obtain ⟨s, hs, e⟩ := Option.map_eq_some_iff.mp h
  cases e
  have hu : ∀ x ∈ uptoG C ins c, x ∈ D := fun x hx => hi x (uptoG_mem.mp hx).1
  obtain ⟨f, hf, rfl, hr⟩ := partsG_is G hu hQ
  have ht := hasG_mem.mp (List.mem_of_mem_head? hs)
  refine ⟨c, hc, partG_lot G hu hf hr, ⟨fun a ha => (uptoG_mem.mp (partG_sub G hu hf ha)).2, t, ht.1, ht.2⟩, ht.1, ht.2, partG_nodup _ _ _ _, fun x hx => (uptoG_mem.mp (partG_sub G hu hf hx)).1⟩
theorem loopsG_has {cs : List Int} {X : List α} {c : Int} (hX : ∀ x ∈ X, x ∈ ins) (hl : Lot A X) (ht : TopIs C X c) (hc : c ∈ cs) : ∃ P t, (P, t) ∈ loopsG L A C ins cs ∧ ∀ x ∈ X, x ∈ P := by
  obtain ⟨ht1, g, hg, hgc⟩ := ht
  have hu : ∀ x ∈ uptoG C ins c, x ∈ D := fun x hx => hi x (uptoG_mem.mp hx).1
  have hXu : ∀ x ∈ X, x ∈ uptoG C ins c := fun x hx => uptoG_mem.mpr ⟨hX x hx, ht1 x hx⟩
  have rr : ∀ a ∈ X, ∀ b ∈ X, RI A (· ∈ uptoG C ins c) a b := fun a ha b hb => (hl a ha b hb).mono hXu
  obtain ⟨f, hf, hP, hgP⟩ := partsG_has G hu (hXu g hg) (rr g hg g hg)
  have hgm := (partG_mem G hu hf).mp hgP
  have hsub : ∀ x ∈ X, x ∈ partG L A (uptoG C ins c) f := fun x hx => (partG_mem G hu hf).mpr ⟨hgm.1.trans (.inr (rr g hg x hx)), .trans (.inr (rr x hx g hg)) hgm.2⟩
  have hne : hasG C (partG L A (uptoG C ins c) f) c ≠ [] := List.ne_nil_of_mem (hasG_mem.mpr ⟨hgP, hgc⟩)
  cases hh : hasG C (partG L A (uptoG C ins c) f) c with
  | nil => exact absurd hh hne
  | cons t ts =>
    refine ⟨_, t, ?_, hsub⟩
    unfold loopsG
    exact List.mem_flatMap.mpr ⟨c, hc, List.mem_filterMap.mpr ⟨_, hP, by rw [hh]; rfl⟩⟩
end
/-- leading_to -/
noncomputable def leadsG (L : List Nat) (A : α → List α) (ins ends : List α) : List α := ins.filter fun p => ends.any fun e => decide (e ∈ keysG (waysG L A ins p))
open Classical in
noncomputable def endsG (A : α → List α) (C : α → Int) (D : List α) (par : Int → Prop) : List α := D.filter fun p => decide (EndsIn A C D par p)
theorem endsG_mem {A : α → List α} {C : α → Int} {D : List α} {par : Int → Prop} {p : α} : p ∈ endsG A C D par ↔ p ∈ D ∧ EndsIn A C D par p := by simp [endsG]
section
variable {L : List Nat} {D : List α} {A : α → List α} {C : α → Int} (G : GrOk L D A)
include G
theorem loops_live {cs : List Int} {p : α} (hp : p ∈ D) : (∃ t ∈ (loopsG L A C D cs).map (·.2), t ∈ keysG (waysG L A D p)) ↔ EndsIn A C D (· ∈ cs) p := by
  constructor
  · rintro ⟨t, ht, hw⟩
    obtain ⟨⟨P, t'⟩, hPt, rfl⟩ := List.mem_map.mp ht
    obtain ⟨c, hc, h1, h2, h3, h4, _, h5⟩ := loopsG_is G (fun _ h => h) hPt
    exact ⟨P, c, h5, h1, h2, hc, t', h3, (waysG_mem G hp (fun _ h => h)).mp hw⟩
  · rintro ⟨X, c, h1, h2, h3, hc, g, hg, hr⟩
    obtain ⟨P, t, hPt, hs⟩ := loopsG_has G (fun _ h => h) h1 h2 h3 hc
    obtain ⟨_, _, q1, _, q3, _, _, q5⟩ := loopsG_is G (fun _ h => h) hPt
    exact ⟨t, List.mem_map.mpr ⟨_, hPt, rfl⟩, (waysG_mem G hp (fun _ h => h)).mpr (hr.trans (.inr ((q1 g (hs g hg) t q3).mono q5)))⟩
theorem leads_live {cs : List Int} {par : Int → Prop} (hpar : ∀ a ∈ D, C a ∈ cs ↔ par (C a)) : leadsG L A D ((loopsG L A C D cs).map (·.2)) = endsG A C D par := by
  unfold leadsG endsG
  apply List.filter_congr
  intro p hp
  have h1 := loops_live (C := C) (cs := cs) G hp
  have h2 : EndsIn A C D (· ∈ cs) p ↔ EndsIn A C D par p := by
    constructor
    · rintro ⟨X, c, a1, a2, a3, hc, r⟩
      obtain ⟨g, hg, rfl⟩ := a3.2
      exact ⟨X, _, a1, a2, a3, (hpar g (a1 g hg)).mp hc, r⟩
    · rintro ⟨X, c, a1, a2, a3, hc, r⟩
      obtain ⟨g, hg, rfl⟩ := a3.2
      exact ⟨X, _, a1, a2, a3, (hpar g (a1 g hg)).mpr hc, r⟩
  refine Bool.eq_iff_iff.mpr (Iff.trans ?_ (Iff.trans (h1.trans h2) (@decide_eq_true_iff _ (Classical.propDecidable _)).symm))
  rw [List.any_eq_true]
  simp only [decide_eq_true_eq]
/-- a place ends so just if a next one does -/
theorem ends_next {par : Int → Prop} {p : α} (hp : p ∈ D) : EndsIn A C D par p ↔ ∃ t ∈ A p, EndsIn A C D par t := by
  constructor
  · rintro ⟨X, c, a1, a2, a3, hc, g, hg, hr⟩
    have : RI A (· ∈ D) p g := by
      rcases hr with rfl | hr
      · exact (a2 p hg p hg).mono a1
      · exact hr
    obtain ⟨x, hx, _, h⟩ := this.first
    exact ⟨x, hx, X, c, a1, a2, a3, hc, g, hg, h⟩
  · rintro ⟨t, ht, X, c, a1, a2, a3, hc, g, hg, hr⟩
    exact ⟨X, c, a1, a2, a3, hc, g, hg, .trans (.inr (.one ht (G.tgt p hp t ht))) hr⟩
theorem chain_ri {c : Nat → α} (h : ∀ i, c (i + 1) ∈ A (c i)) (hD : ∀ i, c i ∈ D) (i : Nat) : ∀ d, RI A (· ∈ D) (c i) (c (i + d + 1))
  | 0 => .one (h i) (hD _)
  | d + 1 => .more (chain_ri h hD i d) (h (i + d + 1)) (hD _)
omit G in
theorem pigeon {c : Nat → α} (hD : ∀ i, c i ∈ D) : ∃ i d, c i = c (i + d + 1) := by
  refine Classical.byContradiction fun z => ?_
  have hne : ∀ i j, i < j → c i ≠ c j := fun i j hij e => z ⟨i, j - i - 1, by rw [e]; congr 1; omega⟩
  have hn : ((List.range (D.length + 1)).map c).Nodup := by
    rw [List.nodup_iff_pairwise_ne, List.pairwise_map]
    exact List.pairwise_lt_range.imp fun {a b} h => hne a b h
  have := nodup_le hn (m := D) (fun x hx => by
    obtain ⟨i, _, rfl⟩ := List.mem_map.mp hx
    exact hD i)
  simp at this
  omega
omit G in
theorem top_ex : ∀ {X : List α}, X ≠ [] → ∃ c, TopIs C X c
  | [], h => absurd rfl h
  | [a], _ => ⟨C a, by simp [TopIs]⟩
  | a :: b :: X, _ => by
    obtain ⟨c, h1, h2⟩ := top_ex (X := b :: X) (by simp)
    by_cases h : C a ≤ c
    · refine ⟨c, fun x hx => ?_, ?_⟩
      · rcases List.mem_cons.mp hx with rfl | hx
        · exact h
        · exact h1 x hx
      · obtain ⟨y, hy, e⟩ := h2
        exact ⟨y, List.mem_cons_of_mem _ hy, e⟩
    · refine ⟨C a, fun x hx => ?_, a, List.mem_cons_self, rfl⟩
      rcases List.mem_cons.mp hx with rfl | hx
      · omega
      · have := h1 x hx
        omega
/-- from each place some loop can be come to -/
theorem some_loop (hne : ∀ a ∈ D, A a ≠ []) {p : α} (hp : p ∈ D) : ∃ X c, (∀ x ∈ X, x ∈ D) ∧ Lot A X ∧ TopIs C X c ∧ ∃ g ∈ X, RR A (· ∈ D) p g := by
  have nx : ∀ a : {a // a ∈ D}, ∃ b : {a // a ∈ D}, b.1 ∈ A a.1 := fun ⟨a, ha⟩ => by
    obtain ⟨b, hb⟩ := List.exists_mem_of_ne_nil _ (hne a ha)
    exact ⟨⟨b, G.tgt a ha b hb⟩, hb⟩
  let c : Nat → {a // a ∈ D} := fun n => Nat.rec ⟨p, hp⟩ (fun _ a => Classical.choose (nx a)) n
  have h1 : ∀ i, (c (i + 1)).1 ∈ A (c i).1 := fun i => Classical.choose_spec (nx (c i))
  have hD : ∀ i, (c i).1 ∈ D := fun i => (c i).2
  obtain ⟨i, d, e⟩ := pigeon (c := fun i => (c i).1) hD
  have r : RI A (· ∈ D) (c i).1 (c i).1 := by
    have := chain_ri G (c := fun i => (c i).1) h1 hD i d
    have e' : (c i).1 = (c (i + d + 1)).1 := e
    have this' : RI A (· ∈ D) (c i).1 (c (i + d + 1)).1 := this
    rw [← e'] at this'
    exact this'
  have r0 : RR A (· ∈ D) p (c i).1 := by
    cases i with
    | zero => exact .refl
    | succ i =>
      have := chain_ri G (c := fun i => (c i).1) h1 hD 0 i
      have this' : RI A (· ∈ D) p (c (0 + i + 1)).1 := this
      rw [Nat.zero_add] at this'
      exact .inr this'
  have hs := partG_self G (ins := D) (fun _ h => h) (hD i)
  obtain ⟨t, ht⟩ := top_ex (C := C) (List.ne_nil_of_mem hs)
  exact ⟨partG L A D (c i).1, t, fun x hx => partG_sub G (fun _ h => h) (hD i) hx, partG_lot G (fun _ h => h) (hD i) r, ht, (c i).1, hs, r0⟩
theorem ends_one (hne : ∀ a ∈ D, A a ≠ []) {p : α} (hp : p ∈ D) (h : ¬ EndsIn A C D (fun c => c % 2 = 1) p) : EndsIn A C D (fun c => c % 2 = 0) p := by
  obtain ⟨X, c, h1, h2, h3, g, hg, hr⟩ := some_loop (C := C) G hne hp
  by_cases hc : c % 2 = 0
  · exact ⟨X, c, h1, h2, h3, hc, g, hg, hr⟩
  · exact absurd ⟨X, c, h1, h2, h3, (by show c % 2 = 1; omega), g, hg, hr⟩ h
end
/-! ### more places that are not reached change nothing -/
section
variable {A A' : α → List α} {C C' : α → Int} {D D' : List α} (hA : ∀ a ∈ D, A' a = A a) (hC : ∀ a ∈ D, C' a = C a) (hcl : ∀ a ∈ D, ∀ b ∈ A a, b ∈ D) (hDD : ∀ a ∈ D, a ∈ D')
include hA hcl in
theorem ext_ri {S : α → Prop} {p x : α} (hp : p ∈ D) (h : RI A' S p x) : x ∈ D ∧ RI A (fun y => S y ∧ y ∈ D) p x := by
  induction h with
  | one h1 h2 =>
    rw [hA _ hp] at h1
    have hb := hcl _ hp _ h1
    exact ⟨hb, .one h1 ⟨h2, hb⟩⟩
  | more _ h1 h2 ih =>
    rw [hA _ ih.1] at h1
    have hb := hcl _ ih.1 _ h1
    exact ⟨hb, .more ih.2 h1 ⟨h2, hb⟩⟩
include hA hcl in
theorem ext_ri2 {S : α → Prop} {p x : α} (hp : p ∈ D) (h : RI A S p x) : RI A' S p x ∧ x ∈ D := by
  induction h with
  | one h1 h2 => exact ⟨.one (by rw [hA _ hp]; exact h1) h2, hcl _ hp _ h1⟩
  | more _ h1 h2 ih => exact ⟨.more ih.1 (by rw [hA _ ih.2]; exact h1) h2, hcl _ ih.2 _ h1⟩
include hA hcl hDD in
theorem ext_rr {p x : α} (hp : p ∈ D) : RR A' (· ∈ D') p x ↔ RR A (· ∈ D) p x := by
  constructor
  · rintro (rfl | h)
    · exact .refl
    · exact .inr ((ext_ri hA hcl hp h).2.mono fun y hy => hy.2)
  · rintro (rfl | h)
    · exact .refl
    · exact .inr ((ext_ri2 hA hcl hp h).1.mono hDD)
include hA hC hcl hDD in
theorem ext_ends {par : Int → Prop} {p : α} (hp : p ∈ D) : EndsIn A' C' D' par p ↔ EndsIn A C D par p := by
  constructor
  · rintro ⟨X, c, h1, h2, h3, hc, g, hg, hr⟩
    have hgD : g ∈ D := by
      rcases hr with rfl | hr
      · exact hp
      · exact (ext_ri hA hcl hp hr).1
    have hXD : ∀ x ∈ X, x ∈ D := fun x hx => (ext_ri hA hcl hgD (h2 g hg x hx)).1
    refine ⟨X, c, hXD, fun a ha b hb => (ext_ri hA hcl (hXD a ha) (h2 a ha b hb)).2.mono fun y hy => hy.1, ⟨fun a ha => by rw [← hC a (hXD a ha)]; exact h3.1 a ha, ?_⟩, hc, g, hg, (ext_rr hA hcl hDD hp).mp hr⟩
    obtain ⟨a, ha, e⟩ := h3.2
    exact ⟨a, ha, by rw [← hC a (hXD a ha)]; exact e⟩
  · rintro ⟨X, c, h1, h2, h3, hc, g, hg, hr⟩
    refine ⟨X, c, fun x hx => hDD x (h1 x hx), fun a ha b hb => (ext_ri2 hA hcl (h1 a ha) (h2 a ha b hb)).1, ⟨fun a ha => by rw [hC a (h1 a ha)]; exact h3.1 a ha, ?_⟩, hc, g, hg, (ext_rr hA hcl hDD hp).mpr hr⟩
    obtain ⟨a, ha, e⟩ := h3.2
    exact ⟨a, ha, by rw [hC a (h1 a ha)]; exact e⟩
/-- some place can be come to behind which all runs end so, or none does -/
def Sealed (A : α → List α) (C : α → Int) (D : List α) (e : α) : Prop := ¬ EndsIn A C D (fun c => c % 2 = 0) e ∨ ¬ EndsIn A C D (fun c => c % 2 = 1) e
def Wat (A : α → List α) (C : α → Int) (D : List α) (p : α) : Prop := ∀ q, RR A (· ∈ D) p q → ∃ e, RR A (· ∈ D) q e ∧ Sealed A C D e
include hA hC hcl hDD in
theorem ext_wat {p : α} (hp : p ∈ D) : Wat A' C' D' p ↔ Wat A C D p := by
  have cl : ∀ {q x : α}, q ∈ D → RR A (· ∈ D) q x → x ∈ D := fun hq h => by
    rcases h with rfl | h
    · exact hq
    · exact h.inn
  constructor
  · intro h q hq
    have hqD := cl hp hq
    obtain ⟨e, he, hs⟩ := h q ((ext_rr hA hcl hDD hp).mpr hq)
    have he' := (ext_rr hA hcl hDD hqD).mp he
    have heD := cl hqD he'
    refine ⟨e, he', ?_⟩
    unfold Sealed at hs ⊢
    rwa [ext_ends hA hC hcl hDD heD, ext_ends hA hC hcl hDD heD] at hs
  · intro h q hq
    have hq' := (ext_rr hA hcl hDD hp).mp hq
    have hqD := cl hp hq'
    obtain ⟨e, he, hs⟩ := h q hq'
    have heD := cl hqD he
    refine ⟨e, (ext_rr hA hcl hDD hqD).mpr he, ?_⟩
    unfold Sealed at hs ⊢
    rwa [ext_ends hA hC hcl hDD heD, ext_ends hA hC hcl hDD heD]
end
end
/-! ### all sets of the first numbers -/
def lotsF : Nat → List (List Int)
  | 0 => [[]]
  | n + 1 => lotsF n ++ (lotsF n).map fun X => X ++ [(n : Int)]
theorem lotsF_head : ∀ n, ∃ t, lotsF n = [] :: t
  | 0 => ⟨[], rfl⟩
  | n + 1 => by
    obtain ⟨t, e⟩ := lotsF_head n
    exact ⟨_, by simp only [lotsF, e, List.cons_append]; rfl⟩
theorem lotsF_len : ∀ n, (lotsF n).length = 2 ^ n
  | 0 => rfl
  | n + 1 => by simp [lotsF, lotsF_len n]; omega
theorem lotsF_in : ∀ n X, X ∈ lotsF n → X.Nodup ∧ ∀ x ∈ X, 0 ≤ x ∧ x < n
  | 0, X, h => by simp [lotsF] at h; subst h; simp
  | n + 1, X, h => by
    rcases List.mem_append.mp h with h | h
    · obtain ⟨h1, h2⟩ := lotsF_in n X h
      exact ⟨h1, fun x hx => by have := h2 x hx; omega⟩
    · obtain ⟨Y, hY, rfl⟩ := List.mem_map.mp h
      obtain ⟨h1, h2⟩ := lotsF_in n Y hY
      refine ⟨List.nodup_append.mpr ⟨h1, by simp, fun a ha b hb e => ?_⟩, fun x hx => ?_⟩
      · have := h2 a ha
        have : b = n := by simpa using hb
        omega
      · rcases List.mem_append.mp hx with z | z
        · have := h2 x z; omega
        · have : x = n := by simpa using z
          omega
theorem lotsF_all : ∀ n (S : Int → Prop), ∃ X ∈ lotsF n, ∀ x, x ∈ X ↔ (0 ≤ x ∧ x < n ∧ S x)
  | 0, S => ⟨[], by simp [lotsF], fun x => by simp; omega⟩
  | n + 1, S => by
    obtain ⟨X, hX, h⟩ := lotsF_all n S
    by_cases hn : S n
    · refine ⟨X ++ [(n : Int)], List.mem_append_right _ (List.mem_map.mpr ⟨X, hX, rfl⟩), fun x => ?_⟩
      rw [List.mem_append, h, List.mem_singleton]
      constructor
      · rintro (z | rfl)
        · exact ⟨z.1, by omega, z.2.2⟩
        · exact ⟨by omega, by omega, hn⟩
      · rintro ⟨a, b, c⟩
        by_cases e : x = n
        · exact .inr e
        · exact .inl ⟨a, by omega, c⟩
    · refine ⟨X, List.mem_append_left _ hX, fun x => ?_⟩
      rw [h]
      constructor
      · exact fun z => ⟨z.1, by omega, z.2.2⟩
      · rintro ⟨a, b, c⟩
        exact ⟨a, by
          have : x ≠ n := fun e => hn (e ▸ c)
          omega, c⟩
theorem lotsF_tail {n : Nat} {X : List Int} (h : X ∈ lotsF n) (hne : X ≠ []) : X ∈ (lotsF n).tail := by
  obtain ⟨t, e⟩ := lotsF_head n
  rw [e] at h ⊢
  rcases List.mem_cons.mp h with rfl | h
  · exact absurd rfl hne
  · exact h
theorem lotsF_ne : ∀ n, ∃ t, lotsF n = [] :: t ∧ ∀ X ∈ t, X ≠ []
  | 0 => ⟨[], rfl, by simp⟩
  | n + 1 => by
    obtain ⟨t, e, h⟩ := lotsF_ne n
    refine ⟨t ++ (lotsF n).map (fun X => X ++ [(n : Int)]), by simp only [lotsF, e, List.cons_append], fun X hX => ?_⟩
    rcases List.mem_append.mp hX with z | z
    · exact h X z
    · obtain ⟨Y, _, rfl⟩ := List.mem_map.mp z
      simp
theorem lotsF_tne {n : Nat} {X : List Int} (h : X ∈ (lotsF n).tail) : X ≠ [] := by
  obtain ⟨t, e, ht⟩ := lotsF_ne n
  rw [e] at h
  exact ht X h
/-- the first numbers -/
def zeroTo (n : Nat) : List Int := (List.range n).map fun k => ((k : Nat) : Int)
theorem zeroTo_mem {n : Nat} {x : Int} : x ∈ zeroTo n ↔ 0 ≤ x ∧ x < n := by
  unfold zeroTo
  rw [List.mem_map]
  constructor
  · rintro ⟨k, hk, rfl⟩
    have := List.mem_range.mp hk
    omega
  · rintro ⟨a, b⟩
    exact ⟨x.toNat, List.mem_range.mpr (by omega), by omega⟩
theorem zeroTo_nodup (n : Nat) : (zeroTo n).Nodup := by
  unfold zeroTo
  rw [List.nodup_iff_pairwise_ne, List.pairwise_map]
  exact List.nodup_range.imp fun {a b} h => by omega
theorem zeroTo_len (n : Nat) : (zeroTo n).length = n := by simp [zeroTo]
/-- which is asked of all sets, one by one -/
theorem ends_lots {A : Int → List Int} {C : Int → Int} {n : Nat} {par : Int → Prop} {p : Int} : EndsIn A C (zeroTo n) par p ↔ ∃ X ∈ (lotsF n).tail, Lot A X ∧ (∃ c, TopIs C X c ∧ par c) ∧ ∃ g ∈ X, RR A (· ∈ zeroTo n) p g := by
  constructor
  · rintro ⟨X, c, a1, a2, a3, hc, g, hg, hr⟩
    obtain ⟨Y, hY, e⟩ := lotsF_all n (· ∈ X)
    have e' : ∀ x, x ∈ Y ↔ x ∈ X := fun x => (e x).trans ⟨fun z => z.2.2, fun z => ⟨(zeroTo_mem.mp (a1 x z)).1, (zeroTo_mem.mp (a1 x z)).2, z⟩⟩
    refine ⟨Y, lotsF_tail hY (List.ne_nil_of_mem ((e' g).mpr hg)), fun a ha b hb => (a2 a ((e' a).mp ha) b ((e' b).mp hb)).mono fun x hx => (e' x).mpr hx, ⟨c, ⟨fun a ha => a3.1 a ((e' a).mp ha), ?_⟩, hc⟩, g, (e' g).mpr hg, hr⟩
    obtain ⟨a, ha, hac⟩ := a3.2
    exact ⟨a, (e' a).mpr ha, hac⟩
  · rintro ⟨X, hX, a2, ⟨c, a3, hc⟩, g, hg, hr⟩
    exact ⟨X, c, fun x hx => zeroTo_mem.mpr ((lotsF_in n X (List.mem_of_mem_tail hX)).2 x hx), a2, a3, hc, g, hg, hr⟩
end GH
namespace EV
open PySem
/-! ### values as trees -/
inductive Val where
  | non | bl (b : Bool) | int (i : Int) | str (l : List Nat)
  | lst (xs : List Val) | tup (xs : List Val) | dct (kvs : List (Val × Val)) | obj (c : String) (fs : List (String × Val)) | scr (xs : List Int) | wtp (xs : List (List Nat))
inductive Slot where
  | un | fz (v : Val) | ow (v : Val)
def Slot.val : Slot → Option Val
  | .un => none
  | .fz v => some v
  | .ow v => some v
abbrev Ro := List Slot
structure Exc where
  c : String
  fs : List (String × Val)
inductive Out (α : Type) where
  | ok (a : α) (ρ : Ro) | ex (e : Exc) (ρ : Ro)
abbrev Res (α : Type) := Option (Out α)
def bnd {α β : Type} (m : Res α) (k : α → Ro → Res β) : Res β := match m with
  | some (.ok a ρ) => k a ρ
  | some (.ex e ρ) => some (.ex e ρ)
  | none => none
def pur {α : Type} (a : α) (ρ : Ro) : Res α := some (.ok a ρ)
@[simp] theorem bnd_none {α β : Type} (k : α → Ro → Res β) : bnd none k = none := rfl
@[simp] theorem bnd_ok {α β : Type} (a : α) (ρ : Ro) (k : α → Ro → Res β) : bnd (some (.ok a ρ)) k = k a ρ := rfl
@[simp] theorem bnd_pur {α β : Type} (a : α) (ρ : Ro) (k : α → Ro → Res β) : bnd (pur a ρ) k = k a ρ := rfl
@[simp] theorem bnd_ex {α β : Type} (e : Exc) (ρ : Ro) (k : α → Ro → Res β) : bnd (some (.ex e ρ)) k = some (.ex e ρ) := rfl
def lift {α : Type} (o : Option α) (ρ : Ro) : Res α := match o with
  | some a => pur a ρ
  | none => none
@[simp] theorem lift_some {α : Type} (a : α) (ρ : Ro) : lift (some a) ρ = pur a ρ := rfl
@[simp] theorem lift_none {α : Type} (ρ : Ro) : lift (none : Option α) ρ = none := rfl
def cap : Nat := 1000000
/-! ### the operations on values -/
mutual
def toD : Val → Option PyData
  | .non => some .none
  | .bl b => some (.bool b)
  | .int i => some (.int i)
  | .str l => some (.str ⟨l.toArray⟩)
  | .lst xs => (toDs xs).map .list
  | .tup xs => (toDs xs).map .tuple
  | .dct _ => none
  | .obj _ _ => none
  | .scr _ => none
  | .wtp _ => none
def toDs : List Val → Option (List PyData)
  | [] => some []
  | x :: r => (toD x).bind fun d => (toDs r).map (d :: ·)
end
mutual
def eqv : Val → Val → Bool
  | .non, b => match b with | .non => true | _ => false
  | .bl a, b => match b with | .bl b => a == b | .int j => (if a then 1 else 0) == j | _ => false
  | .int a, b => match b with | .int b => a == b | .bl c => a == (if c then 1 else 0) | _ => false
  | .str a, b => match b with | .str b => a == b | _ => false
  | .lst a, b => match b with | .lst b => eqvs a b | _ => false
  | .tup a, b => match b with | .tup b => eqvs a b | _ => false
  | .dct _, _ => false
  | .obj _ _, _ => false
  | .scr _, _ => false
  | .wtp _, _ => false
def eqvs : List Val → List Val → Bool
  | [], b => match b with | [] => true | _ => false
  | x :: r, b => match b with | [] => false | y :: s => eqv x y && eqvs r s
end
/-- data whose strings are texts, nested little -/
def shp (v : Val) : Bool := match toD v with
  | some d => SeqAt.shaped d
  | none => false
def eqF (a b : Val) : Option Bool := if shp a && shp b then some (eqv a b) else none
inductive Bin where
  | add | sub | mul | mod | fdiv | pow
def repS (l : List Nat) : Nat → List Nat
  | 0 => []
  | n + 1 => l ++ repS l n
def repV (l : List Val) : Nat → List Val
  | 0 => []
  | n + 1 => l ++ repV l n
def small (i : Int) : Bool := decide (-(2 ^ 64) < i) && decide (i < 2 ^ 64)
def binF : Bin → Val → Val → Option Slot
  | .add, .int a, .int b => some (.fz (.int (a + b)))
  | .add, .str a, .str b => if a.length + b.length ≤ cap then some (.fz (.str (a ++ b))) else none
  | .add, .lst a, .lst b => if a.length + b.length ≤ cap then some (.ow (.lst (a ++ b))) else none
  | .add, .tup a, .tup b => if a.length + b.length ≤ cap then some (.fz (.tup (a ++ b))) else none
  | .sub, .int a, .int b => some (.fz (.int (a - b)))
  | .mul, .int a, .int b => if small a || small b then some (.fz (.int (a * b))) else none
  | .mul, .str a, .int n => if a.length ≤ 1000 ∧ 1 ≤ n ∧ n ≤ 1000 then some (.fz (.str (repS a n.toNat))) else none
  | .mul, .lst a, .int n => if a.length ≤ 1000 ∧ 0 ≤ n ∧ n ≤ 1000 then some (.ow (.lst (repV a n.toNat))) else none
  | .mul, .tup a, .int n => if a.length ≤ 1000 ∧ 1 ≤ n ∧ n ≤ 1000 ∧ 1 ≤ a.length then some (.fz (.tup (repV a n.toNat))) else none
  | .mod, .int a, .int b => if 0 < b then some (.fz (.int (a % b))) else none
  | .fdiv, .int a, .int b => if 0 < b ∧ b < 2 ^ 30 then some (.fz (.int (a / b))) else none
  | .pow, .int a, .int b => if 0 ≤ a ∧ a ≤ 10 ∧ 0 ≤ b ∧ b ≤ 40 then some (.fz (.int (a ^ b.toNat))) else none
  | _, _, _ => none
inductive Cmp where
  | eq | ne | lt | le | gt | ge | isin | notin | is | isnt
def keyOk : Val → Bool
  | .int _ => true
  | .str _ => true
  | _ => false
def dkey : Val → Bool
  | .int _ => true
  | .str _ => true
  | .tup xs => xs.all keyOk
  | _ => false
/-- what stands under a key -/
def look (kvs : List (Val × Val)) (k : Val) : Option Val := (kvs.find? fun p => eqv p.1 k).map (·.2)
def put (kvs : List (Val × Val)) (k v : Val) : List (Val × Val) :=
  if (kvs.any fun p => eqv p.1 k) then kvs.map fun p => if eqv p.1 k then (p.1, v) else p else kvs ++ [(k, v)]
def isTup : Val → Bool
  | .tup _ => true
  | _ => false
/-- keys of one kind -/
def fits (kvs : List (Val × Val)) (k : Val) : Bool := kvs.all fun p => isTup p.1 == isTup k
def inF (x c : Val) : Option Bool := match c with
  | .str l => (match x with
    | .str [s] => some (l.contains s)
    | _ => none)
  | .lst ys => if shp x && shp (.lst ys) then some (ys.any fun y => eqv y x) else none
  | .tup ys => if shp x && shp (.tup ys) then some (ys.any fun y => eqv y x) else none
  | .dct kvs => if dkey x && fits kvs x then some (look kvs x).isSome else none
  | .wtp xs => (match x with
    | .str l => some (xs.contains l)
    | _ => none)
  | _ => none
def cmpF : Cmp → Val → Val → Option Bool
  | .eq, a, b => eqF a b
  | .ne, a, b => (eqF a b).map (!·)
  | .lt, .int a, .int b => some (decide (a < b))
  | .le, .int a, .int b => some (decide (a ≤ b))
  | .gt, .int a, .int b => some (decide (b < a))
  | .ge, .int a, .int b => some (decide (b ≤ a))
  | .lt, .str a, .str b => some (decide (a < b))
  | .isin, a, b => inF a b
  | .notin, a, b => (inF a b).map (!·)
  | .is, a, .non => some (match a with | .non => true | _ => false)
  | .isnt, a, .non => some (match a with | .non => false | _ => true)
  | _, _, _ => none
/-- an index from either end -/
def ixN (n : Nat) (i : Int) : Option Nat := if 0 ≤ i ∧ i < n then some i.toNat else if i < 0 ∧ -(n : Int) ≤ i then some (i + n).toNat else none
def idxF : Val → Val → Option Val
  | .lst xs, .int i => (ixN xs.length i).bind fun j => xs[j]?
  | .tup xs, .int i => (ixN xs.length i).bind fun j => xs[j]?
  | .str l, .int i => if l.length ≤ cap then (ixN l.length i).bind fun j => (l[j]?).map fun c => .str [c] else none
  | .dct kvs, k => if dkey k && fits kvs k then look kvs k else none
  | .scr xs, .int i => ((ixN xs.length i).bind fun j => xs[j]?).map .int
  | _, _ => none
def sIx (n d : Nat) : Option Int → Nat
  | none => d
  | some v => if v < 0 then (v + (n : Int)).toNat else min v.toNat n
def cut {α : Type} (xs : List α) (lo hi : Option Int) : List α := (xs.drop (sIx xs.length 0 lo)).take (sIx xs.length xs.length hi - sIx xs.length 0 lo)
def slcF (v : Val) (lo hi : Option Int) : Option Slot := match v with
  | .lst xs => some (.ow (.lst (cut xs lo hi)))
  | .tup xs => some (.fz (.tup (cut xs lo hi)))
  | .str l => if l.length ≤ cap then some (.fz (.str (cut l lo hi))) else none
  | .scr xs => some (.ow (.lst ((cut xs lo hi).map .int)))
  | _ => none
def fldF (v : Val) (f : String) : Option Val := match v with
  | .obj _ fs => fs.lookup f
  | _ => none
def typ : Val → String
  | .non => "NoneType" | .bl _ => "bool" | .int _ => "int" | .str _ => "str" | .lst _ => "list" | .tup _ => "tuple" | .dct _ => "dict" | .obj c _ => c | .scr _ => "list" | .wtp _ => "tuple"
/-- isinstance with a built-in class or one of the text -/
def isiF (v : Val) (t : String) : Bool := typ v == t || (t == "int" && typ v == "bool")
def allB : List Val → Option (List Bool)
  | [] => some []
  | .bl b :: r => (allB r).map (b :: ·)
  | _ :: _ => none
def allI : List Val → Option (List Int)
  | [] => some []
  | .int i :: r => (allI r).map (i :: ·)
  | _ :: _ => none
def allS : List Val → Option (List (List Nat))
  | [] => some []
  | .str l :: r => (allS r).map (l :: ·)
  | _ :: _ => none
def maxI : Int → List Int → Int
  | m, [] => m
  | m, i :: r => maxI (max m i) r
def joinS (sep : List Nat) : List (List Nat) → List Nat
  | [] => []
  | [x] => x
  | x :: r => x ++ sep ++ joinS sep r
def rng (a b : Int) : List Val := (List.range (b - a).toNat).map fun k => .int (a + (k : Nat))
def len : Val → Option Nat
  | .lst xs => some xs.length
  | .tup xs => some xs.length
  | .str l => if l.length ≤ cap then some l.length else none
  | .dct kvs => some kvs.length
  | .scr xs => some xs.length
  | _ => none
end EV
namespace EV
open PySem
/-! ### a small language -/
inductive Tg where
  | nm (i : Nat) | tp (ts : List Tg)
inductive Bl where
  | len | all | any | max | min | abs | int | divmod | tuple | list | str | repr | sorted
inductive Bm where
  | index | join | split
inductive Mu where
  | append | extend | update | setdefault
mutual
inductive Ex where
  | v (i : Nat) | g (x : String)
  | non | bl (b : Bool) | int (i : Int) | str (s : String)
  | tup (es : List Ex) | lst (es : List Ex) | star (e : Ex)
  | bin (o : Bin) (a b : Ex) | neg (a : Ex) | nt (a : Ex) | and (a b : Ex) | or (a b : Ex)
  | cmp (o : Cmp) (a b : Ex) | chain (o p : Cmp) (a b c : Ex)
  | ite (c a b : Ex)
  | idx (a i : Ex) | slc (a : Ex) (lo hi : Option Ex)
  | fld (a : Ex) (f : String) | prp (c p f : String) (a : Ex)
  | call (f : String) (es : List Ex) (ks : List String)
  | mk (c : String) (es : List Ex) (ks : List String)
  | mth (k c m : String) (a : Ex) (es : List Ex)
  | isi (a : Ex) (t : String)
  | blt (b : Bl) (es : List Ex)
  | bmt (a : Ex) (m : Bm) (es : List Ex)
  | lrg (e : Ex)
  | lc (ns : List Nat) (t : Tg) (it : Iter) (c : Option Ex) (e : Ex)
  | dc (ns : List Nat) (t : Tg) (it : Iter) (k e : Ex)
  | dct (ks es : List Ex)
  | ln (f c : String) (es : List Ex)
inductive Iter where
  | seq (e : Ex) | rng (e : Ex) | rng2 (a b : Ex) | rng3 (a b c : Ex) | enum (e : Ex) | zip (a b : Ex) | items (e : Ex)
end
inductive Sx where
  | pass
  | asg (t : Tg) (e : Ex)
  | par (is : List Nat) (es : List Ex)
  | aug (i : Nat) (e : Ex)
  | sub (i : Nat) (k e : Ex)
  | subp (i : Nat) (k : Ex) (j : Nat) (e : Ex)
  | mut (i : Nat) (m : Mu) (es : List Ex)
  | setf (i : Nat) (f : String) (e : Ex)
  | expr (e : Ex)
  | ret (e : Ex) | retN
  | ife (c : Ex) (a b : List Sx)
  | whl (c : Ex) (a : List Sx)
  | for_ (t : Tg) (it : Iter) (a : List Sx)
  | tri (a : List Sx) (cs : List String) (n : Option Nat) (b : List Sx)
  | rai (c : String) (es : List Ex) (hot : Bool)
structure Def where
  ps : List String
  n : Nat
  io : List Bool
  body : List Sx
/-- what is known of the text: defs (methods by Class.name), constants, external ones -/
structure Tab where
  fn : String → Option Def
  cst : String → Option Val
  ext : String → Option (List Slot → Option (Slot × List Slot))
  fld : String → String → Bool
  prp : String → String → String → Bool
  isc : String → Bool
/-- a call: the arguments, the result, what the parameters hold at the end -/
inductive Opd where
  | pl (i : Nat) | tm (v : Val)
def Opd.val (o : Opd) (ρ : Ro) : Option Val := match o with
  | .pl i => (ρ[i]?).bind Slot.val
  | .tm v => some v
/-- a place stays a place, all else becomes fixed -/
def opnd (e : Ex) (m : Ro → Res Slot) (ρ : Ro) : Res Opd := match e with
  | .v i => if ((ρ[i]?).bind Slot.val).isSome then pur (.pl i) ρ else none
  | _ => bnd (m ρ) fun r ρ' => match r with
    | .fz v => pur (.tm v) ρ'
    | .ow v => pur (.tm v) ρ'
    | .un => none
/-- a place is fixed from here on -/
def fixv (r : Slot) (ρ : Ro) : Res Val := match r with
  | .fz v => pur v ρ
  | .ow v => pur v ρ
  | .un => none
def slotAt (i : Nat) (ρ : Ro) : Res Slot := match ρ[i]? with
  | some (.fz v) => pur (.fz v) ρ
  | some (.ow v) => pur (.fz v) (ρ.set i (.fz v))
  | _ => none
def asBool (r : Slot) (ρ : Ro) : Res Bool := match r with
  | .fz (.bl b) => pur b ρ
  | _ => none
mutual
def assn : Tg → Slot → Ro → Option Ro
  | .nm i, r, ρ => if i < ρ.length then some (ρ.set i r) else none
  | .tp ts, r, ρ => match r with
    | .fz (.tup xs) => if xs.length = ts.length then assns ts xs ρ else none
    | _ => none
def assns : List Tg → List Val → Ro → Option Ro
  | [], _, ρ => some ρ
  | _ :: _, [], _ => none
  | t :: ts, x :: xs, ρ => (assn t (.fz x) ρ).bind (assns ts xs)
end
def wipeR (ρ : Ro) : List Nat → Ro
  | [] => ρ
  | i :: is => (wipeR ρ is).set i .un
mutual
def okB : PyData → Bool
  | .none => true
  | .bool _ => true
  | .int i => decide (i.natAbs.log2 < 1920)
  | .str x => x.cps.toList.all fun c => decide (c < 16 ^ 8)
  | .list xs => okBs xs
  | .tuple xs => okBs xs
  | .dict _ => false
def okBs : List PyData → Bool
  | [] => true
  | x :: xs => okB x && okBs xs
end
def reprOk (d : PyData) : Bool := okB d && decide (d.depth ≤ 60) && decide (GH.cost d ≤ 10000000)
/-- built-in functions of values -/
def bltF (b : Bl) (vs : List Val) : Option Slot := match b, vs with
  | .len, [v] => (len v).map fun n => .fz (.int (n : Nat))
  | .all, [.lst xs] => (allB xs).map fun bs => .fz (.bl (bs.all id))
  | .any, [.lst xs] => (allB xs).map fun bs => .fz (.bl (bs.any id))
  | .max, [.lst xs] => match allI xs with
    | some (i :: is) => some (.fz (.int (maxI i is)))
    | _ => none
  | .max, [.int i, .int j] => some (.fz (.int (if j > i then j else i)))
  | .min, [.int i, .int j] => some (.fz (.int (if j < i then j else i)))
  | .abs, [.int i] => some (.fz (.int (if i < 0 then -i else i)))
  | .int, [.int i] => some (.fz (.int i))
  | .int, [.bl b] => some (.fz (.int (if b then 1 else 0)))
  | .divmod, [.int i, .int j] => if 0 < j ∧ j < 2 ^ 30 then some (.fz (.tup [.int (i / j), .int (i % j)])) else none
  | .tuple, [.lst xs] => some (.fz (.tup xs))
  | .tuple, [.tup xs] => some (.fz (.tup xs))
  | .list, [.lst xs] => some (.ow (.lst xs))
  | .list, [.tup xs] => some (.ow (.lst xs))
  | .list, [.str l] => if l.length ≤ 100000 then some (.ow (.lst (l.map fun c => .str [c]))) else none
  | .list, [.dct kvs] => some (.ow (.lst (kvs.map (·.1))))
  | .repr, [v] => match toD v with
    | some d => if reprOk d then some (.fz (.str d.shown.cps.toList)) else none
    | none => none
  | _, _ => none
/-- methods of built-in values that change nothing -/
def bmtF (v : Val) (m : Bm) (vs : List Val) : Option Slot := match m, v, vs with
  | .index, .str l, [.str [c]] => if l.length ≤ cap then (if c ∈ l then some (.fz (.int (l.idxOf c : Nat))) else none) else none
  | .index, .lst xs, [y] => if shp y && shp (.lst xs) then (match xs.findIdx? fun z => eqv z y with
      | some j => some (.fz (.int (j : Nat)))
      | none => none) else none
  | .join, .str sep, [.lst xs] => match allS xs with
      | some ls => if (ls.map (·.length)).sum + ls.length * sep.length ≤ cap then some (.fz (.str (joinS sep ls))) else none
      | none => none
  | _, _, _ => none
/-- methods that change what stands at a place -/
def mutF (m : Mu) (v : Val) (vs : List Val) : Option Val := match m, v, vs with
  | .append, .lst xs, [y] => if xs.length < cap then some (.lst (xs ++ [y])) else none
  | .extend, .lst xs, [.lst ys] => if xs.length + ys.length < cap then some (.lst (xs ++ ys)) else none
  | .update, .dct kvs, [.dct more] => if kvs.length + more.length ≤ 1000 && more.all (fun p => keyOk p.1) && kvs.all (fun p => keyOk p.1) then some (.dct (more.foldl (fun a p => put a p.1 p.2) kvs)) else none
  | .setdefault, .dct kvs, [k, y] => if kvs.length < cap ∧ keyOk k = true ∧ fits kvs k = true then some (.dct (if (look kvs k).isSome then kvs else put kvs k y)) else none
  | _, _, _ => none
def putFs (f : String) (x : Val) : List (String × Val) → List (String × Val)
  | [] => [(f, x)]
  | (g, y) :: r => if g = f then (g, x) :: r else (g, y) :: putFs f x r
def mutK (m : Mu) (v : Val) : Bool := match m, v with
  | .append, .lst _ => true
  | .extend, .lst _ => true
  | .update, .dct _ => true
  | .setdefault, .dct _ => true
  | _, _ => false
def setF (v k x : Val) : Option Val := match v, k with
  | .lst xs, .int i => (ixN xs.length i).map fun j => .lst (xs.set j x)
  | .dct kvs, k => if kvs.length < cap ∧ dkey k = true ∧ fits kvs k = true then some (.dct (put kvs k x)) else none
  | _, _ => none
/-- the items that are walked -/
def itemsF (v : Val) : Option (List Val) := match v with
  | .lst xs => some xs
  | .tup xs => some xs
  | .str l => some (l.map fun c => .str [c])
  | .dct kvs => some (kvs.map (·.1))
  | _ => none
def itmF (v : Val) : Option (List Val) := match v with
  | .dct kvs => if kvs.all (fun p => keyOk p.1) && !kvs.isEmpty then some (kvs.map fun p => .tup [p.1, p.2]) else none
  | _ => none
def seqOf (v : Val) : Option (List Val) := match v with
  | .tup xs => some xs
  | .str l => some (l.map fun c => .str [c])
  | _ => none
def enumL (n : Nat) : List Val → List Val
  | [] => []
  | x :: r => .tup [.int (n : Nat), x] :: enumL (n + 1) r
def zipL : List Val → List Val → List Val
  | x :: r, y :: s => .tup [x, y] :: zipL r s
  | _, _ => []
def rngF : List Val → Option (List Val)
  | [.int n] => if -(cap : Int) ≤ n ∧ n ≤ cap then some (rng 0 n) else none
  | [.int a, .int b] => if -(cap : Int) ≤ a ∧ a ≤ cap ∧ -(cap : Int) ≤ b ∧ b ≤ cap then some (rng a b) else none
  | [.int a, .int b, .int c] => if 0 ≤ a ∧ a ≤ 1000 ∧ 0 ≤ b ∧ b ≤ 1000 ∧ 1 ≤ c ∧ c ≤ 1000 then some ((List.range ((b - a + c - 1) / c).toNat).map fun k => .int (a + (k : Nat) * c)) else none
  | _ => none
/-- isinstance: with a built-in type; of an instance: with its own class -/
def isiV (isc : String → Bool) (v : Val) (t : String) : Option Bool := match v with
  | .obj c _ => if c == t && isc t then some true else none
  | .dct _ => none
  | .scr _ => none
  | v => if ["bool", "int", "str", "tuple", "list"].contains t then some (isiF v t) else none
/-- keywords put the values in the parameters' order -/
def order (ps ks : List String) (vs : List Slot) : Option (List Slot) :=
  if ks = [] then some vs else
    ((ps.drop (vs.length - ks.length)).mapM fun p => (ks.zip (vs.drop (vs.length - ks.length))).lookup p).map fun ws => vs.take (vs.length - ks.length) ++ ws
/-! ### the walk -/
def clean (ns : List Nat) (ρ : Ro) : Bool := ns.all fun i => match ρ[i]? with
  | some (.ow _) => false
  | some _ => true
  | none => false
def lcLoop (f : Ro → Res (Option Val)) (t : Tg) (ns : List Nat) : List Val → Ro → Res (List Val)
  | [], ρ => pur [] ρ
  | x :: r, ρ => match assn t (.fz x) ρ with
    | some ρ1 => bnd (f ρ1) fun y ρ2 => bnd (lcLoop f t ns r (wipeR ρ2 ns)) fun ys ρ3 => pur (match y with
      | some v => v :: ys
      | none => ys) ρ3
    | none => none
def dcLoop (f : Ro → Res (Val × Val)) (t : Tg) (ns : List Nat) : List Val → Ro → List (Val × Val) → Res (List (Val × Val))
  | [], ρ, acc => pur acc ρ
  | x :: r, ρ, acc => match assn t (.fz x) ρ with
    | some ρ1 => bnd (f ρ1) fun y ρ2 => if keyOk y.1 && fits acc y.1 then dcLoop f t ns r (wipeR ρ2 ns) (put acc y.1 y.2) else none
    | none => none
/-- behind a block its own names are as they were -/
def unwipe (ns : List Nat) (ρ ρ' : Ro) : Ro := match ns with
  | [] => ρ'
  | i :: r => (unwipe r ρ ρ').set i ((ρ[i]?).getD .un)
/-- no error comes out -/
def quiet {α : Type} (m : Res α) : Res α := match m with
  | some (.ok a ρ) => some (.ok a ρ)
  | _ => none
/-- an argument: a place that the callee may change, a value, something new -/
inductive Arg where
  | io (i : Nat) | va (v : Val) | nw (v : Val)
def Arg.slot (ρ : Ro) : Arg → Option Slot
  | .io i => match ρ[i]? with
    | some (.ow v) => some (.ow v)
    | _ => none
  | .va v => some (.fz v)
  | .nw v => some (.ow v)
def putBack : List Arg → List Slot → Ro → Option Ro
  | [], _, ρ => some ρ
  | .io i :: r, .ow v :: s, ρ => (putBack r s ρ).map fun ρ' => ρ'.set i (.ow v)
  | .io _ :: _, _, _ => none
  | .va _ :: r, _ :: s, ρ => putBack r s ρ
  | .nw _ :: r, _ :: s, ρ => putBack r s ρ
  | _ :: _, [], _ => none
def Arg.isN : Arg → Bool
  | .nw _ => true
  | _ => false
def Arg.isAt (i : Nat) : Arg → Bool
  | .io j => i == j
  | _ => false
def ioNd : List Arg → Bool
  | [] => true
  | .io i :: r => !(r.any (Arg.isAt i)) && ioNd r
  | .nw _ :: r => !(r.any Arg.isN) && ioNd r
  | .va _ :: r => ioNd r
def finish (as : List Arg) (res : Res Slot) (ρ : Ro) : Res Slot := match res with
  | some (.ok r fin) => match putBack as fin ρ with
    | some ρ' => some (.ok r ρ')
    | none => none
  | some (.ex e fin) => match putBack as fin ρ with
    | some ρ' => some (.ex e ρ')
    | none => none
  | none => none
abbrev Cal := String → List Slot → Res Slot
def Arg.isV : Arg → Bool
  | .va _ => true
  | _ => false
def callF (cal : Cal) (ps : List String) (f : String) (ks : List String) (as : List Arg) (ρ : Ro) : Res Slot :=
  if ioNd as && (ks.isEmpty || as.all Arg.isV) then match (as.mapM (Arg.slot ρ)).bind (order ps ks) with
    | some args => finish as (cal f args) ρ
    | none => none
  else none
def asStr (s : String) : List Nat := (Str.ofString s).cps.toList
def ownAt (i : Nat) (ρ : Ro) : Option Val := match ρ[i]? with
  | some (.ow v) => some v
  | _ => none
def newArg (r : Slot) (ρ : Ro) : Res Arg := match r with
  | .ow v => pur (.nw v) ρ
  | _ => none
def Arg.isObj (ρ : Ro) (c m : String) : Arg → Bool
  | .io i => (match ownAt i ρ with
    | some (.obj c' fs) => c' == c && (fs.lookup m).isNone
    | _ => false)
  | .va (.obj c' fs) => c' == c && (fs.lookup m).isNone
  | _ => false
def argOf (io : Bool) (e : Ex) (m : Ro → Res Slot) (ρ : Ro) : Res Arg :=
  if io then (match e with
    | .v i => if (ownAt i ρ).isSome then pur (.io i) ρ else none
    | _ => bnd (m ρ) newArg)
  else bnd (m ρ) fun r ρ1 => bnd (fixv r ρ1) fun v ρ2 => pur (.va v) ρ2
def mkEnd (m : Res Slot) (ρ : Ro) : Res Slot := match m with
  | some (.ok (.fz .non) (.ow (.obj c fs) :: _)) => pur (.ow (.obj c fs)) ρ
  | some (.ex e _) => some (.ex e ρ)
  | _ => none
def byName (ps ks : List String) (vs : List Val) : Option (List Val) := ps.mapM fun p => (ks.zip vs).lookup p
/-- a call by names: nothing of ours is changed -/
def kwEnd (m : Res Slot) (ρ : Ro) : Res Slot := match m with
  | some (.ok r _) => some (.ok r ρ)
  | some (.ex e _) => some (.ex e ρ)
  | none => none
/-- what an own __len__ may give -/
def lenEnd (r : Slot) (ρ : Ro) : Res Slot := match r with
  | .fz (.int n) => if 0 ≤ n ∧ n < 2 ^ 63 then pur (.fz (.int n)) ρ else none
  | _ => none
section
variable (T : Tab) (cal mkc : Cal)
mutual
def evE : Ex → Ro → Res Slot
  | .v i, ρ => slotAt i ρ
  | .g x, ρ => match T.cst x with
    | some v => pur (.fz v) ρ
    | none => none
  | .non, ρ => pur (.fz .non) ρ
  | .bl b, ρ => pur (.fz (.bl b)) ρ
  | .int i, ρ => pur (.fz (.int i)) ρ
  | .str s, ρ => pur (.fz (.str (asStr s))) ρ
  | .tup es, ρ => bnd (evEs es ρ) fun vs ρ' => if vs.length ≤ cap then pur (.fz (.tup vs)) ρ' else none
  | .lst es, ρ => bnd (evEs es ρ) fun vs ρ' => if vs.length ≤ cap then pur (.ow (.lst vs)) ρ' else none
  | .star _, _ => none
  | .bin o a b, ρ => bnd (opnd a (evE a) ρ) fun x ρ1 => bnd (opnd b (evE b) ρ1) fun y ρ2 => lift ((x.val ρ2).bind fun u => (y.val ρ2).bind (binF o u)) ρ2
  | .neg a, ρ => bnd (evE a ρ) fun r ρ1 => match r with
    | .fz (.int i) => pur (.fz (.int (-i))) ρ1
    | _ => none
  | .nt a, ρ => bnd (evE a ρ) fun r ρ1 => bnd (asBool r ρ1) fun b ρ2 => pur (.fz (.bl (!b))) ρ2
  | .and a b, ρ => bnd (evE a ρ) fun r ρ1 => bnd (asBool r ρ1) fun c ρ2 => if c then evE b ρ2 else pur (.fz (.bl false)) ρ2
  | .or a b, ρ => bnd (evE a ρ) fun r ρ1 => bnd (asBool r ρ1) fun c ρ2 => if c then pur (.fz (.bl true)) ρ2 else evE b ρ2
  | .cmp o a b, ρ => bnd (opnd a (evE a) ρ) fun x ρ1 => bnd (opnd b (evE b) ρ1) fun y ρ2 => lift (((x.val ρ2).bind fun u => (y.val ρ2).bind (cmpF o u)).map fun c => .fz (.bl c)) ρ2
  | .chain o p a b c, ρ => bnd (opnd a (evE a) ρ) fun x ρ1 => bnd (opnd b (evE b) ρ1) fun y ρ2 => match (x.val ρ2).bind fun u => (y.val ρ2).bind (cmpF o u) with
    | some true => bnd (opnd c (evE c) ρ2) fun z ρ3 => lift (((y.val ρ3).bind fun u => (z.val ρ3).bind (cmpF p u)).map fun c => .fz (.bl c)) ρ3
    | some false => pur (.fz (.bl false)) ρ2
    | none => none
  | .ite c a b, ρ => bnd (evE c ρ) fun r ρ1 => bnd (asBool r ρ1) fun d ρ2 => if d then evE a ρ2 else evE b ρ2
  | .idx a i, ρ => bnd (opnd a (evE a) ρ) fun x ρ1 => bnd (opnd i (evE i) ρ1) fun y ρ2 => lift (((x.val ρ2).bind fun u => (y.val ρ2).bind (idxF u)).map .fz) ρ2
  | .slc a lo hi, ρ => bnd (opnd a (evE a) ρ) fun x ρ1 => bnd (evOp lo ρ1) fun l ρ2 => bnd (evOp hi ρ2) fun h ρ3 => lift ((x.val ρ3).bind fun u => slcF u l h) ρ3
  | .fld a f, ρ => bnd (opnd a (evE a) ρ) fun x ρ1 => lift (((x.val ρ1).bind fun u => match u with
    | .obj c fs => if T.fld c f then fs.lookup f else none
    | _ => none).map .fz) ρ1
  | .prp c p f a, ρ => bnd (opnd a (evE a) ρ) fun x ρ1 => lift (((x.val ρ1).bind fun u => match u with
    | .obj c' fs => if c' = c ∧ T.prp c p f = true then fs.lookup f else none
    | _ => none).map .fz) ρ1
  | .call f es ks, ρ => match T.fn f with
    | some d => (match ks with
      | [] => bnd (evAs d.io es ρ) fun as ρ1 => callF cal d.ps f [] as ρ1
      | ks => bnd (evEs es ρ) fun vs ρ1 => if vs.length = ks.length then (match byName d.ps ks vs with
        | some ws => kwEnd (cal f (ws.map .fz)) ρ1
        | none => none) else none)
    | none => none
  | .mk c es ks, ρ => match T.fn (c ++ ".__init__") with
    | some d => bnd (evEs es ρ) fun vs ρ1 => (match ks with
      | [] => mkEnd (mkc (c ++ ".__init__") (.ow (.obj c []) :: vs.map .fz)) ρ1
      | ks => if vs.length = ks.length then (match byName (d.ps.drop 1) ks vs with
        | some ws => mkEnd (mkc (c ++ ".__init__") (.ow (.obj c []) :: ws.map .fz)) ρ1
        | none => none) else none)
    | none => none
  | .mth k c m a es, ρ => match T.fn k with
    | some d => bnd (argOf (d.io.getD 0 false) a (evE a) ρ) fun r ρ0 => if !r.isObj ρ0 c m then none else bnd (evAs (d.io.drop 1) es ρ0) fun as ρ1 => callF cal d.ps k [] (r :: as) ρ1
    | none => none
  | .isi a t, ρ => bnd (opnd a (evE a) ρ) fun x ρ1 => lift (((x.val ρ1).bind fun u => isiV T.isc u t).map fun b => .fz (.bl b)) ρ1
  | .blt b es, ρ => match es with
    | [a] => bnd (opnd a (evE a) ρ) fun x ρ1 => lift ((x.val ρ1).bind fun u => bltF b [u]) ρ1
    | es => bnd (evEs es ρ) fun vs ρ1 => lift (bltF b vs) ρ1
  | .bmt a m es, ρ => bnd (opnd a (evE a) ρ) fun x ρ1 => bnd (evEs es ρ1) fun vs ρ2 => lift ((x.val ρ2).bind fun u => bmtF u m vs) ρ2
  | .lrg e, ρ => bnd (evE e ρ) fun r ρ1 => bnd (fixv r ρ1) fun v ρ2 => lift ((rngF [v]).map fun xs => .ow (.lst xs)) ρ2
  | .lc ns t it c e, ρ => bnd (evIt it ρ) fun xs ρ1 => if xs.length ≤ cap ∧ clean ns ρ1 = true then
      bnd (quiet (lcLoop (fun ρ => bnd (evC c ρ) fun b ρ' => if b then bnd (evE e ρ') fun r ρ2 => bnd (fixv r ρ2) fun v ρ3 => pur (some v) ρ3 else pur none ρ') t ns xs (wipeR ρ1 ns))) fun ys ρ2 => pur (.ow (.lst ys)) (unwipe ns ρ1 ρ2)
    else none
  | .dc ns t it k e, ρ => bnd (evIt it ρ) fun xs ρ1 => if xs.length ≤ cap ∧ clean ns ρ1 = true then
      bnd (quiet (dcLoop (fun ρ => bnd (evE k ρ) fun r ρ2 => bnd (fixv r ρ2) fun a ρ3 => bnd (evE e ρ3) fun q ρ4 => bnd (fixv q ρ4) fun v ρ5 => pur (a, v) ρ5) t ns xs (wipeR ρ1 ns) [])) fun ys ρ2 => pur (.ow (.dct ys)) (unwipe ns ρ1 ρ2)
    else none
  | .dct ks es, ρ => match ks, es with
    | [], [] => pur (.ow (.dct [])) ρ
    | [k], [e] => bnd (evE k ρ) fun r ρ1 => bnd (fixv r ρ1) fun a ρ2 => bnd (evE e ρ2) fun q ρ3 => bnd (fixv q ρ3) fun v ρ4 => if keyOk a then pur (.ow (.dct [(a, v)])) ρ4 else none
    | _, _ => none
  | .ln f c es, ρ => match T.fn f with
    | some d => bnd (evAs d.io es ρ) fun as ρ1 => if !(as.all (Arg.isObj ρ1 c "__len__")) then none else bnd (callF mkc d.ps f [] as ρ1) lenEnd
    | none => none
def evOp : Option Ex → Ro → Res (Option Int)
  | none, ρ => pur none ρ
  | some e, ρ => bnd (evE e ρ) fun r ρ1 => match r with
    | .fz (.int i) => pur (some i) ρ1
    | _ => none
def evC : Option Ex → Ro → Res Bool
  | none, ρ => pur true ρ
  | some e, ρ => bnd (evE e ρ) asBool
def evEs : List Ex → Ro → Res (List Val)
  | [], ρ => pur [] ρ
  | e :: r, ρ => match e with
    | .star a => bnd (evE a ρ) fun q ρ1 => bnd (fixv q ρ1) fun v ρ2 => match v with
      | .lst xs => bnd (evEs r ρ2) fun vs ρ3 => pur (xs ++ vs) ρ3
      | .tup xs => bnd (evEs r ρ2) fun vs ρ3 => pur (xs ++ vs) ρ3
      | _ => none
    | e => bnd (evE e ρ) fun q ρ1 => bnd (fixv q ρ1) fun v ρ2 => bnd (evEs r ρ2) fun vs ρ3 => pur (v :: vs) ρ3
def evAs : List Bool → List Ex → Ro → Res (List Arg)
  | _, [], ρ => pur [] ρ
  | io, e :: r, ρ => bnd (argOf (io.getD 0 false) e (evE e) ρ) fun a ρ1 => if a.isN && !r.isEmpty then none else bnd (evAs (io.drop 1) r ρ1) fun as ρ2 => pur (a :: as) ρ2
def evIt : Iter → Ro → Res (List Val)
  | .seq e, ρ => bnd (evE e ρ) fun r ρ1 => bnd (fixv r ρ1) fun v ρ2 => lift (itemsF v) ρ2
  | .rng e, ρ => bnd (evE e ρ) fun r ρ1 => bnd (fixv r ρ1) fun v ρ2 => lift (rngF [v]) ρ2
  | .rng2 a b, ρ => bnd (evE a ρ) fun r ρ1 => bnd (fixv r ρ1) fun u ρ2 => bnd (evE b ρ2) fun q ρ3 => bnd (fixv q ρ3) fun w ρ4 => lift (rngF [u, w]) ρ4
  | .rng3 a b c, ρ => bnd (evE a ρ) fun r ρ1 => bnd (fixv r ρ1) fun u ρ2 => bnd (evE b ρ2) fun q ρ3 => bnd (fixv q ρ3) fun w ρ4 => bnd (evE c ρ4) fun s ρ5 => bnd (fixv s ρ5) fun z ρ6 => lift (rngF [u, w, z]) ρ6
  | .enum e, ρ => bnd (evE e ρ) fun r ρ1 => bnd (fixv r ρ1) fun v ρ2 => lift ((seqOf v).map (enumL 0)) ρ2
  | .zip a b, ρ => bnd (evE a ρ) fun r ρ1 => bnd (fixv r ρ1) fun u ρ2 => bnd (evE b ρ2) fun q ρ3 => bnd (fixv q ρ3) fun w ρ4 => lift ((seqOf u).bind fun xs => (seqOf w).map (zipL xs)) ρ4
  | .items e, ρ => bnd (evE e ρ) fun r ρ1 => bnd (fixv r ρ1) fun v ρ2 => lift (itmF v) ρ2
end
theorem evE_v (i : Nat) (ρ : Ro) : evE T cal mkc (.v i) ρ = slotAt i ρ := rfl
inductive Fl where
  | nx | rt (r : Slot)
def forF (body : Ro → Res Fl) (t : Tg) : List Val → Ro → Res Fl
  | [], ρ => pur .nx ρ
  | x :: r, ρ => match assn t (.fz x) ρ with
    | some ρ1 => bnd (body ρ1) fun f ρ2 => (match f with
      | .nx => forF body t r ρ2
      | .rt q => pur (.rt q) ρ2)
    | none => none
def whlF (test : Ro → Res Bool) (body : Ro → Res Fl) : Nat → Ro → Res Fl
  | 0, _ => none
  | n + 1, ρ => bnd (test ρ) fun b ρ1 => if b then bnd (body ρ1) fun f ρ2 => (match f with
      | .nx => whlF test body n ρ2
      | .rt q => pur (.rt q) ρ2) else pur .nx ρ1
def fuel : Nat := 1000000
def evSl : List Ex → Ro → Res (List Slot)
  | [], ρ => pur [] ρ
  | e :: r, ρ => bnd (evE T cal mkc e ρ) fun q ρ1 => bnd (evSl r ρ1) fun qs ρ2 => pur (q :: qs) ρ2
def setAll : List Nat → List Slot → Ro → Option Ro
  | [], [], ρ => some ρ
  | i :: is, r :: rs, ρ => if i < ρ.length then setAll is rs (ρ.set i r) else none
  | _, _, _ => none
mutual
def evS : Sx → Ro → Res Fl
  | .pass, ρ => pur .nx ρ
  | .asg t e, ρ => bnd (evE T cal mkc e ρ) fun r ρ1 => match t with
    | .nm i => (match assn (.nm i) r ρ1 with
      | some ρ2 => pur .nx ρ2
      | none => none)
    | t => bnd (fixv r ρ1) fun v ρ2 => (match assn t (.fz v) ρ2 with
      | some ρ3 => pur .nx ρ3
      | none => none)
  | .par is es, ρ => bnd (evSl T cal mkc es ρ) fun rs ρ1 => match setAll is rs ρ1 with
    | some ρ2 => pur .nx ρ2
    | none => none
  | .aug i e, ρ => if !((ρ[i]?).bind Slot.val).isSome then none else bnd (opnd e (evE T cal mkc e) ρ) fun y ρ1 => match ((ρ1[i]?).bind Slot.val).bind fun u => (y.val ρ1).bind (binF .add u) with
    | some (.fz (.int n)) => pur .nx (ρ1.set i (.fz (.int n)))
    | some (.fz (.str l)) => pur .nx (ρ1.set i (.fz (.str l)))
    | _ => none
  | .sub i k e, ρ => bnd (evE T cal mkc e ρ) fun r ρ1 => bnd (fixv r ρ1) fun x ρ2 => if !(ownAt i ρ2).isSome then none else bnd (opnd k (evE T cal mkc k) ρ2) fun y ρ3 =>
      match (ownAt i ρ3).bind fun u => (y.val ρ3).bind fun w => setF u w x with
      | some v => pur .nx (ρ3.set i (.ow v))
      | none => none
  | .subp i k j e, ρ => bnd (evE T cal mkc e ρ) fun r ρ1 => match r with
    | .fz (.tup [x, y]) => if !(ownAt i ρ1).isSome then none else bnd (opnd k (evE T cal mkc k) ρ1) fun z ρ2 => (match (ownAt i ρ2).bind fun u => (z.val ρ2).bind fun w => setF u w x with
      | some v => if j < ρ2.length ∧ i ≠ j then pur .nx ((ρ2.set i (.ow v)).set j (.fz y)) else none
      | none => none)
    | _ => none
  | .mut i m es, ρ => if !((ownAt i ρ).map (mutK m)).getD false then none else bnd (evEs T cal mkc es ρ) fun vs ρ1 => match (ownAt i ρ1).bind fun u => mutF m u vs with
    | some v => pur .nx (ρ1.set i (.ow v))
    | none => none
  | .setf i f e, ρ => bnd (evE T cal mkc e ρ) fun r ρ1 => bnd (fixv r ρ1) fun x ρ2 => match ownAt i ρ2 with
    | some (.obj c fs) => if fs.length < 20 ∧ T.fld c f = true then pur .nx (ρ2.set i (.ow (.obj c (putFs f x fs)))) else none
    | _ => none
  | .expr e, ρ => bnd (evE T cal mkc e ρ) fun _ ρ1 => pur .nx ρ1
  | .ret e, ρ => match e with
    | .v i => (match ρ[i]? with
      | some (.ow v) => pur (.rt (.ow v)) (ρ.set i .un)
      | some (.fz v) => pur (.rt (.fz v)) ρ
      | _ => none)
    | e => bnd (evE T cal mkc e ρ) fun r ρ1 => pur (.rt r) ρ1
  | .retN, ρ => pur (.rt (.fz .non)) ρ
  | .ife c a b, ρ => bnd (evE T cal mkc c ρ) fun r ρ1 => bnd (asBool r ρ1) fun d ρ2 => if d then evSs a ρ2 else evSs b ρ2
  | .whl c a, ρ => whlF (fun ρ => bnd (evE T cal mkc c ρ) asBool) (evSs a) fuel ρ
  | .for_ t it a, ρ => bnd (evIt T cal mkc it ρ) fun xs ρ1 => if xs.length ≤ cap then forF (evSs a) t xs ρ1 else none
  | .tri a cs n b, ρ => quiet (evSs a ρ)
  | .rai _ _ _, _ => none
def evSs : List Sx → Ro → Res Fl
  | [], ρ => pur .nx ρ
  | s :: r, ρ => bnd (evS s ρ) fun f ρ1 => (match f with
    | .nx => evSs r ρ1
    | .rt q => pur (.rt q) ρ1)
end
end
def sameKind : List Slot → List Bool → Bool
  | [], _ => true
  | .fz _ :: r, io => !io.getD 0 false && sameKind r (io.drop 1)
  | .ow _ :: r, io => io.getD 0 false && sameKind r (io.drop 1)
  | .un :: _, _ => false
/-- what came in to be changed is still there -/
def keptIo : List Slot → List Slot → Bool
  | [], _ => true
  | .ow _ :: r, .ow _ :: s => keptIo r s
  | .fz _ :: r, _ :: s => keptIo r s
  | _ :: _, _ => false
def endF (args : List Slot) (n : Nat) (m : Res Fl) : Res Slot := match m with
  | some (.ok (.rt r) ρ) => if keptIo args (ρ.take n) then some (.ok r (ρ.take n)) else none
  | some (.ok .nx ρ) => if keptIo args (ρ.take n) then some (.ok (.fz .non) (ρ.take n)) else none
  | some (.ex e ρ) => if keptIo args (ρ.take n) then some (.ex e (ρ.take n)) else none
  | none => none
def evB (T : Tab) (cal mkc : Cal) : Cal := fun f args => match T.ext f with
  | some g => (match g args with
    | some (r, fin) => some (.ok r fin)
    | none => none)
  | none => match T.fn f with
    | none => none
    | some d => if args.length = d.ps.length ∧ d.ps.length ≤ d.n ∧ sameKind args d.io = true then endF args d.ps.length (evSs T cal mkc d.body (args ++ List.replicate (d.n - d.ps.length) .un)) else none
def ev2 (T : Tab) : Nat → Cal × Cal
  | 0 => (fun _ _ => none, fun _ _ => none)
  | k + 1 => (evB T (ev2 T k).1 (ev2 T k).2, (ev2 T k).1)
def evF (T : Tab) (k : Nat) : Cal := (ev2 T k).1
end EV
namespace EV
open PySem PySem.Spec PyProof.Rows L2
abbrev Ex' (F H : Hp) : Prop := ∀ a o, F a = some o → H a = some o
theorem Ex'.refl (H : Hp) : Ex' H H := fun _ _ h => h
theorem Ex'.trans {A B C : Hp} (a : Ex' A B) (b : Ex' B C) : Ex' A C := fun x o h => b x o (a x o h)
theorem Ex'.new {H : Hp} {p : Addr} {o : HO} (h : H p = none) : Ex' H (upd H p o) := fun a u e => by
  rw [upd_ne (ne_of_none e h)]; exact e
theorem Ex'.sqL {K : PySem.W.Frag} {F H : Hp} {a : Addr} {xs : List V} (e : Ex' F H) (h : SqL K F a xs) : SqL K H a xs := by
  rcases h with (h | ⟨o, h⟩) | h
  · exact .inl (.inl (e _ _ h))
  · exact .inl (.inr ⟨o, e _ _ h⟩)
  · exact .inr h
theorem Ex'.sqT {K : PySem.W.Frag} {F H : Hp} {a : Addr} {xs : List V} (e : Ex' F H) (h : SqT K F a xs) : SqT K H a xs := by
  rcases h with (h | ⟨o, h⟩) | h
  · exact .inl (.inl (e _ _ h))
  · exact .inl (.inr ⟨o, e _ _ h⟩)
  · exact .inr h
theorem Ex'.rd {F H : Hp} {a : Addr} {u : HO} (e : Ex' F H) (h : Rd F a u) : Rd H a u := by
  rcases h with h | ⟨o, h⟩
  · exact .inl (e _ _ h)
  · exact .inr ⟨o, e _ _ h⟩
def toS (l : List Nat) : Str := ⟨l.toArray⟩
/-- a key of a dict -/
def keyV : Key → Val
  | .inl i => .int i
  | .inr x => .str x.cps.toList
mutual
inductive Rep (K : PySem.W.Frag) (mg : Str → Option Value) (F : Hp) : V → Val → Prop
  | non : Rep K mg F .non .non
  | bl (b : Bool) : Rep K mg F (.bl b) (.bl b)
  | int (i : Int) : Rep K mg F (.int i) (.int i)
  | str (l : List Nat) : Rep K mg F (.str (toS l)) (.str l)
  | lst {a : Addr} {xs : List V} {vs : List Val} : F a = some (.lst xs) → Reps K mg F xs vs → Rep K mg F (.ref a) (.lst vs)
  | scr {a : Addr} {ns : List Int} : SqL K F a (ns.map V.int) → Rep K mg F (.ref a) (.scr ns)
  | tup {a : Addr} {xs : List V} {vs : List Val} : F a = some (.tup xs) → Reps K mg F xs vs → Rep K mg F (.ref a) (.tup vs)
  | wtp {a : Addr} {zs : List (List Nat)} : SqT K F a (zs.map fun l => V.str (toS l)) → Rep K mg F (.ref a) (.wtp zs)
  | dk {a : Addr} {o : Obj} {ks : List (Key × V)} {kvs : List (Val × Val)} : F a = some (.frz o (.dK ks)) → RepK K mg F ks kvs → Rep K mg F (.ref a) (.dct kvs)
  | dt {a : Addr} {o : Obj} {ks : List (List Key × V)} {kvs : List (Val × Val)} : F a = some (.frz o (.dT ks)) → RepT K mg F ks kvs → Rep K mg F (.ref a) (.dct kvs)
  | obj {a dx : Addr} {c : String} {xs : List (Str × V)} {fs : List (String × Val)} : F a = some (.ins (GH.clsA mg (Str.ofString c)) dx xs) → RepF K mg F xs fs → Rep K mg F (.ref a) (.obj c fs)
inductive Reps (K : PySem.W.Frag) (mg : Str → Option Value) (F : Hp) : List V → List Val → Prop
  | nil : Reps K mg F [] []
  | cons {x : V} {xs : List V} {v : Val} {vs : List Val} : Rep K mg F x v → Reps K mg F xs vs → Reps K mg F (x :: xs) (v :: vs)
inductive RepK (K : PySem.W.Frag) (mg : Str → Option Value) (F : Hp) : List (Key × V) → List (Val × Val) → Prop
  | nil : RepK K mg F [] []
  | cons {k : Key} {x : V} {ks : List (Key × V)} {v : Val} {kvs : List (Val × Val)} : Rep K mg F x v → RepK K mg F ks kvs → RepK K mg F ((k, x) :: ks) ((keyV k, v) :: kvs)
inductive RepT (K : PySem.W.Frag) (mg : Str → Option Value) (F : Hp) : List (List Key × V) → List (Val × Val) → Prop
  | nil : RepT K mg F [] []
  | cons {k : List Key} {x : V} {ks : List (List Key × V)} {v : Val} {kvs : List (Val × Val)} : Rep K mg F x v → RepT K mg F ks kvs → RepT K mg F ((k, x) :: ks) ((.tup (k.map keyV), v) :: kvs)
inductive RepF (K : PySem.W.Frag) (mg : Str → Option Value) (F : Hp) : List (Str × V) → List (String × Val) → Prop
  | nil : RepF K mg F [] []
  | cons {f : String} {x : V} {xs : List (Str × V)} {v : Val} {fs : List (String × Val)} : Rep K mg F x v → RepF K mg F xs fs → RepF K mg F ((Str.ofString f, x) :: xs) ((f, v) :: fs)
end
section
variable {K : PySem.W.Frag} {mg : Str → Option Value} {F F' H : Hp}
mutual
theorem Rep.mono (e : Ex' F F') : ∀ {x : V} {v : Val}, Rep K mg F x v → Rep K mg F' x v
  | _, _, .non => .non
  | _, _, .bl b => .bl b
  | _, _, .int i => .int i
  | _, _, .str l => .str l
  | _, _, .lst s r => .lst (e _ _ s) (Reps.mono e r)
  | _, _, .scr s => .scr (e.sqL s)
  | _, _, .tup s r => .tup (e _ _ s) (Reps.mono e r)
  | _, _, .wtp s => .wtp (e.sqT s)
  | _, _, .dk s r => .dk (e _ _ s) (RepK.mono e r)
  | _, _, .dt s r => .dt (e _ _ s) (RepT.mono e r)
  | _, _, .obj s r => .obj (e _ _ s) (RepF.mono e r)
theorem Reps.mono (e : Ex' F F') : ∀ {xs : List V} {vs : List Val}, Reps K mg F xs vs → Reps K mg F' xs vs
  | _, _, .nil => .nil
  | _, _, .cons a b => .cons (Rep.mono e a) (Reps.mono e b)
theorem RepK.mono (e : Ex' F F') : ∀ {xs : List (Key × V)} {vs : List (Val × Val)}, RepK K mg F xs vs → RepK K mg F' xs vs
  | _, _, .nil => .nil
  | _, _, .cons a b => .cons (Rep.mono e a) (RepK.mono e b)
theorem RepT.mono (e : Ex' F F') : ∀ {xs : List (List Key × V)} {vs : List (Val × Val)}, RepT K mg F xs vs → RepT K mg F' xs vs
  | _, _, .nil => .nil
  | _, _, .cons a b => .cons (Rep.mono e a) (RepT.mono e b)
theorem RepF.mono (e : Ex' F F') : ∀ {xs : List (Str × V)} {vs : List (String × Val)}, RepF K mg F xs vs → RepF K mg F' xs vs
  | _, _, .nil => .nil
  | _, _, .cons a b => .cons (Rep.mono e a) (RepF.mono e b)
end
theorem Reps.length : ∀ {xs : List V} {vs : List Val}, Reps K mg F xs vs → xs.length = vs.length
  | _, _, .nil => rfl
  | _, _, .cons _ b => by simp [Reps.length b]
theorem Reps.get : ∀ {xs : List V} {vs : List Val} {i : Nat} {v : Val}, Reps K mg F xs vs → vs[i]? = some v → ∃ x, xs[i]? = some x ∧ Rep K mg F x v
  | _, _, _, _, .nil, e => by simp at e
  | _, _, 0, _, .cons a _, e => by simp at e; subst e; exact ⟨_, rfl, a⟩
  | _, _, i + 1, v, .cons _ b, e => by
    obtain ⟨x, h1, h2⟩ := Reps.get (i := i) (v := v) b (by simpa using e)
    exact ⟨x, by simpa using h1, h2⟩
theorem Reps.get' : ∀ {xs : List V} {vs : List Val} {i : Nat} {x : V}, Reps K mg F xs vs → xs[i]? = some x → ∃ v, vs[i]? = some v ∧ Rep K mg F x v
  | _, _, _, _, .nil, e => by simp at e
  | _, _, 0, _, .cons a _, e => by simp at e; subst e; exact ⟨_, rfl, a⟩
  | _, _, i + 1, x, .cons _ b, e => by
    obtain ⟨v, h1, h2⟩ := Reps.get' (i := i) (x := x) b (by simpa using e)
    exact ⟨v, by simpa using h1, h2⟩
theorem Reps.app : ∀ {xs ys : List V} {vs ws : List Val}, Reps K mg F xs vs → Reps K mg F ys ws → Reps K mg F (xs ++ ys) (vs ++ ws)
  | _, _, _, _, .nil, b => b
  | _, _, _, _, .cons a r, b => .cons a (Reps.app r b)
theorem Reps.take : ∀ {xs : List V} {vs : List Val} (n : Nat), Reps K mg F xs vs → Reps K mg F (xs.take n) (vs.take n)
  | _, _, 0, _ => .nil
  | _, _, _ + 1, .nil => .nil
  | _, _, n + 1, .cons a r => .cons a (Reps.take n r)
theorem Reps.drop : ∀ {xs : List V} {vs : List Val} (n : Nat), Reps K mg F xs vs → Reps K mg F (xs.drop n) (vs.drop n)
  | _, _, 0, r => r
  | _, _, _ + 1, .nil => .nil
  | _, _, n + 1, .cons a r => Reps.drop n r
theorem Reps.set : ∀ {xs : List V} {vs : List Val} (n : Nat) {x : V} {v : Val}, Reps K mg F xs vs → Rep K mg F x v → Reps K mg F (xs.set n x) (vs.set n v)
  | _, _, _, _, _, .nil, _ => .nil
  | _, _, 0, _, _, .cons a r, q => .cons q r
  | _, _, n + 1, _, _, .cons a r, q => .cons a (Reps.set n r q)
/-- what is read now: the thing itself in H, its parts fixed -/
inductive RepB (K : PySem.W.Frag) (mg : Str → Option Value) (F H : Hp) : V → Val → Prop
  | non : RepB K mg F H .non .non
  | bl (b : Bool) : RepB K mg F H (.bl b) (.bl b)
  | int (i : Int) : RepB K mg F H (.int i) (.int i)
  | str (l : List Nat) : RepB K mg F H (.str (toS l)) (.str l)
  | lst {a : Addr} {xs : List V} {vs : List Val} : H a = some (.lst xs) → Reps K mg F xs vs → RepB K mg F H (.ref a) (.lst vs)
  | scr {a : Addr} {ns : List Int} : SqL K H a (ns.map V.int) → RepB K mg F H (.ref a) (.scr ns)
  | tup {a : Addr} {xs : List V} {vs : List Val} : F a = some (.tup xs) → Reps K mg F xs vs → RepB K mg F H (.ref a) (.tup vs)
  | wtp {a : Addr} {zs : List (List Nat)} : SqT K F a (zs.map fun l => V.str (toS l)) → RepB K mg F H (.ref a) (.wtp zs)
  | dk {a : Addr} {ks : List (Key × V)} {kvs : List (Val × Val)} : Rd H a (.dK ks) → RepK K mg F ks kvs → RepB K mg F H (.ref a) (.dct kvs)
  | dt {a : Addr} {ks : List (List Key × V)} {kvs : List (Val × Val)} : Rd H a (.dT ks) → RepT K mg F ks kvs → RepB K mg F H (.ref a) (.dct kvs)
  | obj {a dx : Addr} {c : String} {xs : List (Str × V)} {fs : List (String × Val)} : H a = some (.ins (GH.clsA mg (Str.ofString c)) dx xs) → RepF K mg F xs fs → RepB K mg F H (.ref a) (.obj c fs)
theorem Rep.b (e : Ex' F H) : ∀ {x : V} {v : Val}, Rep K mg F x v → RepB K mg F H x v
  | _, _, .non => .non
  | _, _, .bl b => .bl b
  | _, _, .int i => .int i
  | _, _, .str l => .str l
  | _, _, .lst s r => .lst (e _ _ s) r
  | _, _, .scr s => .scr (e.sqL s)
  | _, _, .tup s r => .tup s r
  | _, _, .wtp s => .wtp s
  | _, _, .dk s r => .dk (.inr ⟨_, e _ _ s⟩) r
  | _, _, .dt s r => .dt (.inr ⟨_, e _ _ s⟩) r
  | _, _, .obj s r => .obj (e _ _ s) r
/-- a place's own thing -/
inductive Own (K : PySem.W.Frag) (mg : Str → Option Value) (F H : Hp) (a : Addr) : Val → Prop
  | lst {xs : List V} {vs : List Val} : F a = none → H a = some (.lst xs) → Reps K mg F xs vs → Own K mg F H a (.lst vs)
  | dk {ks : List (Key × V)} {kvs : List (Val × Val)} : F a = none → H a = some (.dK ks) → RepK K mg F ks kvs → Own K mg F H a (.dct kvs)
  | dt {ks : List (List Key × V)} {kvs : List (Val × Val)} : F a = none → H a = some (.dT ks) → RepT K mg F ks kvs → Own K mg F H a (.dct kvs)
  | obj {dx : Addr} {c : String} {xs : List (Str × V)} {fs : List (String × Val)} : F a = none → H a = some (.ins (GH.clsA mg (Str.ofString c)) dx xs) → RepF K mg F xs fs → Own K mg F H a (.obj c fs)
theorem Own.b {a : Addr} {v : Val} (o : Own K mg F H a v) : RepB K mg F H (.ref a) v := by
  cases o with
  | lst n h r => exact .lst h r
  | dk n h r => exact .dk (.inl h) r
  | dt n h r => exact .dt (.inl h) r
  | obj n h r => exact .obj h r
theorem Own.no {a : Addr} {v : Val} (o : Own K mg F H a v) : F a = none := by
  cases o <;> assumption
theorem Own.at {a : Addr} {v : Val} (o : Own K mg F H a v) : ∃ u, H a = some u ∧ ∀ xs, u ≠ .tup xs := by
  cases o with
  | lst n h r => exact ⟨_, h, fun _ z => by cases z⟩
  | dk n h r => exact ⟨_, h, fun _ z => by cases z⟩
  | dt n h r => exact ⟨_, h, fun _ z => by cases z⟩
  | obj n h r => exact ⟨_, h, fun _ z => by cases z⟩
theorem Own.keep {H' : Hp} {a : Addr} {v : Val} (o : Own K mg F H a v) (e : Ex' F F') (n' : F' a = none) (h' : H' a = H a) : Own K mg F' H' a v := by
  cases o with
  | lst n h r => exact .lst n' (h'.trans h) (r.mono e)
  | dk n h r => exact .dk n' (h'.trans h) (r.mono e)
  | dt n h r => exact .dt n' (h'.trans h) (r.mono e)
  | obj n h r => exact .obj n' (h'.trans h) (r.mono e)
end
/-! ### the state -/
structure Abs (K : PySem.W.Frag) (mg : Str → Option Value) (G Z F : Hp) (σ : L2.St) (H : Hp) (ρ : Ro) : Prop where
  sub : Ex' F H
  bg : Ex' G H
  f0 : Ex' Z F
  nw : ∀ a o, F a = some o → Z a = some o ∨ G a = none ∨ ∃ xs, o = .tup xs
  len : ρ.length = σ.length
  fz : ∀ (i : Nat) v, ρ[i]? = some (.fz v) → ∃ x, σ[i]? = some (some x) ∧ Rep K mg F x v
  ow : ∀ (i : Nat) v, ρ[i]? = some (.ow v) → ∃ a, σ[i]? = some (some (.ref a)) ∧ G a = none ∧ Own K mg F H a v
  ap : ∀ (i j : Nat) a v w, i ≠ j → ρ[i]? = some (.ow v) → ρ[j]? = some (.ow w) → σ[i]? = some (some (.ref a)) → σ[j]? ≠ some (some (.ref a))
/-- nobody's: not a place's own -/
def Lone (σ : L2.St) (ρ : Ro) (a : Addr) : Prop := ∀ (i : Nat) w, ρ[i]? = some (.ow w) → σ[i]? ≠ some (some (.ref a))
def ResR (K : PySem.W.Frag) (mg : Str → Option Value) (G F : Hp) (σ : L2.St) (H : Hp) (ρ : Ro) (x : V) : Slot → Prop
  | .fz v => Rep K mg F x v
  | .ow v => ∃ a, x = .ref a ∧ G a = none ∧ Own K mg F H a v ∧ Lone σ ρ a
  | .un => False
section
variable {K : PySem.W.Frag} {mg : Str → Option Value} {G Z F : Hp} {σ : L2.St} {H : Hp} {ρ : Ro}
/-- a new thing, fixed at once -/
theorem Abs.newF {p : Addr} {o : HO} (A : Abs K mg G Z F σ H ρ) (h : H p = none) : Abs K mg G Z (upd F p o) σ (upd H p o) ρ ∧ Ex' F (upd F p o) := by
  have hF : F p = none := by
    cases q : F p with
    | none => rfl
    | some u => rw [A.sub p u q] at h; cases h
  have hG : G p = none := by
    cases q : G p with
    | none => rfl
    | some u => rw [A.bg p u q] at h; cases h
  have e : Ex' F (upd F p o) := Ex'.new hF
  refine ⟨⟨fun a u q => ?_, A.bg.trans (Ex'.new h), A.f0.trans e, fun a u q => ?_, A.len, fun i v q => ?_, fun i v q => ?_, A.ap⟩, e⟩
  · by_cases ha : a = p
    · subst ha; rw [upd_same] at q ⊢; exact q
    · rw [upd_ne ha] at q ⊢; exact A.sub a u q
  · by_cases ha : a = p
    · subst ha; exact .inr (.inl hG)
    · rw [upd_ne ha] at q; exact A.nw a u q
  · obtain ⟨x, h1, h2⟩ := A.fz i v q
    exact ⟨x, h1, h2.mono e⟩
  · obtain ⟨a, h1, h2, h3⟩ := A.ow i v q
    have ha : a ≠ p := fun z => by
      obtain ⟨u, hu, _⟩ := h3.at
      rw [z, h] at hu; cases hu
    exact ⟨a, h1, h2, h3.keep e (by rw [upd_ne ha]; exact h3.no) (upd_ne ha)⟩
/-- a new thing, nobody's yet -/
theorem Abs.newO {p : Addr} {o : HO} (A : Abs K mg G Z F σ H ρ) (h : H p = none) : Abs K mg G Z F σ (upd H p o) ρ ∧ F p = none ∧ G p = none ∧ Lone σ ρ p := by
  have hF : F p = none := by
    cases q : F p with
    | none => rfl
    | some u => rw [A.sub p u q] at h; cases h
  have hG : G p = none := by
    cases q : G p with
    | none => rfl
    | some u => rw [A.bg p u q] at h; cases h
  have ne : ∀ {a : Addr} {v : Val}, Own K mg F H a v → a ≠ p := fun {a v} q z => by
    obtain ⟨u, hu, _⟩ := q.at
    rw [z, h] at hu; cases hu
  refine ⟨⟨A.sub.trans (Ex'.new h), A.bg.trans (Ex'.new h), A.f0, A.nw, A.len, A.fz, fun i v q => ?_, A.ap⟩, hF, hG, fun i w q z => ?_⟩
  · obtain ⟨a, h1, h2, h3⟩ := A.ow i v q
    exact ⟨a, h1, h2, h3.keep (Ex'.refl F) h3.no (upd_ne (ne h3))⟩
  · obtain ⟨a, h1, h2, h3⟩ := A.ow i w q
    rw [z] at h1; cases h1
    exact ne h3 rfl
/-- a loose thing is written -/
theorem Abs.wr {p : Addr} {o : HO} (A : Abs K mg G Z F σ H ρ) (hF : F p = none) (hG : G p = none) (hl : Lone σ ρ p) : Abs K mg G Z F σ (upd H p o) ρ := by
  refine ⟨fun a u q => ?_, fun a u q => ?_, A.f0, A.nw, A.len, A.fz, fun i v q => ?_, A.ap⟩
  · rw [upd_ne (fun z => by rw [z, hF] at q; cases q)]; exact A.sub a u q
  · rw [upd_ne (fun z => by rw [z, hG] at q; cases q)]; exact A.bg a u q
  · obtain ⟨a, h1, h2, h3⟩ := A.ow i v q
    have ha : a ≠ p := fun z => hl i v q (by rw [← z]; exact h1)
    exact ⟨a, h1, h2, h3.keep (Ex'.refl F) h3.no (upd_ne ha)⟩
/-- a loose thing is fixed -/
theorem Abs.fixO {p : Addr} {o : HO} (A : Abs K mg G Z F σ H ρ) (hF : F p = none) (hG : G p = none) (hl : Lone σ ρ p) (hH : H p = some o) : Abs K mg G Z (upd F p o) σ H ρ ∧ Ex' F (upd F p o) := by
  have e : Ex' F (upd F p o) := Ex'.new hF
  refine ⟨⟨fun a u q => ?_, A.bg, A.f0.trans e, fun a u q => ?_, A.len, fun i v q => ?_, fun i v q => ?_, A.ap⟩, e⟩
  · by_cases ha : a = p
    · subst ha; rw [upd_same] at q; rw [hH]; exact q
    · rw [upd_ne ha] at q; exact A.sub a u q
  · by_cases ha : a = p
    · subst ha; exact .inr (.inl hG)
    · rw [upd_ne ha] at q; exact A.nw a u q
  · obtain ⟨x, h1, h2⟩ := A.fz i v q
    exact ⟨x, h1, h2.mono e⟩
  · obtain ⟨a, h1, h2, h3⟩ := A.ow i v q
    have ha : a ≠ p := fun z => hl i v q (by rw [← z]; exact h1)
    exact ⟨a, h1, h2, h3.keep e (by rw [upd_ne ha]; exact h3.no) rfl⟩
/-- a tuple that stands is fixed -/
theorem Abs.fixT {p : Addr} {xs : List V} (A : Abs K mg G Z F σ H ρ) (hH : H p = some (.tup xs)) : ∃ F', Abs K mg G Z F' σ H ρ ∧ Ex' F F' ∧ F' p = some (.tup xs) := by
  cases q : F p with
  | some o =>
    have z := A.sub p o q
    rw [hH] at z; cases z
    exact ⟨F, A, Ex'.refl F, q⟩
  | none =>
    have e : Ex' F (upd F p (.tup xs)) := Ex'.new q
    refine ⟨upd F p (.tup xs), ⟨fun a u q' => ?_, A.bg, A.f0.trans e, fun a u q' => ?_, A.len, fun i v q' => ?_, fun i v q' => ?_, A.ap⟩, e, upd_same⟩
    · by_cases ha : a = p
      · subst ha; rw [upd_same] at q'; rw [hH]; exact q'
      · rw [upd_ne ha] at q'; exact A.sub a u q'
    · by_cases ha : a = p
      · subst ha; rw [upd_same] at q'; cases q'; exact .inr (.inr ⟨_, rfl⟩)
      · rw [upd_ne ha] at q'; exact A.nw a u q'
    · obtain ⟨x, h1, h2⟩ := A.fz i v q'
      exact ⟨x, h1, h2.mono e⟩
    · obtain ⟨a, h1, h2, h3⟩ := A.ow i v q'
      have ha : a ≠ p := fun z => by
        obtain ⟨u, hu, hn⟩ := h3.at
        rw [z, hH] at hu; cases hu
        exact hn _ rfl
      exact ⟨a, h1, h2, h3.keep e (by rw [upd_ne ha]; exact h3.no) rfl⟩
/-- a place gives its thing away -/
theorem Abs.loose {i : Nat} {v : Val} {a : Addr} (A : Abs K mg G Z F σ H ρ) (h : ρ[i]? = some (.ow v)) (ha : σ[i]? = some (some (.ref a))) (s : Slot) (hs : ∀ w, s ≠ .ow w) (hf : ∀ w, s = .fz w → ∃ x, σ[i]? = some (some x) ∧ Rep K mg F x w) :
    Abs K mg G Z F σ H (ρ.set i s) ∧ Lone σ (ρ.set i s) a := by
  have hi : i < ρ.length := by
    have := List.getElem?_eq_some_iff.mp h
    exact this.1
  have get : ∀ j : Nat, (ρ.set i s)[j]? = if j = i then some s else ρ[j]? := fun j => by
    by_cases hj : j = i
    · subst hj; rw [List.getElem?_set_self hi, if_pos rfl]
    · rw [List.getElem?_set_ne (Ne.symm hj), if_neg hj]
  refine ⟨⟨A.sub, A.bg, A.f0, A.nw, by rw [List.length_set]; exact A.len, fun j w q => ?_, fun j w q => ?_, fun j k b w w' hjk q q' => ?_⟩, fun j w q z => ?_⟩
  · rw [get] at q
    by_cases hj : j = i
    · subst hj; rw [if_pos rfl] at q; exact hf w (Option.some.inj q)
    · rw [if_neg hj] at q; exact A.fz j w q
  · rw [get] at q
    by_cases hj : j = i
    · subst hj; rw [if_pos rfl] at q; exact absurd (Option.some.inj q) (hs w)
    · rw [if_neg hj] at q; exact A.ow j w q
  · rw [get] at q q'
    by_cases hj : j = i
    · subst hj; rw [if_pos rfl] at q; exact absurd (Option.some.inj q) (hs w)
    · by_cases hk : k = i
      · subst hk; rw [if_pos rfl] at q'; exact absurd (Option.some.inj q') (hs w')
      · rw [if_neg hj] at q; rw [if_neg hk] at q'; exact A.ap j k b w w' hjk q q'
  · rw [get] at q
    by_cases hj : j = i
    · subst hj; rw [if_pos rfl] at q; exact absurd (Option.some.inj q) (hs w)
    · rw [if_neg hj] at q
      exact A.ap i j a v w (Ne.symm hj) h q ha z
end
end EV
namespace EV
open PySem PySem.Spec PyProof.Rows L2
/-- what an error keeps -/
def ExR (K : PySem.W.Frag) (mg : Str → Option Value) (F : Hp) (d : Option Addr) (e : Exc) : Prop :=
  (e.fs = [] ∧ d = none) ∨ ∃ dx xs, d = some dx ∧ F dx = some (.xd xs) ∧ RepF K mg F xs e.fs
section
variable (K : PySem.W.Frag) (mg : Str → Option Value) (W : WX)
/-- how a walk ends: C of what is fixed then, the heap, the places, the answer -/
def Aft {α : Type} (G Z F : Hp) (σ : L2.St) (m : Res α) (C : Hp → Hp → Ro → α → Prop) : Prop := match m with
  | some (.ok a ρ') => ∀ F' H', Abs K mg G Z F' σ H' ρ' → Ex' F F' → C F' H' ρ' a
  | some (.ex e ρ') => ∀ F' H' d, Abs K mg G Z F' σ H' ρ' → Ex' F F' → ExR K mg F' d e → W (.ref (GH.clsA mg (Str.ofString e.c))) d σ H'
  | none => False
def OpdR (F : Hp) (σ : L2.St) (x : V) : Opd → Prop
  | .pl i => σ[i]? = some (some x)
  | .tm v => Rep K mg F x v
/-- a reading by a walk -/
def tM {α : Type} (m : Ro → Res α) (R : Hp → Hp → L2.St → Hp → Ro → V → α → Prop) : TE := fun σ H Q => ∃ G Z F ρ, Abs K mg G Z F σ H ρ ∧ Aft K mg W G Z F σ (m ρ) fun F' H' ρ' a => ∀ x, R G F' σ H' ρ' x a → Q x H'
variable (T : Tab) (cal mkc : Cal)
def tE (e : Ex) : TE := tM K mg W (evE T cal mkc e) fun G F σ H ρ x r => ResR K mg G F σ H ρ x r
def tO (e : Ex) : TE := tM K mg W (opnd e (evE T cal mkc e)) fun _ F σ _ _ x o => OpdR K mg F σ x o
/-- fixed at once -/
def tV (e : Ex) : TE := tM K mg W (fun ρ => bnd (evE T cal mkc e ρ) fixv) fun _ F _ _ _ x v => Rep K mg F x v
def tB (e : Ex) : TT := fun σ H Q => ∃ G Z F ρ, Abs K mg G Z F σ H ρ ∧ Aft K mg W G Z F σ (bnd (evE T cal mkc e ρ) asBool) fun F' H' ρ' b => Q b H'
def tAs (es : List Ex) : TA := fun σ H Q => ∃ G Z F ρ, Abs K mg G Z F σ H ρ ∧ Aft K mg W G Z F σ (evEs T cal mkc es ρ) fun F' H' ρ' vs => ∀ xs, Reps K mg F' xs vs → Q xs H'
end
section
variable {K : PySem.W.Frag} {mg : Str → Option Value} {W : WX} {α β : Type} {G Z F F1 : Hp} {σ : L2.St} {m : Res α}
theorem Aft.up {C : Hp → Hp → Ro → α → Prop} (h : Aft K mg W G Z F σ m C) (e : Ex' F F1) : Aft K mg W G Z F1 σ m C := by
  unfold Aft at h ⊢
  split at h
  · exact fun F' H' A q => h F' H' A (e.trans q)
  · exact fun F' H' d A q r => h F' H' d A (e.trans q) r
  · exact h
theorem Aft.imp {C C' : Hp → Hp → Ro → α → Prop} (h : Aft K mg W G Z F σ m C) (k : ∀ F' H' ρ' a, Abs K mg G Z F' σ H' ρ' → Ex' F F' → C F' H' ρ' a → C' F' H' ρ' a) : Aft K mg W G Z F σ m C' := by
  unfold Aft at h ⊢
  split at h
  · exact fun F' H' A q => k _ _ _ _ A q (h F' H' A q)
  · exact h
  · exact h
theorem Aft.bnd {k : α → Ro → Res β} {C : Hp → Hp → Ro → β → Prop} (h : Aft K mg W G Z F σ (EV.bnd m k) C) : Aft K mg W G Z F σ m fun F' _ ρ' a => Aft K mg W G Z F' σ (k a ρ') C := by
  match m, h with
  | some (.ok a ρ'), h =>
    intro F' H' A q
    have h : Aft K mg W G Z F σ (k a ρ') C := h
    exact h.up q
  | some (.ex e ρ'), h => exact h
  | none, h => exact h
theorem Aft.bnd' {k : α → Ro → Res β} {C : Hp → Hp → Ro → β → Prop} (h : Aft K mg W G Z F σ m fun F' _ ρ' a => Aft K mg W G Z F' σ (k a ρ') C) (hb : ∀ a ρ', m = some (.ok a ρ') → ∃ H', Abs K mg G Z F σ H' ρ') : Aft K mg W G Z F σ (EV.bnd m k) C := by
  match m, h, hb with
  | some (.ok a ρ'), h, hb =>
    obtain ⟨H', A⟩ := hb a ρ' rfl
    exact h F H' A (Ex'.refl F)
  | some (.ex e ρ'), h, _ => exact h
  | none, h, _ => exact h
theorem Aft.pur {a : α} {ρ : Ro} {H : Hp} {C : Hp → Hp → Ro → α → Prop} (h : Aft K mg W G Z F σ (EV.pur a ρ) C) (A : Abs K mg G Z F σ H ρ) : C F H ρ a := h F H A (Ex'.refl F)
theorem Aft.lift {o : Option α} {ρ : Ro} {C : Hp → Hp → Ro → α → Prop} (h : Aft K mg W G Z F σ (EV.lift o ρ) C) : ∃ a, o = some a ∧ Aft K mg W G Z F σ (EV.pur a ρ) C := by
  cases o with
  | none => exact h.elim
  | some a => exact ⟨a, rfl, h⟩
end
theorem _root_.L2.PE.imp {X : Cx} {e : Expr} {t t' : TE} (h : PE X e t) (k : ∀ σ H Q, t' σ H Q → t σ H Q) : PE X e t' := ⟨fun pins s σ H Q I q => h.run pins s σ H Q I (k σ H Q q)⟩
theorem _root_.L2.PT.imp {X : Cx} {e : Expr} {t t' : TT} (h : PT X e t) (k : ∀ σ H Q, t' σ H Q → t σ H Q) : PT X e t' := ⟨fun pins s σ H Q I q => h.run pins s σ H Q I (k σ H Q q)⟩
theorem _root_.L2.PA.imp {X : Cx} {es : List Expr} {t t' : TA} (h : PA X es t) (k : ∀ σ H Q, t' σ H Q → t σ H Q) : PA X es t' := ⟨fun pos pins s σ H Q I q => h.run pos pins s σ H Q I (k σ H Q q)⟩
theorem _root_.L2.PS.imp {X : Cx} {st : Stmt} {t t' : TS} (h : PS X st t) (k : ∀ D σ H, t' D σ H → t D σ H) : PS X st t' := ⟨fun pins s σ H D I q => h.run pins s σ H D I (k D σ H q)⟩
/-! ### what is new -/
def NewR0 (K : PySem.W.Frag) (mg : Str → Option Value) (F H : Hp) (z : V) (H' : Hp) : Slot → Prop
  | .fz v => (H' = H ∧ Rep K mg F z v) ∨ ∃ p ob, H p = none ∧ H' = upd H p ob ∧ z = .ref p ∧ ∀ F', Ex' F F' → F' p = some ob → Rep K mg F' z v
  | .ow v => ∃ p ob, H p = none ∧ H' = upd H p ob ∧ z = .ref p ∧ (F p = none → Own K mg F H' p v)
  | .un => False
/-- tuples that stand are fixed, too -/
structure TX (F F' H : Hp) : Prop where
  up : Ex' F F'
  t : ∀ a o, F' a = some o → F a = some o ∨ (H a = some o ∧ ∃ xs, o = .tup xs)
theorem TX.refl (F H : Hp) : TX F F H := ⟨Ex'.refl F, fun _ _ h => .inl h⟩
def NewR (K : PySem.W.Frag) (mg : Str → Option Value) (F H : Hp) (z : V) (H' : Hp) (r : Slot) : Prop := ∃ F1, TX F F1 H ∧ NewR0 K mg F1 H z H' r
theorem Abs.tx {K : PySem.W.Frag} {mg : Str → Option Value} {G Z F F' : Hp} {σ : L2.St} {H : Hp} {ρ : Ro} (A : Abs K mg G Z F σ H ρ) (t : TX F F' H) : Abs K mg G Z F' σ H ρ := by
  refine ⟨fun a o q => ?_, A.bg, A.f0.trans t.up, fun a o q => ?_, A.len, fun i v q => ?_, fun i v q => ?_, A.ap⟩
  · rcases t.t a o q with h | ⟨h, _⟩
    · exact A.sub a o h
    · exact h
  · rcases t.t a o q with h | ⟨_, h⟩
    · exact A.nw a o h
    · exact .inr (.inr h)
  · obtain ⟨x, h1, h2⟩ := A.fz i v q
    exact ⟨x, h1, h2.mono t.up⟩
  · obtain ⟨a, h1, h2, h3⟩ := A.ow i v q
    refine ⟨a, h1, h2, h3.keep t.up ?_ rfl⟩
    cases w : F' a with
    | none => rfl
    | some o =>
      rcases t.t a o w with h | ⟨h, xs, rfl⟩
      · rw [h3.no] at h; cases h
      · obtain ⟨u, hu, hn⟩ := h3.at
        rw [h] at hu; cases hu
        exact absurd rfl (hn xs)
section
variable {K : PySem.W.Frag} {mg : Str → Option Value} {W : WX} {G Z F : Hp} {σ : L2.St} {H H' : Hp} {ρ : Ro} {z : V} {r : Slot}
theorem Abs.new {Q : V → Hp → Prop} (A : Abs K mg G Z F σ H ρ) (n : NewR K mg F H z H' r) (h : ∀ F' H'', Abs K mg G Z F' σ H'' ρ → Ex' F F' → ∀ x, ResR K mg G F' σ H'' ρ x r → Q x H'') : Q z H' := by
  obtain ⟨F1, tx, n⟩ := n
  have A := A.tx tx
  have h : ∀ F' H'', Abs K mg G Z F' σ H'' ρ → Ex' F1 F' → ∀ x, ResR K mg G F' σ H'' ρ x r → Q x H'' := fun F' H'' A' e => h F' H'' A' (tx.up.trans e)
  clear tx
  cases r with
  | un => exact n.elim
  | fz v =>
    rcases n with ⟨e, q⟩ | ⟨p, ob, hp, e, ez, q⟩
    · subst e
      exact h F1 H' A (Ex'.refl F1) z q
    · subst e
      obtain ⟨A', e'⟩ := A.newF (o := ob) hp
      exact h _ _ A' e' z (q _ e' upd_same)
  | ow v =>
    obtain ⟨p, ob, hp, e, ez, q⟩ := n
    subst e
    obtain ⟨A', hF, hG, hl⟩ := A.newO (o := ob) hp
    exact h F1 _ A' (Ex'.refl F1) z ⟨p, ez, hG, q hF, hl⟩
theorem OpdR.read {x : V} {o : Opd} {v : Val} (A : Abs K mg G Z F σ H ρ) (r : OpdR K mg F σ x o) (h : o.val ρ = some v) : RepB K mg F H x v := by
  cases o with
  | tm w => cases h; exact Rep.b A.sub r
  | pl i =>
    have h : (ρ[i]?).bind Slot.val = some v := h
    have r : σ[i]? = some (some x) := r
    cases q : ρ[i]? with
    | none => rw [q] at h; cases h
    | some s =>
      rw [q] at h
      have h : s.val = some v := h
      cases s with
      | un => cases h
      | fz w =>
        obtain rfl : w = v := Option.some.inj h
        obtain ⟨y, h1, h2⟩ := A.fz i w q
        rw [r] at h1; cases h1
        exact Rep.b A.sub h2
      | ow w =>
        obtain rfl : w = v := Option.some.inj h
        obtain ⟨a, h1, _, h2⟩ := A.ow i w q
        rw [r] at h1; cases h1
        exact h2.b
theorem OpdR.mono {F' : Hp} {x : V} {o : Opd} (r : OpdR K mg F σ x o) (e : Ex' F F') : OpdR K mg F' σ x o := by
  cases o with
  | tm w => exact Rep.mono e r
  | pl i => exact r
end
/-! ### fixing -/
section
variable {X : Cx} {pins : List (Addr × Obj)} {s : Shared} {G Z F : Hp} {σ : L2.St} {H : Hp} {ρ : Ro}
/-- a loose thing is fixed: a dict is locked -/
theorem fix_loose {a : Addr} {v : Val} (I : Inv X pins σ H s) (A : Abs X.K X.mg G Z F σ H ρ) (hG : G a = none) (o : Own X.K X.mg F H a v) (hl : Lone σ ρ a) :
    ∃ F' H', Inv X pins σ H' s ∧ Abs X.K X.mg G Z F' σ H' ρ ∧ Ex' F F' ∧ Rep X.K X.mg F' (.ref a) v := by
  cases o with
  | lst n h r =>
    obtain ⟨A', e⟩ := A.fixO n hG hl h
    exact ⟨_, H, I, A', e, .lst upd_same (r.mono e)⟩
  | @dk ks kvs n h r =>
    obtain ⟨od, I'⟩ := I.lock h trivial
    have A1 : Abs X.K X.mg G Z F σ (upd H a (.frz od (.dK ks))) ρ := A.wr n hG hl
    obtain ⟨A', e⟩ := A1.fixO n hG hl upd_same
    exact ⟨_, _, I', A', e, .dk upd_same (r.mono e)⟩
  | @dt ks kvs n h r =>
    obtain ⟨od, I'⟩ := I.lock h trivial
    have A1 : Abs X.K X.mg G Z F σ (upd H a (.frz od (.dT ks))) ρ := A.wr n hG hl
    obtain ⟨A', e⟩ := A1.fixO n hG hl upd_same
    exact ⟨_, _, I', A', e, .dt upd_same (r.mono e)⟩
  | obj n h r =>
    obtain ⟨A', e⟩ := A.fixO n hG hl h
    exact ⟨_, H, I, A', e, .obj upd_same (r.mono e)⟩
/-- a place's thing is fixed -/
theorem fix_place {i : Nat} {v : Val} (I : Inv X pins σ H s) (A : Abs X.K X.mg G Z F σ H ρ) (h : ρ[i]? = some (.ow v)) :
    ∃ F' H' x, Inv X pins σ H' s ∧ Abs X.K X.mg G Z F' σ H' (ρ.set i (.fz v)) ∧ Ex' F F' ∧ σ[i]? = some (some x) ∧ Rep X.K X.mg F' x v := by
  obtain ⟨a, h1, h2, h3⟩ := A.ow i v h
  obtain ⟨A1, l1⟩ := A.loose h h1 .un (fun _ z => by cases z) (fun _ z => by cases z)
  obtain ⟨F', H', I', A', e, q⟩ := fix_loose I A1 h2 h3 l1
  have hi : i < ρ.length := (List.getElem?_eq_some_iff.mp h).1
  refine ⟨F', H', .ref a, I', ⟨A'.sub, A'.bg, A'.f0, A'.nw, by rw [List.length_set]; exact A.len, fun j w z => ?_, fun j w z => ?_, fun j k b w w' n z z' => ?_⟩, e, h1, q⟩
  · by_cases hj : j = i
    · subst hj
      rw [List.getElem?_set_self hi] at z; cases z
      exact ⟨_, h1, q⟩
    · rw [List.getElem?_set_ne (Ne.symm hj)] at z
      exact A'.fz j w (by rw [List.getElem?_set_ne (Ne.symm hj)]; exact z)
  · by_cases hj : j = i
    · subst hj
      rw [List.getElem?_set_self hi] at z; cases z
    · rw [List.getElem?_set_ne (Ne.symm hj)] at z
      exact A'.ow j w (by rw [List.getElem?_set_ne (Ne.symm hj)]; exact z)
  · by_cases hj : j = i
    · subst hj
      rw [List.getElem?_set_self hi] at z; cases z
    · by_cases hk : k = i
      · subst hk
        rw [List.getElem?_set_self hi] at z'; cases z'
      · rw [List.getElem?_set_ne (Ne.symm hj)] at z
        rw [List.getElem?_set_ne (Ne.symm hk)] at z'
        exact A'.ap j k b w w' n (by rw [List.getElem?_set_ne (Ne.symm hj)]; exact z) (by rw [List.getElem?_set_ne (Ne.symm hk)]; exact z')
end
section
variable {X : Cx} {W : WX} {T : Tab} {cal mkc : Cal} {e : Expr} {ex : Ex}
/-- a value, fixed at once -/
theorem pe_fix (h : PE X e (tE X.K X.mg W T cal mkc ex)) : PE X e (tV X.K X.mg W T cal mkc ex) := by
  refine ⟨fun pins s σ H Q I q => ?_⟩
  obtain ⟨G, Z, F, ρ, A, q⟩ := q
  have q := q.bnd
  refine thn (h.run pins s σ H (fun x H' => ∃ F' ρ' r, Abs X.K X.mg G Z F' σ H' ρ' ∧ ResR X.K X.mg G F' σ H' ρ' x r ∧ Aft X.K X.mg W G Z F' σ (fixv r ρ') fun F' H' ρ' v => ∀ x, Rep X.K X.mg F' x v → Q x H') I ⟨G, Z, F, ρ, A, q.imp fun F' H' ρ' r A' e' z x rx => ⟨F', ρ', r, A', rx, z⟩⟩) fun u s1 ⟨x, H1, I1, r1, F', ρ', r, A', rx, z⟩ => ?_
  cases r with
  | un => exact rx.elim
  | fz v => exact ⟨x, H1, I1, r1, (Aft.pur z A') x rx⟩
  | ow v =>
    obtain ⟨a, rfl, hG, o, hl⟩ := rx
    obtain ⟨F2, H2, I2, A2, e2, q2⟩ := fix_loose I1 A' hG o hl
    exact ⟨.ref a, H2, I2, r1, Aft.pur (Aft.up z e2) A2 _ q2⟩
/-- an operand that is no name -/
theorem pe_opd (h : PE X e (tE X.K X.mg W T cal mkc ex)) (hn : ∀ i, ex ≠ .v i) : PE X e (tO X.K X.mg W T cal mkc ex) := by
  refine (pe_fix h).imp fun σ H Q q => ?_
  obtain ⟨G, Z, F, ρ, A, q⟩ := q
  have e1 : opnd ex (evE T cal mkc ex) ρ = EV.bnd (evE T cal mkc ex ρ) fun r ρ' => match r with
    | .fz v => EV.pur (.tm v) ρ'
    | .ow v => EV.pur (.tm v) ρ'
    | .un => none := by
    cases ex with
    | v i => exact absurd rfl (hn i)
    | _ => rfl
  rw [e1] at q
  refine ⟨G, Z, F, ρ, A, ?_⟩
  show Aft _ _ _ _ _ _ _ (EV.bnd (evE T cal mkc ex ρ) fixv) _
  cases hm : evE T cal mkc ex ρ with
  | none => rw [hm] at q; exact q.elim
  | some o =>
    rw [hm] at q
    cases o with
    | ex e' ρ' => exact q
    | ok r ρ' =>
      cases r with
      | un => exact q.elim
      | fz v => exact fun F' H' A' e' x rx => q F' H' A' e' x rx
      | ow v => exact fun F' H' A' e' x rx => q F' H' A' e' x rx
/-- a name as a place -/
theorem pe_place {i : Nat} (h : PE X e (tVar i)) : PE X e (tO X.K X.mg W T cal mkc (.v i)) := by
  refine h.imp fun σ H Q q => ?_
  obtain ⟨G, Z, F, ρ, A, q⟩ := q
  have q : Aft X.K X.mg W G Z F σ (if ((ρ[i]?).bind Slot.val).isSome then EV.pur (Opd.pl i) ρ else none) _ := q
  split at q
  · rename_i hs
    have hx : ∃ x, σ[i]? = some (some x) := by
      cases w : ρ[i]? with
      | none => rw [w] at hs; cases hs
      | some r =>
        cases r with
        | un => rw [w] at hs; cases hs
        | fz v => obtain ⟨x, h1, _⟩ := A.fz i v w; exact ⟨x, h1⟩
        | ow v => obtain ⟨a, h1, _⟩ := A.ow i v w; exact ⟨_, h1⟩
    obtain ⟨x, hx⟩ := hx
    exact ⟨x, hx, Aft.pur q A x hx⟩
  · exact q.elim
/-- a name as a value: what stands there is fixed -/
theorem pe_name {i : Nat} (h : PE X e (tVar i)) : PE X e (tE X.K X.mg W T cal mkc (.v i)) := by
  refine ⟨fun pins s σ H Q I q => ?_⟩
  obtain ⟨G, Z, F, ρ, A, q⟩ := q
  have q : Aft X.K X.mg W G Z F σ (slotAt i ρ) _ := q
  unfold slotAt at q
  split at q
  · rename_i v hv
    obtain ⟨x, h1, h2⟩ := A.fz i v hv
    exact h.run pins s σ H Q I ⟨x, h1, Aft.pur q A x h2⟩
  · rename_i v hv
    obtain ⟨F', H', x, I', A', e', h1, h2⟩ := fix_place I A hv
    exact h.run pins s σ H' Q I' ⟨x, h1, Aft.pur (Aft.up q e') A' x h2⟩
  · exact q.elim
end
end EV
namespace EV
open PySem PySem.Spec PyProof.Rows L2
section
variable {K : PySem.W.Frag} {mg : Str → Option Value} {F H : Hp}
/-! a thing's data -/
mutual
theorem Rep.dp (e : Ex' F H) : ∀ {x : V} {v : Val} {d : PyData}, Rep K mg F x v → toD v = some d → Dp K H x d
  | _, _, _, .non, h => by simp only [toD] at h; cases h; exact .non
  | _, _, _, .bl b, h => by simp only [toD] at h; cases h; exact .bl b
  | _, _, _, .int i, h => by simp only [toD] at h; cases h; exact .int i
  | _, _, _, .str l, h => by simp only [toD] at h; cases h; exact .str _
  | _, .lst vs, d, .lst s r, h => by
    simp only [toD] at h
    cases q : toDs vs with
    | none => rw [q] at h; cases h
    | some ds => rw [q] at h; cases h; exact .lst (.inl (.inl (e _ _ s))) (Reps.dp e r q)
  | _, .tup vs, d, .tup s r, h => by
    simp only [toD] at h
    cases q : toDs vs with
    | none => rw [q] at h; cases h
    | some ds => rw [q] at h; cases h; exact .tup (.inl (.inl (e _ _ s))) (Reps.dp e r q)
  | _, _, _, .dk s r, h => by simp only [toD] at h; cases h
  | _, _, _, .dt s r, h => by simp only [toD] at h; cases h
  | _, _, _, .obj s r, h => by simp only [toD] at h; cases h
  | _, _, _, .scr s, h => by simp only [toD] at h; cases h
  | _, _, _, .wtp s, h => by simp only [toD] at h; cases h
theorem Reps.dp (e : Ex' F H) : ∀ {xs : List V} {vs : List Val} {ds : List PyData}, Reps K mg F xs vs → toDs vs = some ds → DpAll K H xs ds
  | _, _, _, .nil, h => by simp only [toDs] at h; cases h; exact .nil
  | _, v :: vs, ds, .cons a r, h => by
    simp only [toDs] at h
    cases q : toD v with
    | none => rw [q] at h; cases h
    | some d =>
      rw [q] at h
      cases q2 : toDs vs with
      | none => rw [q2] at h; cases h
      | some es => rw [q2] at h; cases h; exact .cons (Rep.dp e a q) (Reps.dp e r q2)
end
theorem RepB.dp (e : Ex' F H) {x : V} {v : Val} {d : PyData} (r : RepB K mg F H x v) (h : toD v = some d) : Dp K H x d := by
  cases r with
  | non => simp only [toD] at h; cases h; exact .non
  | bl b => simp only [toD] at h; cases h; exact .bl b
  | int i => simp only [toD] at h; cases h; exact .int i
  | str l => simp only [toD] at h; cases h; exact .str _
  | @lst a xs vs s r =>
    simp only [toD] at h
    cases q : toDs vs with
    | none => rw [q] at h; cases h
    | some ds => rw [q] at h; cases h; exact .lst (.inl (.inl s)) (Reps.dp e r q)
  | @tup a xs vs s r =>
    simp only [toD] at h
    cases q : toDs vs with
    | none => rw [q] at h; cases h
    | some ds => rw [q] at h; cases h; exact .tup (.inl (.inl (e _ _ s))) (Reps.dp e r q)
  | dk s r => simp only [toD] at h; cases h
  | dt s r => simp only [toD] at h; cases h
  | obj s r => simp only [toD] at h; cases h
  | scr s => simp only [toD] at h; cases h
  | wtp s => simp only [toD] at h; cases h
end
theorem toS_inj {a b : List Nat} : (toS a == toS b) = (a == b) := by
  rw [Bool.eq_iff_iff]
  simp [toS]
mutual
theorem eqv_D : ∀ {a b : Val} {d e : PyData}, toD a = some d → toD b = some e → PyData.eqv d e = eqv a b
  | .non, b, d, e, h, k => by
    simp only [toD] at h; cases h
    cases b <;> simp only [toD] at k <;> (try cases k) <;> (try simp only [Option.map_eq_some_iff] at k) <;> (try (obtain ⟨_, _, rfl⟩ := k)) <;> simp [PyData.eqv, eqv]
  | .bl a, b, d, e, h, k => by
    simp only [toD] at h; cases h
    cases b <;> simp only [toD] at k <;> (try cases k) <;> (try simp only [Option.map_eq_some_iff] at k) <;> (try (obtain ⟨_, _, rfl⟩ := k)) <;> simp [PyData.eqv, eqv]
  | .int a, b, d, e, h, k => by
    simp only [toD] at h; cases h
    cases b <;> simp only [toD] at k <;> (try cases k) <;> (try simp only [Option.map_eq_some_iff] at k) <;> (try (obtain ⟨_, _, rfl⟩ := k)) <;> simp [PyData.eqv, eqv]
  | .str a, b, d, e, h, k => by
    simp only [toD] at h; cases h
    cases b <;> simp only [toD] at k <;> (try cases k) <;> (try simp only [Option.map_eq_some_iff] at k) <;> (try (obtain ⟨_, _, rfl⟩ := k)) <;> simp only [PyData.eqv, eqv]
    exact toS_inj
  | .lst a, b, d, e, h, k => by
    simp only [toD, Option.map_eq_some_iff] at h
    obtain ⟨ds, h, rfl⟩ := h
    cases b <;> simp only [toD] at k <;> (try cases k) <;> (try simp only [Option.map_eq_some_iff] at k) <;> (try (obtain ⟨es, k, rfl⟩ := k)) <;> simp only [PyData.eqv, eqv]
    exact eqvs_D h k
  | .tup a, b, d, e, h, k => by
    simp only [toD, Option.map_eq_some_iff] at h
    obtain ⟨ds, h, rfl⟩ := h
    cases b <;> simp only [toD] at k <;> (try cases k) <;> (try simp only [Option.map_eq_some_iff] at k) <;> (try (obtain ⟨es, k, rfl⟩ := k)) <;> simp only [PyData.eqv, eqv]
    exact eqvs_D h k
  | .dct _, _, _, _, h, _ => by simp only [toD] at h; cases h
  | .obj _ _, _, _, _, h, _ => by simp only [toD] at h; cases h
  | .scr _, _, _, _, h, _ => by simp only [toD] at h; cases h
  | .wtp _, _, _, _, h, _ => by simp only [toD] at h; cases h
theorem eqvs_D : ∀ {a b : List Val} {d e : List PyData}, toDs a = some d → toDs b = some e → PyData.eqvAll d e = eqvs a b
  | [], b, d, e, h, k => by
    simp only [toDs] at h; cases h
    cases b with
    | nil => simp only [toDs] at k; cases k; rfl
    | cons y s =>
      simp only [toDs, Option.bind_eq_some_iff, Option.map_eq_some_iff] at k
      obtain ⟨_, _, _, _, rfl⟩ := k
      rfl
  | x :: r, b, d, e, h, k => by
    simp only [toDs, Option.bind_eq_some_iff, Option.map_eq_some_iff] at h
    obtain ⟨dx, hx, dr, hr, rfl⟩ := h
    cases b with
    | nil => simp only [toDs] at k; cases k; rfl
    | cons y s =>
      simp only [toDs, Option.bind_eq_some_iff, Option.map_eq_some_iff] at k
      obtain ⟨ey, ky, es, ks, rfl⟩ := k
      simp only [PyData.eqvAll, eqvs]
      rw [eqv_D hx ky, eqvs_D hr ks]
end
end EV
namespace EV
open PySem PySem.Spec PyProof.Rows L2
theorem cap_line {n : Nat} (h : n ≤ cap) : n ≤ sizeLine := by rw [sizeLine_eq]; unfold cap at h; omega
theorem toS_app (a b : List Nat) : toS a ++ toS b = toS (a ++ b) := by
  show (⟨a.toArray ++ b.toArray⟩ : Str) = ⟨(a ++ b).toArray⟩
  simp
theorem toS_len (a : List Nat) : (toS a).length = a.length := by
  show a.toArray.size = a.length
  simp
def bOp : Bin → Operator
  | .add => .Add | .sub => .Sub | .mul => .Mult | .mod => .Mod | .fdiv => .FloorDiv | .pow => .Pow
section
variable {K : PySem.W.Frag} {mg : Str → Option Value} {F H : Hp}
def rBin (K : PySem.W.Frag) (mg : Str → Option Value) (o : Bin) : R2 := fun x y H Q => ∃ F u w r, Ex' F H ∧ RepB K mg F H x u ∧ RepB K mg F H y w ∧ binF o u w = some r ∧ ∀ z H', NewR K mg F H z H' r → Q z H'
theorem newT {xs : List V} {vs : List Val} {p : Addr} (h : H p = none) (r : Reps K mg F xs vs) : NewR K mg F H (.ref p) (upd H p (.tup xs)) (.fz (.tup vs)) :=
  ⟨F, TX.refl F H, .inr ⟨p, _, h, rfl, rfl, fun F' e q => .tup q (r.mono e)⟩⟩
theorem newL {xs : List V} {vs : List Val} {p : Addr} (h : H p = none) (r : Reps K mg F xs vs) : NewR K mg F H (.ref p) (upd H p (.lst xs)) (.ow (.lst vs)) :=
  ⟨F, TX.refl F H, p, _, h, rfl, rfl, fun n => .lst n upd_same r⟩
theorem newI (i : Int) : NewR K mg F H (.int i) H (.fz (.int i)) := ⟨F, TX.refl F H, .inl ⟨rfl, .int i⟩⟩
theorem newB (b : Bool) : NewR K mg F H (.bl b) H (.fz (.bl b)) := ⟨F, TX.refl F H, .inl ⟨rfl, .bl b⟩⟩
theorem newS (l : List Nat) : NewR K mg F H (.str (toS l)) H (.fz (.str l)) := ⟨F, TX.refl F H, .inl ⟨rfl, .str l⟩⟩
theorem newR {x : V} {v : Val} (h : Rep K mg F x v) : NewR K mg F H x H (.fz v) := ⟨F, TX.refl F H, .inl ⟨rfl, h⟩⟩
theorem Reps.rep {xs : List V} {vs : List Val} (r : Reps K mg F xs vs) : ∀ n, Reps K mg F (List.replicate n xs).flatten (repV vs n)
  | 0 => .nil
  | n + 1 => by
    rw [List.replicate_succ, List.flatten_cons]
    exact r.app (Reps.rep r n)
end
theorem repS_pow (l : List Nat) : ∀ n, GH.pow l n = repS l n
  | 0 => rfl
  | n + 1 => by show l ++ GH.pow l n = l ++ repS l n; rw [repS_pow l n]
section
variable {X : Cx}
theorem op_bin (o : Bin) : OpR X (binaryOp (bOp o)) (rBin X.K X.mg o) := by
  intro pins s σ H x y v u Q I rx ry h
  obtain ⟨F, a, b, r, e, ra, rb, hb, k⟩ := h
  have int2 : ∀ {i j : Int}, x = .int i → y = .int j → True := fun _ _ => trivial
  cases o with
  | add =>
    cases ra with
    | int i => cases rb <;> simp only [binF] at hb <;> cases hb; exact op_add pins s σ H _ _ v u Q I rx ry ⟨_, _, rfl, rfl, k _ _ (newI _)⟩
    | str i =>
      cases rb <;> simp only [binF] at hb <;> try cases hb
      split at hb
      · cases hb
        rename_i hz
        exact op_add_str pins s σ H _ _ v u Q I rx ry ⟨_, _, rfl, rfl, by rw [toS_len, toS_len]; exact cap_line hz, by rw [toS_app]; exact k _ _ (newS _)⟩
      · cases hb
    | lst s1 r1 =>
      cases rb <;> simp only [binF] at hb <;> try cases hb
      rename_i s2 r2
      split at hb
      · cases hb
        rename_i hz
        exact op_cat pins s σ H _ _ v u Q I rx ry ⟨_, _, _, _, rfl, rfl, s1, s2, by rw [r1.length, r2.length]; exact cap_line hz, fun p hp => k _ _ (newL hp (r1.app r2))⟩
      · cases hb
    | tup s1 r1 =>
      cases rb <;> simp only [binF] at hb <;> try cases hb
      rename_i s2 r2
      split at hb
      · cases hb
        rename_i hz
        refine op_catA pins s σ H _ _ v u Q I rx ry ⟨_, _, _, _, rfl, rfl, .inl (.inl (e _ _ s1)), .inl (.inl (e _ _ s2)), by rw [r1.length, r2.length]; exact cap_line hz, fun z => ?_, fun _ z => ?_, fun _ _ p hp => k _ _ (newT hp (r1.app r2))⟩
        · subst z; cases r1; exact k _ _ (newR (.tup s2 r2))
        · subst z; cases r2; rw [List.append_nil] at k; exact k _ _ (newR (.tup s1 r1))
      · cases hb
    | _ => simp only [binF] at hb; cases hb
  | sub =>
    cases ra with
    | int i => cases rb <;> simp only [binF] at hb <;> cases hb; exact op_sub pins s σ H _ _ v u Q I rx ry ⟨_, _, rfl, rfl, k _ _ (newI _)⟩
    | _ => simp only [binF] at hb; cases hb
  | mul =>
    cases ra with
    | int i =>
      cases rb <;> simp only [binF] at hb <;> try cases hb
      split at hb
      · cases hb
        rename_i hz
        refine op_mul pins s σ H _ _ v u Q I rx ry ⟨_, _, rfl, rfl, ?_, k _ _ (newI _)⟩
        simp only [small, Bool.or_eq_true, Bool.and_eq_true, decide_eq_true_eq] at hz
        exact hz
      · cases hb
    | str i =>
      cases rb <;> simp only [binF] at hb <;> try cases hb
      rename_i j
      split at hb
      · cases hb
        rename_i hz
        obtain ⟨h1, h2, h3⟩ := hz
        refine GH.op_mulS pins s σ H _ _ v u Q I rx ry ⟨i, j.toNat, rfl, ?_, by omega, by omega, h1, ?_⟩
        · congr 1; omega
        · rw [repS_pow]; exact k _ _ (newS _)
      · cases hb
    | lst s1 r1 =>
      cases rb <;> simp only [binF] at hb <;> try cases hb
      rename_i j
      split at hb
      · cases hb
        rename_i hz
        obtain ⟨h1, h2, h3⟩ := hz
        refine op_rep pins s σ H _ _ v u Q I rx ry ⟨_, _, _, rfl, rfl, s1, by omega, by omega, ?_, fun p hp => k _ _ (newL hp (r1.rep _))⟩
        rw [r1.length, sizeLine_eq]
        have : j.toNat ≤ 1000 := by omega
        have := Nat.mul_le_mul h1 this
        omega
      · cases hb
    | tup s1 r1 =>
      cases rb <;> simp only [binF] at hb <;> try cases hb
      rename_i j
      split at hb
      · cases hb
        rename_i hz
        obtain ⟨h1, h2, h3, h4⟩ := hz
        have hl := r1.length
        refine (GH.op_repA (X := X) (K := X.K) rfl) pins s σ H _ _ v u Q I rx ry ⟨_, j.toNat, _, rfl, by congr 1; omega, .inl (.inl (e _ _ s1)), fun z => ?_, by omega, by omega, by omega, fun z => ?_, fun _ p hp => k _ _ (newT hp (r1.rep _))⟩
        · subst z; simp at hl; omega
        · rw [z] at k
          have : ∀ l : List Val, repV l 1 = l := fun l => by show l ++ [] = l; simp
          rw [this] at k
          exact k _ _ (newR (.tup s1 r1))
      · cases hb
    | _ => simp only [binF] at hb; cases hb
  | mod =>
    cases ra with
    | int i =>
      cases rb <;> simp only [binF] at hb <;> try cases hb
      split at hb
      · cases hb
        rename_i hz
        exact op_mod pins s σ H _ _ v u Q I rx ry ⟨_, _, rfl, rfl, hz, k _ _ (newI _)⟩
      · cases hb
    | _ => simp only [binF] at hb; cases hb
  | fdiv =>
    cases ra with
    | int i =>
      cases rb <;> simp only [binF] at hb <;> try cases hb
      split at hb
      · cases hb
        rename_i hz
        exact op_fdiv pins s σ H _ _ v u Q I rx ry ⟨_, _, rfl, rfl, ⟨hz.1, by have := hz.2; omega⟩, k _ _ (newI _)⟩
      · cases hb
    | _ => simp only [binF] at hb; cases hb
  | pow =>
    cases ra with
    | int i =>
      cases rb <;> simp only [binF] at hb <;> try cases hb
      split at hb
      · cases hb
        rename_i hz
        obtain ⟨h1, h2, h3, h4⟩ := hz
        exact op_pow pins s σ H _ _ v u Q I rx ry ⟨_, _, rfl, rfl, ⟨h3, by omega, by omega⟩, k _ _ (newI _)⟩
      · cases hb
    | _ => simp only [binF] at hb; cases hb
end
end EV
namespace EV
open PySem PySem.Spec PyProof.Rows L2
def cOp : Cmp → CmpOp
  | .eq => .Eq | .ne => .NotEq | .lt => .Lt | .le => .LtE | .gt => .Gt | .ge => .GtE | .isin => .In | .notin => .NotIn | .is => .Is | .isnt => .IsNot
theorem shp_D {v : Val} (h : shp v = true) : ∃ d, toD v = some d ∧ SeqAt.shaped d = true := by
  unfold shp at h
  split at h
  · exact ⟨_, by assumption, h⟩
  · cases h
/-! keys -/
theorem keyV_eqv : ∀ a b : Key, eqv (keyV a) (keyV b) = decide (a = b)
  | .inl i, .inl j => by simp [keyV, eqv]; rw [Bool.eq_iff_iff]; simp
  | .inl i, .inr y => by simp [keyV, eqv]
  | .inr x, .inl j => by simp [keyV, eqv]
  | .inr x, .inr y => by
    simp only [keyV, eqv]
    rw [Bool.eq_iff_iff]
    simp only [beq_iff_eq, decide_eq_true_eq, Sum.inr.injEq]
    constructor
    · intro h
      cases x; cases y
      simp only at h
      congr 1
      exact Array.ext' h
    · intro h; rw [h]
theorem keyVs_eqv : ∀ a b : List Key, eqvs (a.map keyV) (b.map keyV) = decide (a = b)
  | [], [] => by simp [eqvs]
  | [], _ :: _ => by simp [eqvs]
  | _ :: _, [] => by simp [eqvs]
  | x :: r, y :: s => by
    simp only [List.map_cons, eqvs]
    rw [keyV_eqv, keyVs_eqv r s, Bool.eq_iff_iff]
    simp
theorem keyV_tup (a : Key) (l : List Val) : eqv (keyV a) (.tup l) = false ∧ eqv (.tup l) (keyV a) = false := by
  cases a <;> exact ⟨rfl, rfl⟩
section
variable {K : PySem.W.Frag} {mg : Str → Option Value} {F H : Hp}
theorem RepB.key {x : V} {v : Val} (r : RepB K mg F H x v) (h : keyOk v = true) : ∃ k : Key, x = kV k ∧ v = keyV k := by
  cases r with
  | int i => exact ⟨.inl i, rfl, rfl⟩
  | str l => exact ⟨.inr (toS l), rfl, by simp [keyV, toS]⟩
  | _ => cases h
theorem Rep.key {x : V} {v : Val} (r : Rep K mg F x v) (h : keyOk v = true) : ∃ k : Key, x = kV k ∧ v = keyV k := RepB.key (H := F) (Rep.b (Ex'.refl F) r) h
theorem Reps.keys : ∀ {xs : List V} {vs : List Val}, Reps K mg F xs vs → vs.all keyOk = true → ∃ ks : List Key, xs = ks.map kV ∧ vs = ks.map keyV
  | _, _, .nil, _ => ⟨[], rfl, rfl⟩
  | _, _, .cons a r, h => by
    simp only [List.all_cons, Bool.and_eq_true] at h
    obtain ⟨k, rfl, rfl⟩ := Rep.key a h.1
    obtain ⟨ks, rfl, rfl⟩ := Reps.keys r h.2
    exact ⟨k :: ks, rfl, rfl⟩
/-- look up -/
theorem RepK.look : ∀ {ks : List (Key × V)} {kvs : List (Val × Val)} (k : Key), RepK K mg F ks kvs → (look kvs (keyV k) = none ∧ valV ks k = none) ∨ ∃ v x, look kvs (keyV k) = some v ∧ valV ks k = some x ∧ Rep K mg F x v
  | _, _, _, .nil => .inl ⟨rfl, rfl⟩
  | _, _, k, .cons (k := j) (x := x) (v := v) (kvs := kvs) a r => by
    by_cases e : j = k
    · subst e
      refine .inr ⟨v, x, ?_, valV_pos rfl, a⟩
      simp [EV.look, List.find?_cons, keyV_eqv]
    · have e2 : eqv (keyV j) (keyV k) = false := by rw [keyV_eqv]; exact decide_eq_false e
      rw [valV_neg (p := (j, x)) e]
      have e3 : EV.look ((keyV j, v) :: kvs) (keyV k) = EV.look kvs (keyV k) := by
        simp [EV.look, List.find?_cons, e2]
      rw [e3]
      exact RepK.look k r
theorem RepT.look : ∀ {ks : List (List Key × V)} {kvs : List (Val × Val)} (k : List Key), RepT K mg F ks kvs → (look kvs (.tup (k.map keyV)) = none ∧ valV ks k = none) ∨ ∃ v x, look kvs (.tup (k.map keyV)) = some v ∧ valV ks k = some x ∧ Rep K mg F x v
  | _, _, _, .nil => .inl ⟨rfl, rfl⟩
  | _, _, k, .cons (k := j) (x := x) (v := v) (kvs := kvs) a r => by
    by_cases e : j = k
    · subst e
      refine .inr ⟨v, x, ?_, valV_pos rfl, a⟩
      simp [EV.look, List.find?_cons, eqv, keyVs_eqv]
    · have e2 : eqv (.tup (j.map keyV)) (.tup (k.map keyV)) = false := by simp only [eqv]; rw [keyVs_eqv]; exact decide_eq_false e
      rw [valV_neg (p := (j, x)) e]
      have e3 : EV.look ((Val.tup (j.map keyV), v) :: kvs) (.tup (k.map keyV)) = EV.look kvs (.tup (k.map keyV)) := by
        simp [EV.look, List.find?_cons, e2]
      rw [e3]
      exact RepT.look k r
theorem RepK.fits0 : ∀ {ks : List (Key × V)} {kvs : List (Val × Val)} {l : List Val}, RepK K mg F ks kvs → fits kvs (.tup l) = true → ks = [] ∧ kvs = []
  | _, _, _, .nil, _ => ⟨rfl, rfl⟩
  | _, _, _, .cons (k := k) a r, h => by
    simp only [fits, List.all_cons, Bool.and_eq_true] at h
    cases k <;> exact absurd h.1 (by simp [keyV, isTup])
theorem RepT.fits0 : ∀ {ks : List (List Key × V)} {kvs : List (Val × Val)} {k : Key}, RepT K mg F ks kvs → fits kvs (keyV k) = true → ks = [] ∧ kvs = []
  | _, _, _, .nil, _ => ⟨rfl, rfl⟩
  | _, _, k, .cons a r, h => by
    simp only [fits, List.all_cons, Bool.and_eq_true] at h
    cases k <;> exact absurd h.1 (by simp [keyV, isTup])
end
theorem toH0 {P : Program} {w : World} {κ κ' : Type} [DecidableEq κ] [DecidableEq κ'] {knd : KeyKind P w κ} {knd' : HeapKind P w κ'} {h : Heap} {a : Addr} (d : h.DictOf knd a []) : h.DictOfH knd' a [] := by
  obtain ⟨o, es, ep, h1, h2, h3, h4, h5, h6⟩ := d
  have e : es.toList = [] := List.length_eq_zero_iff.mp h5.length
  exact ⟨o, es, ep, h1, h2, h3, by rw [e]; rfl, ⟨fun x hx => absurd hx (by simp), List.nodup_nil⟩⟩
theorem toK0 {P : Program} {w : World} {κ κ' : Type} [DecidableEq κ] [DecidableEq κ'] {knd : KeyKind P w κ} {knd' : HeapKind P w κ'} {h : Heap} {a : Addr} (d : h.DictOfH knd' a []) : h.DictOf knd a [] := by
  obtain ⟨o, es, ep, h1, h2, h3, h4, h5, h6⟩ := d
  have e : es.toList = [] := by rw [h4]; rfl
  refine ⟨o, es, ep, h1, h2, h3, ?_, by rw [e]; exact .nil, List.nodup_nil⟩
  have e2 : es = #[] := by
    apply Array.ext'
    rw [e]
  subst e2
  intro i hi
  simp at hi
section
variable {X : Cx} {pins : List (Addr × Obj)} {σ : L2.St} {H F : Hp} {s : Shared} {a : Addr} {x : V} {kvs : List (Val × Val)} {k : Val} {u : Value}
/-- a dict by either kind of keys -/
inductive DIs (X : Cx) (F H : Hp) (s : Shared) (a : Addr) (x : V) (k : Val) (kvs : List (Val × Val)) : Prop
  | k (j : Key) (ks : List (Key × V)) (vs : List (Key × Value)) : x = kV j → k = keyV j → RepK X.K X.mg F ks kvs → (a == sysModules) = false → KV ks vs → s.heap.DictOf (mixKind X.prog X.w) a vs → DIs X F H s a x k kvs
  | t (j : List Key) (b : Addr) (ks : List (List Key × V)) (xs : List (List Key × Addr × Value)) : x = .ref b → k = .tup (j.map keyV) → H b = some (.tup (j.map kV)) → RepT X.K X.mg F ks kvs → (a == sysModules) = false → KT H ks xs → s.heap.DictOfH (tupleKind (mixKind X.prog X.w)) a xs → DIs X F H s a x k kvs
theorem dict_is (I : Inv X pins σ H s) (e : Ex' F H) (r : RepB X.K X.mg F H (.ref a) (.dct kvs)) (rk : RepB X.K X.mg F H x k) (hk : dkey k = true) (hf : fits kvs k = true) : DIs X F H s a x k kvs := by
  have tup : keyOk k = false → ∃ (j : List Key) (b : Addr), x = .ref b ∧ k = .tup (j.map keyV) ∧ H b = some (.tup (j.map kV)) := fun hn => by
    cases rk with
    | tup q rs =>
      obtain ⟨js, rfl, rfl⟩ := rs.keys (by simpa [dkey] using hk)
      exact ⟨js, _, rfl, rfl, e _ _ q⟩
    | int i => cases hn
    | str l => cases hn
    | _ => cases hk
  cases r with
  | dk h r =>
    obtain ⟨z, hd, vs, rel, dd⟩ := dk_rd I.hok h
    by_cases ht : keyOk k = true
    · obtain ⟨j, rfl, rfl⟩ := rk.key ht
      exact .k j _ vs rfl rfl r hd rel dd
    · obtain ⟨j, b, rfl, rfl, hb⟩ := tup (by simpa using ht)
      obtain ⟨rfl, rfl⟩ := r.fits0 hf
      cases rel
      exact .t j b [] [] rfl rfl hb .nil hd .nil (toH0 dd)
  | dt h r =>
    obtain ⟨z, hd, xs, rel, dd⟩ := dt_rd I.hok h
    by_cases ht : keyOk k = true
    · obtain ⟨j, rfl, rfl⟩ := rk.key ht
      obtain ⟨rfl, rfl⟩ := r.fits0 hf
      cases rel
      exact .k j [] [] rfl rfl .nil hd .nil (toK0 dd)
    · obtain ⟨j, b, rfl, rfl, hb⟩ := tup (by simpa using ht)
      exact .t j b _ xs rfl rfl hb r hd rel dd
theorem dict_in {A : Around} {E : Value → Shared → Prop} {Q : Value → Shared → Prop} (hu : A.units + 1 < cLine) (I : Inv X pins σ H s) (d : DIs X F H s a x k kvs) (ru : RelV x u) (h : ∀ s', Inv X pins σ H s' → Q (.bool (look kvs k).isSome) s') :
    wpAny (model X.prog X.w) A (compareOp .In u (.ref a)) Q E s := by
  cases d with
  | k j ks vs ex ek r hd rel dd =>
    subst ex ek
    refine wpAny_in_of (kV_is ru) hd dd.mapOf ?_
    rw [← (rel.val j).isSome_eq]
    rcases r.look j with ⟨h1, h2⟩ | ⟨v, y, h1, h2, h3⟩
    · rw [h2]; rw [h1] at h; exact h _ (I.tok _)
    · rw [h2]; rw [h1] at h; exact h _ (I.tok _)
  | t j b ks xs ex ek hb r hd rel dd =>
    subst ex ek
    cases (show u = Value.ref b from ru)
    refine wpAny_in_heap (tupleKind_room_in1 hu) (key_of I.hok hb) hd dd ?_
    have q := (rel.val j).isSome_eq
    rw [Option.isSome_map] at q
    rw [← q]
    rcases r.look j with ⟨h1, h2⟩ | ⟨v, y, h1, h2, h3⟩
    · rw [h2]; rw [h1] at h; exact h _ (I.tok _)
    · rw [h2]; rw [h1] at h; exact h _ (I.tok _)
theorem dict_notIn {A : Around} {E : Value → Shared → Prop} {Q : Value → Shared → Prop} (hu : A.units + 1 < cLine) (I : Inv X pins σ H s) (d : DIs X F H s a x k kvs) (ru : RelV x u) (h : ∀ s', Inv X pins σ H s' → Q (.bool (!(look kvs k).isSome)) s') :
    wpAny (model X.prog X.w) A (compareOp .NotIn u (.ref a)) Q E s := by
  cases d with
  | k j ks vs ex ek r hd rel dd =>
    subst ex ek
    refine wpAny_notIn_of (kV_is ru) hd dd.mapOf ?_
    rw [← (rel.val j).isSome_eq]
    rcases r.look j with ⟨h1, h2⟩ | ⟨v, y, h1, h2, h3⟩
    · rw [h2]; rw [h1] at h; exact h _ (I.tok _)
    · rw [h2]; rw [h1] at h; exact h _ (I.tok _)
  | t j b ks xs ex ek hb r hd rel dd =>
    subst ex ek
    cases (show u = Value.ref b from ru)
    refine wpAny_notIn_heap (tupleKind_room_in1 hu) (key_of I.hok hb) hd dd ?_
    have q := (rel.val j).isSome_eq
    rw [Option.isSome_map] at q
    rw [← q]
    rcases r.look j with ⟨h1, h2⟩ | ⟨v, y, h1, h2, h3⟩
    · rw [h2]; rw [h1] at h; exact h _ (I.tok _)
    · rw [h2]; rw [h1] at h; exact h _ (I.tok _)
theorem dict_look {v : Val} (r : RepB X.K X.mg F H (.ref a) (.dct kvs)) (e : Ex' F H) (rk : RepB X.K X.mg F H x k) (hk : dkey k = true) (hf : fits kvs k = true) (hl : look kvs k = some v) : ∃ y, DGet H a x (some y) ∧ Rep X.K X.mg F y v := by
  have hne : kvs ≠ [] := fun z => by subst z; cases hl
  cases r with
  | dk h r =>
    by_cases ht : keyOk k = true
    · obtain ⟨j, rfl, rfl⟩ := rk.key ht
      rcases r.look j with ⟨h1, h2⟩ | ⟨v', y, h1, h2, h3⟩
      · rw [h1] at hl; cases hl
      · rw [h1] at hl; cases hl
        exact ⟨y, .inl ⟨_, j, h, rfl, h2.symm⟩, h3⟩
    · cases rk with
      | tup q rs => exact absurd (r.fits0 hf).2 hne
      | int i => exact absurd rfl ht
      | str l => exact absurd rfl ht
      | _ => cases hk
  | dt h r =>
    by_cases ht : keyOk k = true
    · obtain ⟨j, rfl, rfl⟩ := rk.key ht
      exact absurd (r.fits0 hf).2 hne
    · cases rk with
      | tup q rs =>
        obtain ⟨js, rfl, rfl⟩ := rs.keys (by simpa [dkey] using hk)
        rcases r.look js with ⟨h1, h2⟩ | ⟨v', y, h1, h2, h3⟩
        · rw [h1] at hl; cases hl
        · rw [h1] at hl; cases hl
          exact ⟨y, .inr ⟨_, js, _, h, rfl, e _ _ q, h2.symm⟩, h3⟩
      | int i => exact absurd rfl ht
      | str l => exact absurd rfl ht
      | _ => cases hk
end
/-! ### comparisons -/
def rCmp (K : PySem.W.Frag) (mg : Str → Option Value) (o : Cmp) : R2 := fun x y H Q => ∃ F u w c, Ex' F H ∧ RepB K mg F H x u ∧ RepB K mg F H y w ∧ cmpF o u w = some c ∧ Q (.bl c) H
theorem any_D : ∀ {ys : List Val} {ds : List PyData} {x : Val} {d : PyData}, toDs ys = some ds → toD x = some d → (ds.any fun z => PyData.eqv z d) = ys.any fun y => eqv y x
  | [], ds, x, d, h, k => by simp only [toDs] at h; cases h; rfl
  | y :: r, ds, x, d, h, k => by
    simp only [toDs, Option.bind_eq_some_iff, Option.map_eq_some_iff] at h
    obtain ⟨dy, hy, dr, hr, rfl⟩ := h
    rw [List.any_cons, List.any_cons, eqv_D hy k, any_D hr k]
section
variable {X : Cx} {kr : Nat}
theorem op_cmp (hr : Room kr X.A) (o : Cmp) : OpR X (compareOp (cOp o)) (rCmp X.K X.mg o) := by
  intro pins s σ H x y v u Q I rx ry h
  obtain ⟨F, a, b, c, e, ra, rb, hb, k⟩ := h
  have hu : X.A.units + 65 < cLine := by have := hr.un; omega
  have eqq : ∀ {d1 d2 : PyData} {z : Bool}, toD a = some d1 → toD b = some d2 → SeqAt.shaped d1 = true → SeqAt.shaped d2 = true → z = PyData.eqv d1 d2 → True := fun _ _ _ _ _ => trivial
  cases o with
  | eq =>
    simp only [cmpF, eqF] at hb
    split at hb
    · cases hb
      rename_i hs
      rw [Bool.and_eq_true] at hs
      obtain ⟨d1, h1, s1⟩ := shp_D hs.1
      obtain ⟨d2, h2, s2⟩ := shp_D hs.2
      exact op_eqD (by have := hr.units; omega) pins s σ H x y v u Q I rx ry ⟨d1, d2, ra.dp e h1, rb.dp e h2, s1, s2, by rw [eqv_D h1 h2]; exact k⟩
    · cases hb
  | ne =>
    simp only [cmpF, eqF] at hb
    split at hb
    · cases hb
      rename_i hs
      rw [Bool.and_eq_true] at hs
      obtain ⟨d1, h1, s1⟩ := shp_D hs.1
      obtain ⟨d2, h2, s2⟩ := shp_D hs.2
      exact op_neD (by have := hr.units; omega) pins s σ H x y v u Q I rx ry ⟨d1, d2, ra.dp e h1, rb.dp e h2, s1, s2, by rw [eqv_D h1 h2]; exact k⟩
    · cases hb
  | lt =>
    cases ra with
    | int i => cases rb <;> simp only [cmpF] at hb <;> cases hb; exact op_lt pins s σ H _ _ v u Q I rx ry ⟨_, _, rfl, rfl, k⟩
    | str i =>
      cases rb <;> simp only [cmpF] at hb <;> cases hb
      rename_i j
      refine op_lt_str pins s σ H _ _ v u Q I rx ry ⟨toS i, toS j, rfl, rfl, ?_⟩
      have e1 : decide ((toS i).cps.toList < (toS j).cps.toList) = decide (i < j) := by
        rw [Bool.eq_iff_iff]
        simp only [decide_eq_true_eq]
        exact Iff.rfl
      rw [e1]; exact k
    | _ => simp only [cmpF] at hb; cases hb
  | le =>
    cases ra with
    | int i => cases rb <;> simp only [cmpF] at hb <;> cases hb; exact op_le pins s σ H _ _ v u Q I rx ry ⟨_, _, rfl, rfl, k⟩
    | _ => simp only [cmpF] at hb; cases hb
  | gt =>
    cases ra with
    | int i => cases rb <;> simp only [cmpF] at hb <;> cases hb; exact op_gt pins s σ H _ _ v u Q I rx ry ⟨_, _, rfl, rfl, k⟩
    | _ => simp only [cmpF] at hb; cases hb
  | ge =>
    cases ra with
    | int i => cases rb <;> simp only [cmpF] at hb <;> cases hb; exact op_ge pins s σ H _ _ v u Q I rx ry ⟨_, _, rfl, rfl, k⟩
    | _ => simp only [cmpF] at hb; cases hb
  | is =>
    cases rb <;> simp only [cmpF] at hb <;> cases hb
    refine op_isN pins s σ H _ _ v u Q I rx ry ⟨rfl, ?_⟩
    cases ra <;> exact k
  | isnt =>
    cases rb <;> simp only [cmpF] at hb <;> cases hb
    refine op_notN pins s σ H _ _ v u Q I rx ry ⟨rfl, ?_⟩
    cases ra <;> exact k
  | isin =>
    have hb : inF a b = some c := hb
    cases rb with
    | lst s2 r2 =>
      have hb : (if shp a && shp (.lst _) then some (List.any _ fun y => eqv y a) else none) = some c := hb
      split at hb
      · rename_i hs
        cases hb
        rw [Bool.and_eq_true] at hs
        obtain ⟨d1, h1, s1⟩ := shp_D hs.1
        obtain ⟨d2, h2, s2'⟩ := shp_D hs.2
        have rb' := RepB.dp e (RepB.lst s2 r2) h2
        simp only [toD, Option.map_eq_some_iff] at h2
        obtain ⟨ds, h2, rfl⟩ := h2
        exact op_inD hu pins s σ H _ _ v u Q I rx ry ⟨d1, ds, ra.dp e h1, rb', s1, s2', by rw [any_D h2 h1]; exact k⟩
      · cases hb
    | tup s2 r2 =>
      have hb : (if shp a && shp (.tup _) then some (List.any _ fun y => eqv y a) else none) = some c := hb
      split at hb
      · rename_i hs
        cases hb
        rw [Bool.and_eq_true] at hs
        obtain ⟨d1, h1, s1⟩ := shp_D hs.1
        obtain ⟨d2, h2, s2'⟩ := shp_D hs.2
        have rb' := RepB.dp e (RepB.tup s2 r2) h2
        simp only [toD, Option.map_eq_some_iff] at h2
        obtain ⟨ds, h2, rfl⟩ := h2
        obtain ⟨as1, r1⟩ := Dp.reads I d1 _ v (ra.dp e h1) rx
        obtain ⟨bs1, r2⟩ := Dp.reads I (.tuple ds) _ u rb' ry
        refine SeqAt.in_tuple_reads r2 r1 (SeqAt.canLay_of_shaped s2') (SeqAt.canLay_of_shaped s1) (room_in_shaped s1 hu) ⟨.bl _, H, I, rfl, ?_⟩
        rw [any_D h2 h1]; exact k
      · cases hb
    | dk s2 r2 =>
      have hb : (if dkey a && fits _ a then some (look _ a).isSome else none) = some c := hb
      split at hb
      · rename_i hs
        cases hb
        rw [Bool.and_eq_true] at hs
        cases ry
        exact dict_in (by omega) I (dict_is I e (.dk s2 r2) ra hs.1 hs.2) rx fun s' I' => ⟨.bl _, H, I', rfl, k⟩
      · cases hb
    | dt s2 r2 =>
      have hb : (if dkey a && fits _ a then some (look _ a).isSome else none) = some c := hb
      split at hb
      · rename_i hs
        cases hb
        rw [Bool.and_eq_true] at hs
        cases ry
        exact dict_in (by omega) I (dict_is I e (.dt s2 r2) ra hs.1 hs.2) rx fun s' I' => ⟨.bl _, H, I', rfl, k⟩
      · cases hb
    | str l =>
      cases ra with
      | str l1 =>
        match l1, hb with
        | [c1], hb =>
          have hb : some (l.contains c1) = some c := hb
          cases hb
          refine op_in_sign pins s σ H _ _ v u Q I rx ry ⟨c1, toS l, rfl, rfl, ?_⟩
          have e1 : decide (c1 ∈ (toS l).cps.toList) = l.contains c1 := by
            rw [Bool.eq_iff_iff, decide_eq_true_iff]
            exact List.contains_iff_mem.symm
          rw [e1]; exact k
      | _ => cases hb
    | @wtp _ zs s2 =>
      cases ra with
      | str l1 =>
        have hb : some (zs.contains l1) = some c := hb
        cases hb
        have fl : (zs.map fun l => V.str (toS l)).all flatV = true := by simp [flatV]
        refine op_in_seq pins s σ H _ _ v u Q I rx ry ⟨_, _, rfl, .inr (e.sqT s2), rfl, fl, ?_⟩
        have e1 : inV (V.str (toS l1)) (zs.map fun l => V.str (toS l)) = zs.contains l1 := by
          unfold inV
          rw [List.any_map, List.contains_eq_any_beq]
          congr 1
          funext z
          show eqV (V.str (toS z)) (V.str (toS l1)) = (l1 == z)
          have : eqV (V.str (toS z)) (V.str (toS l1)) = (toS z == toS l1) := rfl
          rw [this, toS_inj, Bool.eq_iff_iff, beq_iff_eq, beq_iff_eq]
          exact eq_comm
        simp only [Bool.false_eq_true, if_false]
        rw [e1]; exact k
      | _ => cases hb
    | _ => cases hb
  | notin =>
    have hb : (inF a b).map (!·) = some c := hb
    obtain ⟨c', hq, hc'⟩ := Option.map_eq_some_iff.mp hb
    subst hc'
    clear hb
    cases rb with
    | lst s2 r2 =>
      have hb : (if shp a && shp (.lst _) then some (List.any _ fun y => eqv y a) else none) = some c' := hq
      split at hb
      · rename_i hs
        cases hb
        rw [Bool.and_eq_true] at hs
        obtain ⟨d1, h1, s1⟩ := shp_D hs.1
        obtain ⟨d2, h2, s2'⟩ := shp_D hs.2
        have rb' := RepB.dp e (RepB.lst s2 r2) h2
        simp only [toD, Option.map_eq_some_iff] at h2
        obtain ⟨ds, h2, rfl⟩ := h2
        exact op_notInD hu pins s σ H _ _ v u Q I rx ry ⟨d1, ds, ra.dp e h1, rb', s1, s2', by rw [any_D h2 h1]; exact k⟩
      · cases hb
    | tup s2 r2 =>
      have hb : (if shp a && shp (.tup _) then some (List.any _ fun y => eqv y a) else none) = some c' := hq
      split at hb
      · rename_i hs
        cases hb
        rw [Bool.and_eq_true] at hs
        obtain ⟨d1, h1, s1⟩ := shp_D hs.1
        obtain ⟨d2, h2, s2'⟩ := shp_D hs.2
        have rb' := RepB.dp e (RepB.tup s2 r2) h2
        simp only [toD, Option.map_eq_some_iff] at h2
        obtain ⟨ds, h2, rfl⟩ := h2
        obtain ⟨as1, r1⟩ := Dp.reads I d1 _ v (ra.dp e h1) rx
        obtain ⟨bs1, r2⟩ := Dp.reads I (.tuple ds) _ u rb' ry
        refine SeqAt.notIn_tuple_reads r2 r1 (SeqAt.canLay_of_shaped s2') (SeqAt.canLay_of_shaped s1) (room_in_shaped s1 hu) ⟨.bl _, H, I, rfl, ?_⟩
        rw [any_D h2 h1]; exact k
      · cases hb
    | dk s2 r2 =>
      have hb : (if dkey a && fits _ a then some (look _ a).isSome else none) = some c' := hq
      split at hb
      · rename_i hs
        cases hb
        rw [Bool.and_eq_true] at hs
        cases ry
        exact dict_notIn (by omega) I (dict_is I e (.dk s2 r2) ra hs.1 hs.2) rx fun s' I' => ⟨.bl _, H, I', rfl, k⟩
      · cases hb
    | dt s2 r2 =>
      have hb : (if dkey a && fits _ a then some (look _ a).isSome else none) = some c' := hq
      split at hb
      · rename_i hs
        cases hb
        rw [Bool.and_eq_true] at hs
        cases ry
        exact dict_notIn (by omega) I (dict_is I e (.dt s2 r2) ra hs.1 hs.2) rx fun s' I' => ⟨.bl _, H, I', rfl, k⟩
      · cases hb
    | str l =>
      cases ra with
      | str l1 =>
        match l1, hq with
        | [c1], hq =>
          have hb : some (l.contains c1) = some c' := hq
          cases hb
          refine op_notIn_sign pins s σ H _ _ v u Q I rx ry ⟨c1, toS l, rfl, rfl, ?_⟩
          have e1 : decide (c1 ∈ (toS l).cps.toList) = l.contains c1 := by
            rw [Bool.eq_iff_iff, decide_eq_true_iff]
            exact List.contains_iff_mem.symm
          rw [e1]; exact k
      | _ => cases hq
    | @wtp _ zs s2 =>
      cases ra with
      | str l1 =>
        have hb : some (zs.contains l1) = some c' := hq
        cases hb
        have fl : (zs.map fun l => V.str (toS l)).all flatV = true := by simp [flatV]
        refine op_notIn_seq pins s σ H _ _ v u Q I rx ry ⟨_, _, rfl, .inr (e.sqT s2), rfl, fl, ?_⟩
        have e1 : inV (V.str (toS l1)) (zs.map fun l => V.str (toS l)) = zs.contains l1 := by
          unfold inV
          rw [List.any_map, List.contains_eq_any_beq]
          congr 1
          funext z
          show eqV (V.str (toS z)) (V.str (toS l1)) = (l1 == z)
          have : eqV (V.str (toS z)) (V.str (toS l1)) = (toS z == toS l1) := rfl
          rw [this, toS_inj, Bool.eq_iff_iff, beq_iff_eq, beq_iff_eq]
          exact eq_comm
        simp only [if_true]
        rw [e1]; exact k
      | _ => cases hq
    | _ => cases hq
end
end EV
namespace EV
open PySem PySem.Spec PyProof.Rows L2
theorem ixN_eq (n : Nat) (i : Int) : L2.ixN n i = EV.ixN n i := by
  unfold L2.ixN EV.ixN
  by_cases h0 : 0 ≤ i
  · by_cases h1 : i < n
    · simp [h0, h1]
    · have h2 : ¬ i < 0 := by omega
      simp [h0, h1, h2]
  · have h2 : i < 0 := by omega
    by_cases h1 : -(n : Int) ≤ i
    · simp [h0, h1, h2]
    · simp [h0, h1, h2]
section
variable {K : PySem.W.Frag} {mg : Str → Option Value} {F H : Hp}
theorem Reps.atI {xs : List V} {vs : List Val} {i : Int} {v : Val} (r : Reps K mg F xs vs) (h : ((EV.ixN vs.length i).bind fun j => vs[j]?) = some v) : ∃ x, L2.atI xs i = some x ∧ Rep K mg F x v := by
  obtain ⟨j, h1, h2⟩ := Option.bind_eq_some_iff.mp h
  obtain ⟨x, h3, h4⟩ := r.get h2
  refine ⟨x, ?_, h4⟩
  unfold L2.atI
  rw [ixN_eq, r.length, h1]
  exact h3
def rIdx (K : PySem.W.Frag) (mg : Str → Option Value) : R2 := fun x y H Q => ∃ F u w z, Ex' F H ∧ RepB K mg F H x u ∧ RepB K mg F H y w ∧ idxF u w = some z ∧ ∀ v, Rep K mg F v z → Q v H
def rSlc (K : PySem.W.Frag) (mg : Str → Option Value) : V → Option Int → Option Int → Hp → VK → Prop := fun x lo hi H Q => ∃ F u r, Ex' F H ∧ RepB K mg F H x u ∧ slcF u lo hi = some r ∧ ∀ z H', NewR K mg F H z H' r → Q z H'
theorem sIx_eq (n d : Nat) (o : Option Int) : HT.sIx n d o = EV.sIx n d o := by cases o <;> rfl
theorem Reps.cut {xs : List V} {vs : List Val} (r : Reps K mg F xs vs) (lo hi : Option Int) : Reps K mg F (cutV xs lo hi) (EV.cut vs lo hi) := by
  unfold cutV EV.cut
  rw [sIx_eq, sIx_eq, r.length]
  exact (r.drop _).take _
theorem reps_ints : ∀ ns : List Int, Reps K mg F (ns.map V.int) (ns.map Val.int)
  | [] => .nil
  | n :: r => .cons (.int n) (reps_ints r)
end
section
variable {X : Cx} {kr : Nat}
theorem ix_val (hr : Room kr X.A) : IxR X (rIdx X.K X.mg) := by
  intro value slice pins s σ H x y v u Q I rx ry h hs
  obtain ⟨F, a, b, z, e, ra, rb, hb, k⟩ := h
  have dct : ∀ {ad : Addr} {kvs : List (Val × Val)}, x = .ref ad → RepB X.K X.mg F H (.ref ad) (.dct kvs) → (if dkey b && fits kvs b then look kvs b else none) = some z → wpAny (model X.prog X.w) X.A (subscriptTail value slice v u) (EP X pins σ Q) X.xe s := by
    intro ad kvs ex r hb
    subst ex
    split at hb
    · rename_i hc
      rw [Bool.and_eq_true] at hc
      obtain ⟨w, g, q⟩ := dict_look r e rb hc.1 hc.2 hb
      obtain rfl : v = Value.ref ad := rx
      exact tail_any (dict_typeIs I g) PySem.F.slot_dict_getitem.lookup (d_getItem (by have := hr.un; omega) I g ry fun w' s3 I3 rw' => ⟨w, H, I3, rw', k w q⟩) hs
    · cases hb
  cases ra with
  | lst s1 r1 =>
    cases rb <;> simp only [idxF] at hb <;> try cases hb
    obtain ⟨w, h1, h2⟩ := r1.atI hb
    exact ix_list value slice pins s σ H _ _ v u Q I rx ry ⟨_, _, _, w, rfl, rfl, .inl (.inl s1), h1, k w h2⟩ hs
  | tup s1 r1 =>
    cases rb <;> simp only [idxF] at hb <;> try cases hb
    obtain ⟨w, h1, h2⟩ := r1.atI hb
    exact ix_tup value slice pins s σ H _ _ v u Q I rx ry ⟨_, _, _, w, rfl, rfl, .inl (.inl (e _ _ s1)), h1, k w h2⟩ hs
  | str l =>
    cases rb <;> simp only [idxF] at hb <;> try cases hb
    split at hb
    · rename_i hz
      obtain ⟨j, h1, h2⟩ := Option.bind_eq_some_iff.mp hb
      obtain ⟨c, h3, rfl⟩ := Option.map_eq_some_iff.mp h2
      refine ix_str value slice pins s σ H _ _ v u Q I rx ry ⟨toS l, _, c, rfl, rfl, by rw [toS_len]; exact cap_line hz, ?_, k _ (.str [c])⟩ hs
      unfold L2.atI
      rw [ixN_eq]
      have e1 : (toS l).cps.toList = l := by simp [toS]
      rw [e1, h1]; exact h3
    · cases hb
  | @scr ad ns s1 =>
    cases rb <;> simp only [idxF] at hb <;> try cases hb
    obtain ⟨n, h1, rfl⟩ := Option.map_eq_some_iff.mp hb
    obtain ⟨j, h2, h3⟩ := Option.bind_eq_some_iff.mp h1
    refine ix_list value slice pins s σ H _ _ v u Q I rx ry ⟨_, _, _, .int n, rfl, rfl, s1, ?_, k _ (.int n)⟩ hs
    unfold L2.atI
    rw [ixN_eq, List.length_map, h2]
    show (ns.map V.int)[j]? = some (V.int n)
    rw [List.getElem?_map, h3]; rfl
  | dk s1 r1 => exact dct rfl (.dk s1 r1) (by cases rb <;> exact hb)
  | dt s1 r1 => exact dct rfl (.dt s1 r1) (by cases rb <;> exact hb)
  | _ => simp only [idxF] at hb; cases hb
theorem sl_val : SlR X (rSlc X.K X.mg) := by
  intro pins s σ H x v vl vu lo hi sl Q I rx hs pl pu h
  obtain ⟨F, a, r, e, ra, hb, k⟩ := h
  cases ra with
  | lst s1 r1 =>
    simp only [slcF] at hb; cases hb
    exact sl_list pins s σ H _ v vl vu lo hi sl Q I rx hs pl pu ⟨_, _, rfl, .inl (.inl s1), fun p hp => k _ _ (newL hp (r1.cut lo hi))⟩
  | tup s1 r1 =>
    simp only [slcF] at hb; cases hb
    refine sl_tupA pins s σ H _ v vl vu lo hi sl Q I rx hs pl pu ⟨_, _, rfl, .inl (.inl (e _ _ s1)), fun z => ?_, fun _ p hp => k _ _ (newT hp (r1.cut lo hi))⟩
    have e1 : ∀ l : List Val, EV.sIx l.length 0 lo = 0 → EV.sIx l.length l.length hi = l.length → EV.cut l lo hi = l := fun l h1 h2 => by
      unfold EV.cut
      rw [h1, h2]; simp
    rw [sIx_eq, sIx_eq, r1.length] at z
    rw [e1 _ z.1 z.2] at k
    exact k _ _ (newR (.tup s1 r1))
  | str l =>
    simp only [slcF] at hb
    split at hb
    · rename_i hz
      cases hb
      refine sl_str pins s σ H _ v vl vu lo hi sl Q I rx hs pl pu ⟨toS l, rfl, by rw [toS_len]; exact cap_line hz, ?_⟩
      have e1 : cutS (toS l) lo hi = toS (EV.cut l lo hi) := by
        unfold cutS EV.cut
        rw [sIx_eq, sIx_eq, toS_len]
        simp [toS]
      rw [e1]
      exact k _ _ (newS _)
    · cases hb
  | @scr ad ns s1 =>
    simp only [slcF] at hb; cases hb
    refine sl_list pins s σ H _ v vl vu lo hi sl Q I rx hs pl pu ⟨_, _, rfl, s1, fun p hp => ?_⟩
    have e1 : cutV (ns.map V.int) lo hi = (EV.cut ns lo hi).map V.int := by
      unfold cutV EV.cut
      rw [sIx_eq, sIx_eq, List.length_map, List.map_take, List.map_drop]
    rw [e1]
    exact k _ _ (newL hp (reps_ints _))
  | _ => simp only [slcF] at hb; cases hb
end
/-! ### stores -/
section
variable {K : PySem.W.Frag} {mg : Str → Option Value} {F H : Hp}
theorem RepK.put {ks : List (Key × V)} {kvs : List (Val × Val)} {k : Key} {x : V} {v : Val} (r : RepK K mg F ks kvs) (rx : Rep K mg F x v) : RepK K mg F (putK ks k x) (put kvs (keyV k) v) := by
  have any : ∀ {ks : List (Key × V)} {kvs : List (Val × Val)}, RepK K mg F ks kvs → (kvs.any fun p => eqv p.1 (keyV k)) = ks.any fun kv => decide (kv.1 = k) := by
    intro ks kvs r
    induction ks generalizing kvs with
    | nil => cases r; rfl
    | cons p ps ih => cases r with | cons a r => simp only [List.any_cons, keyV_eqv, ih r]
  have mp : ∀ {ks : List (Key × V)} {kvs : List (Val × Val)}, RepK K mg F ks kvs → RepK K mg F (ks.map fun kv => if kv.1 = k then (kv.1, x) else kv) (kvs.map fun p => if eqv p.1 (keyV k) then (p.1, v) else p) := by
    intro ks kvs r
    induction ks generalizing kvs with
    | nil => cases r; exact .nil
    | cons p ps ih =>
      cases r with
      | @cons j y _ w _ a r =>
        simp only [List.map_cons, keyV_eqv]
        by_cases e : j = k
        · simp only [e, if_true, decide_true]
          exact .cons rx (ih r)
        · simp only [e, if_false, decide_false, Bool.false_eq_true]
          exact .cons a (ih r)
  have ap : ∀ {ks : List (Key × V)} {kvs : List (Val × Val)}, RepK K mg F ks kvs → RepK K mg F (ks ++ [(k, x)]) (kvs ++ [(keyV k, v)]) := by
    intro ks kvs r
    induction ks generalizing kvs with
    | nil => cases r; exact .cons rx .nil
    | cons p ps ih => cases r with | cons a r => exact .cons a (ih r)
  unfold putK EV.put
  rw [any r]
  by_cases h : (ks.any fun kv => decide (kv.1 = k)) = true
  · rw [if_pos h, if_pos h]; exact mp r
  · rw [if_neg h, if_neg h]; exact ap r
theorem RepT.put {ks : List (List Key × V)} {kvs : List (Val × Val)} {k : List Key} {x : V} {v : Val} (r : RepT K mg F ks kvs) (rx : Rep K mg F x v) : RepT K mg F (putK ks k x) (put kvs (.tup (k.map keyV)) v) := by
  have ek : ∀ j : List Key, eqv (.tup (j.map keyV)) (.tup (k.map keyV)) = decide (j = k) := fun j => by simp only [eqv]; exact keyVs_eqv j k
  have any : ∀ {ks : List (List Key × V)} {kvs : List (Val × Val)}, RepT K mg F ks kvs → (kvs.any fun p => eqv p.1 (.tup (k.map keyV))) = ks.any fun kv => decide (kv.1 = k) := by
    intro ks kvs r
    induction ks generalizing kvs with
    | nil => cases r; rfl
    | cons p ps ih => cases r with | cons a r => simp only [List.any_cons, ek, ih r]
  have mp : ∀ {ks : List (List Key × V)} {kvs : List (Val × Val)}, RepT K mg F ks kvs → RepT K mg F (ks.map fun kv => if kv.1 = k then (kv.1, x) else kv) (kvs.map fun p => if eqv p.1 (.tup (k.map keyV)) then (p.1, v) else p) := by
    intro ks kvs r
    induction ks generalizing kvs with
    | nil => cases r; exact .nil
    | cons p ps ih =>
      cases r with
      | @cons j y _ w _ a r =>
        simp only [List.map_cons, ek]
        by_cases e : j = k
        · simp only [e, if_true, decide_true]
          exact .cons rx (ih r)
        · simp only [e, if_false, decide_false, Bool.false_eq_true]
          exact .cons a (ih r)
  have ap : ∀ {ks : List (List Key × V)} {kvs : List (Val × Val)}, RepT K mg F ks kvs → RepT K mg F (ks ++ [(k, x)]) (kvs ++ [(.tup (k.map keyV), v)]) := by
    intro ks kvs r
    induction ks generalizing kvs with
    | nil => cases r; exact .cons rx .nil
    | cons p ps ih => cases r with | cons a r => exact .cons a (ih r)
  unfold putK EV.put
  rw [any r]
  by_cases h : (ks.any fun kv => decide (kv.1 = k)) = true
  · rw [if_pos h, if_pos h]; exact mp r
  · rw [if_neg h, if_neg h]; exact ap r
theorem RepK.length : ∀ {ks : List (Key × V)} {kvs : List (Val × Val)}, RepK K mg F ks kvs → ks.length = kvs.length
  | _, _, .nil => rfl
  | _, _, .cons _ r => by simp [RepK.length r]
theorem RepT.length : ∀ {ks : List (List Key × V)} {kvs : List (Val × Val)}, RepT K mg F ks kvs → ks.length = kvs.length
  | _, _, .nil => rfl
  | _, _, .cons _ r => by simp [RepT.length r]
end
section
variable {X : Cx} {pins : List (Addr × Obj)} {σ : L2.St} {H F : Hp} {s : Shared} {kr : Nat}
/-- an empty dict seen by the other kind of keys -/
theorem seeT {a : Addr} (I : Inv X pins σ H s) (h : H a = some (.dK [])) : Inv X pins σ (upd H a (.dT [])) s := by
  obtain ⟨z, hd, vs, rel, dd⟩ := dk_of I.hok h
  cases rel
  obtain ⟨o, es, ep, h1, h2, h3, h4, h5, h6⟩ := toH0 (knd' := tupleKind (mixKind X.prog X.w)) dd
  exact I.write (t' := s.toks) (by rw [h]; exact True.intro) (.inl rfl) (fun _ _ _ q => q) ⟨o, h1⟩ ⟨Nat.zero_le _, hd, [], .nil, o, es, ep, h1, h2, h3, h4, List.nodup_nil⟩
theorem seeK {a : Addr} (I : Inv X pins σ H s) (h : H a = some (.dT [])) : Inv X pins σ (upd H a (.dK [])) s := by
  obtain ⟨z, hd, xs, rel, dd⟩ := dt_of I.hok h
  cases rel
  have d2 := toK0 (knd := mixKind X.prog X.w) dd
  obtain ⟨o, es, ep, h1, _⟩ := id d2
  exact I.write (t' := s.toks) (by rw [h]; exact True.intro) (.inl rfl) (fun _ _ _ q => q) ⟨o, h1⟩ ⟨Nat.zero_le _, hd, [], .nil, d2⟩
/-- o[i] = v of a place's own list or dict -/
def rSetV (K : PySem.W.Frag) (mg : Str → Option Value) : TSet := fun o i v H Q => ∃ F a u w x r, o = .ref a ∧ Ex' F H ∧ Own K mg F H a u ∧ RepB K mg F H i w ∧ Rep K mg F v x ∧ setF u w x = some r ∧ ∀ ob, Own K mg F (upd H a ob) a r → Q (upd H a ob)
theorem set_val (hr : Room kr X.A) : PSet X (rSetV X.K X.mg) := by
  intro pins s σ H o i v ov iv u Q I ro ri rv h
  obtain ⟨F, a, c, w, x, r, rfl, e, ow, rw', rx, hb, k⟩ := h
  have hu : X.A.units + 1 < cLine := by have := hr.un; omega
  obtain rfl : ov = Value.ref a := ro
  cases ow with
  | @lst xs vs n h rs =>
    cases rw' <;> simp only [setF] at hb <;> try cases hb
    obtain ⟨j, h1, rfl⟩ := Option.map_eq_some_iff.mp hb
    exact set_list pins s σ H (.ref a) _ v _ iv u Q I rfl ri rv ⟨a, xs, _, j, rfl, rfl, h, by rw [ixN_eq, rs.length]; exact h1, k _ (.lst n upd_same (rs.set j rx))⟩
  | @dk ks kvs n h rs =>
    have hb : (if kvs.length < cap ∧ dkey w = true ∧ fits kvs w = true then some (Val.dct (put kvs w x)) else none) = some r := by cases rw' <;> exact hb
    split at hb
    · rename_i hc
      obtain ⟨hz, hk, hf⟩ := hc
      cases hb
      have hl : ks.length < sizeLine := by rw [rs.length, sizeLine_eq]; unfold cap at hz; omega
      by_cases ht : keyOk w = true
      · obtain ⟨j, rfl, rfl⟩ := rw'.key ht
        exact d_setItem hu I (.k h hl) ri rv fun s' I' => ⟨_, I', k _ (.dk n upd_same (rs.put rx))⟩
      · cases rw' with
        | tup q qs =>
          obtain ⟨js, rfl, rfl⟩ := qs.keys (by simpa [dkey] using hk)
          obtain ⟨rfl, rfl⟩ := rs.fits0 hf
          have I2 := seeT I h
          have hne : ∀ b ys, H b = some (.tup ys) → b ≠ a := fun b ys q z => by rw [z, h] at q; cases q
          refine d_setItem hu I2 (.t upd_same (by rw [upd_ne (hne _ _ (e _ _ q))]; exact e _ _ q) hl) ri rv fun s' I' => ⟨_, I', ?_⟩
          rw [upd_upd]
          exact k _ (.dt n upd_same (RepT.put .nil rx))
        | int i => exact absurd rfl ht
        | str l => exact absurd rfl ht
        | _ => cases hk
    · cases hb
  | @dt ks kvs n h rs =>
    have hb : (if kvs.length < cap ∧ dkey w = true ∧ fits kvs w = true then some (Val.dct (put kvs w x)) else none) = some r := by cases rw' <;> exact hb
    split at hb
    · rename_i hc
      obtain ⟨hz, hk, hf⟩ := hc
      cases hb
      have hl : ks.length < sizeLine := by rw [rs.length, sizeLine_eq]; unfold cap at hz; omega
      by_cases ht : keyOk w = true
      · obtain ⟨j, rfl, rfl⟩ := rw'.key ht
        obtain ⟨rfl, rfl⟩ := rs.fits0 hf
        have I2 := seeK I h
        refine d_setItem hu I2 (.k upd_same hl) ri rv fun s' I' => ⟨_, I', ?_⟩
        rw [upd_upd]
        exact k _ (.dk n upd_same (RepK.put .nil rx))
      · cases rw' with
        | tup q qs =>
          obtain ⟨js, rfl, rfl⟩ := qs.keys (by simpa [dkey] using hk)
          exact d_setItem hu I (.t h (e _ _ q) hl) ri rv fun s' I' => ⟨_, I', k _ (.dt n upd_same (rs.put rx))⟩
        | int i => exact absurd rfl ht
        | str l => exact absurd rfl ht
        | _ => cases hk
    · cases hb
  | obj n h rs => simp only [setF] at hb; cases hb
end
end EV
namespace EV
open PySem PySem.Spec PyProof.Rows L2
abbrev RBs (K : PySem.W.Frag) (mg : Str → Option Value) (F H : Hp) : List V → List Val → Prop := Paired (RepB K mg F H)
def rBlt (K : PySem.W.Frag) (mg : Str → Option Value) (b : Bl) : List V → Hp → VK → Prop := fun xs H Q => ∃ F us r, Ex' F H ∧ RBs K mg F H xs us ∧ bltF b us = some r ∧ ∀ z H', NewR K mg F H z H' r → Q z H'
section
variable {K : PySem.W.Frag} {mg : Str → Option Value} {F H : Hp}
theorem reps_bools : ∀ {xs : List V} {vs : List Val} {bs : List Bool}, Reps K mg F xs vs → allB vs = some bs → xs = bs.map V.bl
  | _, _, _, .nil, h => by simp only [allB] at h; cases h; rfl
  | _, _, _, .cons (v := v) a r, h => by
    cases a with
    | bl b =>
      simp only [allB, Option.map_eq_some_iff] at h
      obtain ⟨bs, h, rfl⟩ := h
      rw [reps_bools r h]; rfl
    | _ => simp only [allB] at h; cases h
theorem reps_ints' : ∀ {xs : List V} {vs : List Val} {ns : List Int}, Reps K mg F xs vs → allI vs = some ns → xs = ns.map V.int
  | _, _, _, .nil, h => by simp only [allI] at h; cases h; rfl
  | _, _, _, .cons (v := v) a r, h => by
    cases a with
    | int b =>
      simp only [allI, Option.map_eq_some_iff] at h
      obtain ⟨bs, h, rfl⟩ := h
      rw [reps_ints' r h]; rfl
    | _ => simp only [allI] at h; cases h
theorem reps_strs : ∀ {xs : List V} {vs : List Val} {ls : List (List Nat)}, Reps K mg F xs vs → allS vs = some ls → xs = (ls.map toS).map V.str
  | _, _, _, .nil, h => by simp only [allS] at h; cases h; rfl
  | _, _, _, .cons (v := v) a r, h => by
    cases a with
    | str b =>
      simp only [allS, Option.map_eq_some_iff] at h
      obtain ⟨bs, h, rfl⟩ := h
      rw [reps_strs r h]; rfl
    | _ => simp only [allS] at h; cases h
theorem maxI_mem : ∀ (is : List Int) (m : Int), (maxI m is = m ∨ maxI m is ∈ is) ∧ m ≤ maxI m is ∧ ∀ y ∈ is, y ≤ maxI m is
  | [], m => ⟨.inl rfl, Int.le_refl _, fun y hy => nomatch hy⟩
  | i :: r, m => by
    obtain ⟨h1, h2, h3⟩ := maxI_mem r (max m i)
    simp only [maxI]
    refine ⟨?_, by omega, fun y hy => ?_⟩
    · rcases h1 with h1 | h1
      · rw [h1]
        by_cases h : m ≤ i
        · exact .inr (by rw [Int.max_eq_right h]; simp)
        · exact .inl (by rw [Int.max_eq_left (by omega)])
      · exact .inr (List.mem_cons_of_mem _ h1)
    · rcases List.mem_cons.mp hy with rfl | hy
      · omega
      · exact h3 y hy
theorem reps_sign : ∀ l : List Nat, Reps K mg F (l.map fun c => V.str ⟨#[c]⟩) (l.map fun c => Val.str [c])
  | [] => .nil
  | c :: r => .cons (.str [c]) (reps_sign r)
theorem repK_keys : ∀ {ks : List (Key × V)} {kvs : List (Val × Val)}, RepK K mg F ks kvs → Reps K mg F (ks.map fun kv => kV kv.1) (kvs.map (·.1))
  | _, _, .nil => .nil
  | _, _, .cons (k := k) a r => by
    refine .cons ?_ (repK_keys r)
    cases k with
    | inl i => exact .int i
    | inr x => exact (show Rep K mg F (.str x) (.str x.cps.toList) from (by simpa [toS] using Rep.str (K := K) (mg := mg) (F := F) x.cps.toList))
end
theorem call_list_dR {X : Cx} (hc : X.calm = true) : CallR X (.type "list") (fun xs H Q => ∃ p kvs, xs = [.ref p] ∧ Rd H p (.dK kvs) ∧ ∀ q, H q = none → Q (.ref q) (upd H q (.lst (kvs.map fun kv => kV kv.1)))) := by
  intro pins s σ H xs us Q I r h
  obtain ⟨p, kvs, e, hk, q⟩ := h
  subst e
  obtain ⟨u, eu, rx⟩ := vals1 r
  subst eu
  obtain rfl : u = Value.ref p := rx
  obtain ⟨z, lo, vs, rk, hd⟩ := dk_rd I.hok hk
  obtain ⟨ep, hat⟩ := hd.dictAt
  have hl : kvs.length = vs.length := Paired.length rk
  refine PySem.W.kdl_call (PySem.W.kdl_dict (knd := mixKind X.prog X.w) (kvs := vs) (ep := ep) lo) (I.ok.hd hc) hat (by rw [← hl]; exact z) fun h' tk acc' c' hkeep hS hacc => ?_
  refine ⟨.ref s.heap.objs.size, upd H s.heap.objs.size (.lst (kvs.map fun kv => kV kv.1)), I.laid hkeep (Nat.le_refl _) (show ObjOk X.prog X.w _ _ _ (.lst (kvs.map fun kv => kV kv.1)) from ⟨?_, acc'.toList, c', ?_, ?_⟩), rfl, q _ (I.hok.fresh (Nat.le_refl _))⟩
  · rw [List.length_map]; exact z
  · have el : acc'.toList.length = acc'.size := by simp
    refine vals_of_at (by rw [List.length_map, el, hacc.1, hl]) fun j x w h1 h2 => ?_
    obtain ⟨k, y, hky, hi⟩ := hacc.2 j w (by rw [← Array.getElem?_toList]; exact h2)
    have e1 : (kvs.map (·.1))[j]? = some k := by
      rw [KV.keys rk, List.getElem?_map, hky] <;> rfl
    have e2 : (kvs.map fun kv => kV kv.1)[j]? = some (kV k) := by
      have e3 : (kvs.map fun kv => kV kv.1) = (kvs.map (·.1)).map kV := by rw [List.map_map] <;> rfl
      rw [e3, List.getElem?_map, e1] <;> rfl
    rw [e2] at h1
    cases h1
    exact keyIs_rel hi
  · rw [Array.toArray_toList]; exact hS
/-- the keys' own tuples, fixed -/
theorem fixKeys {K : PySem.W.Frag} {mg : Str → Option Value} {F H : Hp} (e : Ex' F H) : ∀ {ks : List (List Key × V)} {kvs : List (Val × Val)} {bs : List Addr}, RepT K mg F ks kvs → IsKeys H ks bs → ∃ F1, TX F F1 H ∧ Reps K mg F1 (bs.map V.ref) (kvs.map (·.1)) ∧ Ex' F1 H := by
  intro ks
  induction ks with
  | nil => intro kvs bs r k; cases r; cases k; exact ⟨F, TX.refl F H, .nil, e⟩
  | cons p ps ih =>
    intro kvs bs r k
    cases r with
    | @cons pk px _ pv _ a r =>
      cases k with
      | @cons _ b _ bs hb k =>
        obtain ⟨F1, t1, q1, e1⟩ := ih r k
        have key : ∀ F2 : Hp, ∀ js : List Key, Reps K mg F2 (js.map kV) (js.map keyV) := fun F2 js => by
          induction js with
          | nil => exact .nil
          | cons j js ih =>
            refine .cons ?_ ih
            cases j with
            | inl i => exact .int i
            | inr x => exact (show Rep K mg F2 (.str x) (.str x.cps.toList) from (by simpa [toS] using Rep.str (K := K) (mg := mg) (F := F2) x.cps.toList))
        cases w : F1 b with
        | some o =>
          have z := e1 b o w
          rw [hb] at z; cases z
          exact ⟨F1, t1, .cons (.tup w (key _ _)) q1, e1⟩
        | none =>
          have ex : Ex' F1 (upd F1 b (.tup (pk.map kV))) := Ex'.new w
          refine ⟨upd F1 b (.tup (pk.map kV)), ⟨t1.up.trans ex, fun c o q => ?_⟩, .cons (.tup upd_same (key _ _)) (q1.mono ex), fun c o q => ?_⟩
          · by_cases hc : c = b
            · subst hc; rw [upd_same] at q; cases q; exact .inr ⟨hb, _, rfl⟩
            · rw [upd_ne hc] at q; exact t1.t c o q
          · by_cases hc : c = b
            · subst hc; rw [upd_same] at q; cases q; exact hb
            · rw [upd_ne hc] at q; exact e1 c o q
theorem t_len {X : Cx} {pins : List (Addr × Obj)} {σ : L2.St} {H : Hp} {s : Shared} {a : Addr} {kvs : List (List Key × V)} {A : Around} {E : Value → Shared → Prop} {Q : Value → Shared → Prop} (I : Inv X pins σ H s) (e : Rd H a (.dT kvs)) (h : ∀ t s', Inv X pins σ H s' → Q (.int kvs.length t) s') : wpAny (model X.prog X.w) A (call (.builtin "len") [.ref a]) Q E s := by
  obtain ⟨z, hd, xs, rel, dd⟩ := dt_rd I.hok e
  refine call_len_dictH hd dd (by rw [← Paired.length rel]; rw [sizeLine_eq] at z; omega) ?_
  rw [← Paired.length rel]
  exact h _ _ (I.tok _)
section
variable {X : Cx}
theorem cr_len : CallR X (.builtin "len") (rBlt X.K X.mg .len) := by
  intro pins s σ H xs us Q I r h
  obtain ⟨F, ws, q, e, rs, hb, k⟩ := h
  cases rs with
  | nil => simp only [bltF] at hb; cases hb
  | cons a t =>
    cases t with
    | cons _ _ => simp only [bltF] at hb; cases hb
    | nil =>
      simp only [bltF, Option.map_eq_some_iff] at hb
      obtain ⟨n, hn, rfl⟩ := hb
      cases a with
      | lst s1 r1 => simp only [len] at hn; cases hn; exact call_len_seq pins s σ H _ us Q I r ⟨_, _, rfl, .inl (.inl (.inl s1)), by rw [r1.length]; exact k _ _ (newI _)⟩
      | tup s1 r1 => simp only [len] at hn; cases hn; exact call_len_seq pins s σ H _ us Q I r ⟨_, _, rfl, .inr (.inl (.inl (e _ _ s1))), by rw [r1.length]; exact k _ _ (newI _)⟩
      | scr s1 => simp only [len] at hn; cases hn; exact call_len_seq pins s σ H _ us Q I r ⟨_, _, rfl, .inl s1, by rw [List.length_map]; exact k _ _ (newI _)⟩
      | str l =>
        simp only [len] at hn
        split at hn
        · rename_i hz
          cases hn
          exact call_len_str pins s σ H _ us Q I r ⟨_, rfl, by rw [toS_len]; exact cap_line hz, by rw [toS_len]; exact k _ _ (newI _)⟩
        · cases hn
      | dk s1 r1 =>
        simp only [len] at hn; cases hn
        obtain ⟨u, rfl, ru⟩ := vals1 r
        cases ru
        exact d_len I s1 fun t s' I' => ⟨.int _, H, I', ⟨t, rfl⟩, by rw [r1.length]; exact k _ _ (newI _)⟩
      | dt s1 r1 =>
        simp only [len] at hn; cases hn
        obtain ⟨u, rfl, ru⟩ := vals1 r
        cases ru
        exact t_len I s1 fun t s' I' => ⟨.int _, H, I', ⟨t, rfl⟩, by rw [r1.length]; exact k _ _ (newI _)⟩
      | _ => simp only [len] at hn; cases hn
theorem cr_allF (hc : X.calm = true) : CallR X (.builtin "all") (rBlt X.K X.mg .all) := by
  intro pins s σ H xs us Q I r h
  obtain ⟨F, ws, q, e, rs, hb, k⟩ := h
  cases rs with
  | nil => simp only [bltF] at hb; cases hb
  | cons a t =>
    cases t with
    | cons _ _ => cases a <;> (simp only [bltF] at hb; cases hb)
    | nil =>
      cases a with
      | lst s1 r1 =>
        simp only [bltF, Option.map_eq_some_iff] at hb
        obtain ⟨bs, hn, rfl⟩ := hb
        exact cr_all hc pins s σ H _ us Q I r ⟨_, bs, rfl, by rw [← reps_bools r1 hn]; exact .inl (.inl s1), k _ _ (newB _)⟩
      | _ => simp only [bltF] at hb; cases hb
theorem cr_anyF (hc : X.calm = true) : CallR X (.builtin "any") (rBlt X.K X.mg .any) := by
  intro pins s σ H xs us Q I r h
  obtain ⟨F, ws, q, e, rs, hb, k⟩ := h
  cases rs with
  | nil => simp only [bltF] at hb; cases hb
  | cons a t =>
    cases t with
    | cons _ _ => cases a <;> (simp only [bltF] at hb; cases hb)
    | nil =>
      cases a with
      | lst s1 r1 =>
        simp only [bltF, Option.map_eq_some_iff] at hb
        obtain ⟨bs, hn, rfl⟩ := hb
        exact cr_any hc pins s σ H _ us Q I r ⟨_, bs, rfl, by rw [← reps_bools r1 hn]; exact .inl (.inl s1), k _ _ (newB _)⟩
      | _ => simp only [bltF] at hb; cases hb
theorem cr_maxF (hc : X.calm = true) : CallR X (.builtin "max") (rBlt X.K X.mg .max) := by
  intro pins s σ H xs us Q I r h
  obtain ⟨F, ws, q, e, rs, hb, k⟩ := h
  cases rs with
  | nil => simp only [bltF] at hb; cases hb
  | cons a t =>
    cases t with
    | nil =>
      cases a with
      | @lst _ _ vs s1 r1 =>
        simp only [bltF] at hb
        split at hb
        · rename_i i is hn
          cases hb
          refine cr_max hc pins s σ H _ us Q I r ⟨_, i :: is, rfl, by rw [← reps_ints' r1 hn]; exact .inl (.inl s1), by simp, fun m h1 h2 => ?_⟩
          have e1 : m = maxI i is := by
            obtain ⟨g1, g2, g3⟩ := maxI_mem is i
            have h3 : m ≤ maxI i is := by
              rcases List.mem_cons.mp h1 with rfl | h1
              · exact g2
              · exact g3 m h1
            have h4 : maxI i is ≤ m := by
              rcases g1 with g1 | g1
              · rw [g1]; exact h2 i (by simp)
              · exact h2 _ (List.mem_cons_of_mem _ g1)
            omega
          rw [e1]
          exact k _ _ (newI _)
        · cases hb
      | _ => simp only [bltF] at hb; cases hb
    | cons b t =>
      cases t with
      | cons _ _ => cases a <;> cases b <;> (simp only [bltF] at hb; cases hb)
      | nil =>
        cases a <;> cases b <;> simp only [bltF] at hb <;> cases hb
        exact call_max2 hc pins s σ H _ us Q I r ⟨_, _, rfl, k _ _ (newI _)⟩
theorem cr_minF (hc : X.calm = true) : CallR X (.builtin "min") (rBlt X.K X.mg .min) := by
  intro pins s σ H xs us Q I r h
  obtain ⟨F, ws, q, e, rs, hb, k⟩ := h
  cases rs with
  | nil => simp only [bltF] at hb; cases hb
  | cons a t =>
    cases t with
    | nil => cases a <;> (simp only [bltF] at hb; cases hb)
    | cons b t =>
      cases t with
      | cons _ _ => cases a <;> cases b <;> (simp only [bltF] at hb; cases hb)
      | nil =>
        cases a <;> cases b <;> simp only [bltF] at hb <;> cases hb
        exact call_min2 hc pins s σ H _ us Q I r ⟨_, _, rfl, k _ _ (newI _)⟩
theorem cr_absF : CallR X (.builtin "abs") (rBlt X.K X.mg .abs) := by
  intro pins s σ H xs us Q I r h
  obtain ⟨F, ws, q, e, rs, hb, k⟩ := h
  cases rs with
  | nil => simp only [bltF] at hb; cases hb
  | cons a t =>
    cases t with
    | cons _ _ => cases a <;> (simp only [bltF] at hb; cases hb)
    | nil =>
      cases a <;> simp only [bltF] at hb <;> cases hb
      exact call_abs pins s σ H _ us Q I r ⟨_, rfl, k _ _ (newI _)⟩
theorem cr_divmodF : CallR X (.builtin "divmod") (rBlt X.K X.mg .divmod) := by
  intro pins s σ H xs us Q I r h
  obtain ⟨F, ws, q, e, rs, hb, k⟩ := h
  cases rs with
  | nil => simp only [bltF] at hb; cases hb
  | cons a t =>
    cases t with
    | nil => cases a <;> (simp only [bltF] at hb; cases hb)
    | cons b t =>
      cases t with
      | cons _ _ => cases a <;> cases b <;> (simp only [bltF] at hb; cases hb)
      | nil =>
        cases a <;> cases b <;> simp only [bltF] at hb <;> try cases hb
        split at hb
        · rename_i hz
          cases hb
          exact call_divmod pins s σ H _ us Q I r ⟨_, _, rfl, ⟨hz.1, by have := hz.2; omega⟩, fun p hp => k _ _ (newT hp (.cons (.int _) (.cons (.int _) .nil)))⟩
        · cases hb
theorem cr_intF : CallR X (.type "int") (rBlt X.K X.mg .int) := by
  intro pins s σ H xs us Q I r h
  obtain ⟨F, ws, q, e, rs, hb, k⟩ := h
  cases rs with
  | nil => simp only [bltF] at hb; cases hb
  | cons a t =>
    cases t with
    | cons _ _ => cases a <;> (simp only [bltF] at hb; cases hb)
    | nil =>
      cases a with
      | int i => simp only [bltF] at hb; cases hb; exact call_int1 pins s σ H _ us Q I r (.inl ⟨_, rfl, k _ _ (newI _)⟩)
      | bl b => simp only [bltF] at hb; cases hb; exact call_int1 pins s σ H _ us Q I r (.inr ⟨_, rfl, k _ _ (newI _)⟩)
      | _ => simp only [bltF] at hb; cases hb
theorem cr_tupleF : CallR X (.type "tuple") (rBlt X.K X.mg .tuple) := by
  intro pins s σ H xs us Q I r h
  obtain ⟨F, ws, q, e, rs, hb, k⟩ := h
  cases rs with
  | nil => simp only [bltF] at hb; cases hb
  | cons a t =>
    cases t with
    | cons _ _ => cases a <;> (simp only [bltF] at hb; cases hb)
    | nil =>
      cases a with
      | lst s1 r1 => simp only [bltF] at hb; cases hb; exact call_tuple_of pins s σ H _ us Q I r ⟨_, _, rfl, .inl ⟨.inl (.inl s1), fun p hp => k _ _ (newT hp r1)⟩⟩
      | tup s1 r1 => simp only [bltF] at hb; cases hb; exact call_tuple_of pins s σ H _ us Q I r ⟨_, _, rfl, .inr ⟨.inl (.inl (e _ _ s1)), k _ _ (newR (.tup s1 r1))⟩⟩
      | _ => simp only [bltF] at hb; cases hb
theorem cr_listF (hc : X.calm = true) : CallR X (.type "list") (rBlt X.K X.mg .list) := by
  intro pins s σ H xs us Q I r h
  obtain ⟨F, ws, q, e, rs, hb, k⟩ := h
  cases rs with
  | nil => simp only [bltF] at hb; cases hb
  | cons a t =>
    cases t with
    | cons _ _ => cases a <;> (simp only [bltF] at hb; cases hb)
    | nil =>
      cases a with
      | lst s1 r1 => simp only [bltF] at hb; cases hb; exact call_list_of pins s σ H _ us Q I r ⟨_, _, rfl, .inl (.inl (.inl s1)), fun p hp => k _ _ (newL hp r1)⟩
      | tup s1 r1 => simp only [bltF] at hb; cases hb; exact call_list_of pins s σ H _ us Q I r ⟨_, _, rfl, .inr (.inl (.inl (e _ _ s1))), fun p hp => k _ _ (newL hp r1)⟩
      | str l =>
        simp only [bltF] at hb
        split at hb
        · rename_i hz
          cases hb
          exact GH.call_listT hc pins s σ H _ us Q I r ⟨l, rfl, hz, fun p hp => k _ _ (newL hp (reps_sign l))⟩
        · cases hb
      | dk s1 r1 => simp only [bltF] at hb; cases hb; exact call_list_dR hc pins s σ H _ us Q I r ⟨_, _, rfl, s1, fun p hp => k _ _ (newL hp (repK_keys r1))⟩
      | dt s1 r1 =>
        simp only [bltF] at hb; cases hb
        refine call_list_dT hc pins s σ H _ us Q I r ⟨_, _, rfl, s1, fun p bs hp hk => k _ _ ?_⟩
        obtain ⟨F1, tx, q1, _⟩ := fixKeys e r1 hk
        exact ⟨F1, tx, p, _, hp, rfl, rfl, fun n => .lst n upd_same q1⟩
      | _ => simp only [bltF] at hb; cases hb
end
end EV
namespace EV
open PySem PySem.Spec PyProof.Rows L2
section
variable {X : Cx} {W : WX} {T : Tab} {cal mkc : Cal} {a b c e : Expr} {ea eb ec : Ex} {pos : Pos} {kr : Nat}
theorem sE_const {v : V} {w : Val} (h : PE X e (tC v)) (r : ∀ F, Rep X.K X.mg F v w) (he : ∀ ρ, evE T cal mkc ea ρ = EV.pur (.fz w) ρ) : PE X e (tE X.K X.mg W T cal mkc ea) := by
  refine h.imp fun σ H Q q => ?_
  obtain ⟨G, Z, F, ρ, A, q⟩ := q
  rw [he] at q
  exact Aft.pur q A v (r F)
theorem sE_bin {o : Bin} (ha : PE X a (tO X.K X.mg W T cal mkc ea)) (hb : PE X b (tO X.K X.mg W T cal mkc eb)) : PE X (.BinOp a (bOp o) b pos) (tE X.K X.mg W T cal mkc (.bin o ea eb)) := by
  refine (pe_op (op_bin o) ha hb).imp fun σ H Q q => ?_
  obtain ⟨G, Z, F, ρ, A, q⟩ := q
  refine ⟨G, Z, F, ρ, A, q.bnd.imp fun F1 H1 ρ1 x A1 e1 q1 vx rx => ⟨G, Z, F1, ρ1, A1, q1.bnd.imp fun F2 H2 ρ2 y A2 e2 q2 vy ry => ?_⟩⟩
  obtain ⟨r, hr, q3⟩ := q2.lift
  obtain ⟨u, hu, hr⟩ := Option.bind_eq_some_iff.mp hr
  obtain ⟨w, hw, hr⟩ := Option.bind_eq_some_iff.mp hr
  exact ⟨F2, u, w, r, A2.sub, (OpdR.mono rx e2).read A2 hu, OpdR.read A2 ry hw, hr, fun z H' n => A2.new n fun F' H'' A' e' z rz => q3 F' H'' A' e' z rz⟩
theorem cmp_red {o : Cmp} {σ : L2.St} {H : Hp} {Q : VK} (h : tE X.K X.mg W T cal mkc (.cmp o ea eb) σ H Q) : tOp (rCmp X.K X.mg o) (tO X.K X.mg W T cal mkc ea) (tO X.K X.mg W T cal mkc eb) σ H Q := by
  obtain ⟨G, Z, F, ρ, A, q⟩ := h
  refine ⟨G, Z, F, ρ, A, q.bnd.imp fun F1 H1 ρ1 x A1 e1 q1 vx rx => ⟨G, Z, F1, ρ1, A1, q1.bnd.imp fun F2 H2 ρ2 y A2 e2 q2 vy ry => ?_⟩⟩
  obtain ⟨r, hr, q3⟩ := q2.lift
  obtain ⟨c, hr1, rfl⟩ := Option.map_eq_some_iff.mp hr
  obtain ⟨u, hu, hr2⟩ := Option.bind_eq_some_iff.mp hr1
  obtain ⟨w, hw, hr3⟩ := Option.bind_eq_some_iff.mp hr2
  exact ⟨F2, u, w, c, A2.sub, (OpdR.mono rx e2).read A2 hu, OpdR.read A2 ry hw, hr3, Aft.pur q3 A2 _ (Rep.bl c)⟩
/-- a test's reading from a value's -/
theorem tB_E {σ : L2.St} {H : Hp} {Q : Bool → Hp → Prop} (h : EV.tB X.K X.mg W T cal mkc ea σ H Q) : tE X.K X.mg W T cal mkc ea σ H fun x H' => ∃ k, x = .bl k ∧ Q k H' := by
  obtain ⟨G, Z, F, ρ, A, q⟩ := h
  refine ⟨G, Z, F, ρ, A, q.bnd.imp fun F' H' ρ' r A' e' q' x rx => ?_⟩
  cases r with
  | un => exact rx.elim
  | ow v => exact q'.elim
  | fz v =>
    cases rx with
    | bl b => exact ⟨b, rfl, Aft.pur q' A'⟩
    | _ => exact q'.elim
theorem sE_cmp {o : Cmp} (hr : Room kr X.A) (ha : PE X a (tO X.K X.mg W T cal mkc ea)) (hb : PE X b (tO X.K X.mg W T cal mkc eb)) (hm : behindInMarks (cOp o) b = false) : PE X (.Compare a [cOp o] [b] pos) (tE X.K X.mg W T cal mkc (.cmp o ea eb)) :=
  (pe_cmpR (op_cmp hr o) ha hb hm).imp fun _ _ _ q => cmp_red q
theorem sT_cmp {o : Cmp} (hr : Room kr X.A) (ha : PE X a (tO X.K X.mg W T cal mkc ea)) (hb : PE X b (tO X.K X.mg W T cal mkc eb)) (hm : behindInMarks (cOp o) b = false) : PT X (.Compare a [cOp o] [b] pos) (EV.tB X.K X.mg W T cal mkc (.cmp o ea eb)) :=
  (pt_cmpR (op_cmp hr o) ha hb hm).imp fun _ _ _ q => cmp_red (tB_E q)
theorem chain_red {o p : Cmp} {σ : L2.St} {H : Hp} {Q : VK} (h : tE X.K X.mg W T cal mkc (.chain o p ea eb ec) σ H Q) : tChain (rCmp X.K X.mg o) (rCmp X.K X.mg p) (tO X.K X.mg W T cal mkc ea) (tO X.K X.mg W T cal mkc eb) (tO X.K X.mg W T cal mkc ec) σ H Q := by
  obtain ⟨G, Z, F, ρ, A, q⟩ := h
  refine ⟨G, Z, F, ρ, A, q.bnd.imp fun F1 H1 ρ1 x A1 e1 q1 vx rx => ⟨G, Z, F1, ρ1, A1, q1.bnd.imp fun F2 H2 ρ2 y A2 e2 q2 vy ry => ?_⟩⟩
  cases hm : ((x.val ρ2).bind fun u => (y.val ρ2).bind (cmpF o u)) with
  | none => rw [hm] at q2; exact q2.elim
  | some k =>
    rw [hm] at q2
    obtain ⟨u, hu, hr⟩ := Option.bind_eq_some_iff.mp hm
    obtain ⟨w, hw, hr⟩ := Option.bind_eq_some_iff.mp hr
    refine ⟨F2, u, w, k, A2.sub, (OpdR.mono rx e2).read A2 hu, OpdR.read A2 ry hw, hr, k, rfl, ?_⟩
    cases k with
    | false =>
      rw [if_neg Bool.false_ne_true]
      exact Aft.pur q2 A2 _ (Rep.bl false)
    | true =>
      rw [if_pos rfl]
      refine ⟨G, Z, F2, ρ2, A2, (Aft.bnd q2).imp fun F3 H3 ρ3 z A3 e3 q3 vz rz => ?_⟩
      obtain ⟨r, hr, q4⟩ := q3.lift
      obtain ⟨c, hr1, rfl⟩ := Option.map_eq_some_iff.mp hr
      obtain ⟨u, hu, hr2⟩ := Option.bind_eq_some_iff.mp hr1
      obtain ⟨w, hw, hr3⟩ := Option.bind_eq_some_iff.mp hr2
      exact ⟨F3, u, w, c, A3.sub, (OpdR.mono ry e3).read A3 hu, OpdR.read A3 rz hw, hr3, Aft.pur q4 A3 _ (Rep.bl c)⟩
theorem sE_chain {o p : Cmp} (hr : Room kr X.A) (ha : PE X a (tO X.K X.mg W T cal mkc ea)) (hb : PE X b (tO X.K X.mg W T cal mkc eb)) (hc : PE X c (tO X.K X.mg W T cal mkc ec)) (hm : lastMarks [cOp o, cOp p] [b, c] = false) : PE X (.Compare a [cOp o, cOp p] [b, c] pos) (tE X.K X.mg W T cal mkc (.chain o p ea eb ec)) :=
  (pe_chain (op_cmp hr o) (op_cmp hr p) ha hb hc hm).imp fun _ _ _ q => chain_red q
theorem sT_chain {o p : Cmp} (hr : Room kr X.A) (ha : PE X a (tO X.K X.mg W T cal mkc ea)) (hb : PE X b (tO X.K X.mg W T cal mkc eb)) (hc : PE X c (tO X.K X.mg W T cal mkc ec)) (hm : lastMarks [cOp o, cOp p] [b, c] = false) : PT X (.Compare a [cOp o, cOp p] [b, c] pos) (EV.tB X.K X.mg W T cal mkc (.chain o p ea eb ec)) :=
  (pt_chain (op_cmp hr o) (op_cmp hr p) ha hb hc hm).imp fun _ _ _ q => chain_red (tB_E q)
/-- a value as a test -/
theorem sT_val (h : PE X e (tE X.K X.mg W T cal mkc ea)) (he : ∀ whole, isTrue e X.env whole = (do let v ← whole; standAt e.pos; holding [v] (truthy v))) : PT X e (EV.tB X.K X.mg W T cal mkc ea) :=
  (pt_val h he).imp fun _ _ _ q => tB_E q
theorem sE_not (ha : PE X a (tE X.K X.mg W T cal mkc ea)) : PE X (.UnaryOp .Not a pos) (tE X.K X.mg W T cal mkc (.nt ea)) := by
  refine (pe_not ha).imp fun σ H Q q => ?_
  obtain ⟨G, Z, F, ρ, A, q⟩ := q
  have q2 : EV.tB X.K X.mg W T cal mkc ea σ H fun b H' => Q (.bl (!b)) H' := ⟨G, Z, F, ρ, A, by
    have e1 : evE T cal mkc (.nt ea) ρ = EV.bnd (EV.bnd (evE T cal mkc ea ρ) asBool) fun b ρ2 => EV.pur (.fz (.bl (!b))) ρ2 := by
      show EV.bnd (evE T cal mkc ea ρ) _ = _
      cases evE T cal mkc ea ρ with
      | none => rfl
      | some o => cases o <;> rfl
    rw [e1] at q
    exact q.bnd.imp fun F' H' ρ' b A' e' q' => Aft.pur q' A' _ (Rep.bl _)⟩
  exact tB_E q2
theorem sT_not (ha : PT X a (EV.tB X.K X.mg W T cal mkc ea)) : PT X (.UnaryOp .Not a pos) (EV.tB X.K X.mg W T cal mkc (.nt ea)) := by
  refine (pt_not ha).imp fun σ H Q q => ?_
  obtain ⟨G, Z, F, ρ, A, q⟩ := q
  refine ⟨G, Z, F, ρ, A, ?_⟩
  have e1 : EV.bnd (evE T cal mkc (.nt ea) ρ) asBool = EV.bnd (EV.bnd (evE T cal mkc ea ρ) asBool) fun b ρ2 => EV.pur (!b) ρ2 := by
    show EV.bnd (EV.bnd (evE T cal mkc ea ρ) _) _ = _
    cases evE T cal mkc ea ρ with
    | none => rfl
    | some o =>
      cases o with
      | ex _ _ => rfl
      | ok r ρ' =>
        show EV.bnd (EV.bnd (asBool r ρ') _) _ = EV.bnd (asBool r ρ') _
        cases asBool r ρ' with
        | none => rfl
        | some o => cases o <;> rfl
  rw [e1] at q
  exact q.bnd.imp fun F' H' ρ' b A' e' q' => Aft.pur q' A'
theorem ev_and (ρ : Ro) : evE T cal mkc (.and ea eb) ρ = EV.bnd (EV.bnd (evE T cal mkc ea ρ) asBool) fun c ρ2 => if c then evE T cal mkc eb ρ2 else EV.pur (.fz (.bl false)) ρ2 := by
  show EV.bnd (evE T cal mkc ea ρ) _ = _
  cases evE T cal mkc ea ρ with
  | none => rfl
  | some o => cases o <;> rfl
theorem ev_or (ρ : Ro) : evE T cal mkc (.or ea eb) ρ = EV.bnd (EV.bnd (evE T cal mkc ea ρ) asBool) fun c ρ2 => if c then EV.pur (.fz (.bl true)) ρ2 else evE T cal mkc eb ρ2 := by
  show EV.bnd (evE T cal mkc ea ρ) _ = _
  cases evE T cal mkc ea ρ with
  | none => rfl
  | some o => cases o <;> rfl
theorem ev_ite (ρ : Ro) : evE T cal mkc (.ite ec ea eb) ρ = EV.bnd (EV.bnd (evE T cal mkc ec ρ) asBool) fun c ρ2 => if c then evE T cal mkc ea ρ2 else evE T cal mkc eb ρ2 := by
  show EV.bnd (evE T cal mkc ec ρ) _ = _
  cases evE T cal mkc ec ρ with
  | none => rfl
  | some o => cases o <;> rfl
theorem bnd_assoc {α β γ : Type} (m : Res α) (k : α → Ro → Res β) (l : β → Ro → Res γ) : EV.bnd (EV.bnd m k) l = EV.bnd m fun a ρ => EV.bnd (k a ρ) l := by
  cases m with
  | none => rfl
  | some o => cases o <;> rfl
theorem sE_and {rest : List Expr} (ha : PE X a (tE X.K X.mg W T cal mkc ea)) (hb : PE X (.BoolOp .And (b :: rest) pos) (tE X.K X.mg W T cal mkc eb)) : PE X (.BoolOp .And (a :: b :: rest) pos) (tE X.K X.mg W T cal mkc (.and ea eb)) := by
  refine (pe_and ha hb).imp fun σ H Q q => ?_
  obtain ⟨G, Z, F, ρ, A, q⟩ := q
  rw [ev_and] at q
  refine tB_E (Q := fun c H1 => if c = true then tE X.K X.mg W T cal mkc eb σ H1 Q else Q (.bl false) H1) ⟨G, Z, F, ρ, A, q.bnd.imp fun F1 H1 ρ1 c A1 e1 q1 => ?_⟩
  cases c with
  | true => rw [if_pos rfl]; exact ⟨G, Z, F1, ρ1, A1, q1⟩
  | false => rw [if_neg Bool.false_ne_true]; exact Aft.pur q1 A1 _ (Rep.bl false)
theorem sE_or {rest : List Expr} (ha : PE X a (tE X.K X.mg W T cal mkc ea)) (hb : PE X (.BoolOp .Or (b :: rest) pos) (tE X.K X.mg W T cal mkc eb)) : PE X (.BoolOp .Or (a :: b :: rest) pos) (tE X.K X.mg W T cal mkc (.or ea eb)) := by
  refine (pe_or ha hb).imp fun σ H Q q => ?_
  obtain ⟨G, Z, F, ρ, A, q⟩ := q
  rw [ev_or] at q
  refine tB_E (Q := fun c H1 => if c = true then Q (.bl true) H1 else tE X.K X.mg W T cal mkc eb σ H1 Q) ⟨G, Z, F, ρ, A, q.bnd.imp fun F1 H1 ρ1 c A1 e1 q1 => ?_⟩
  cases c with
  | true => rw [if_pos rfl]; exact Aft.pur q1 A1 _ (Rep.bl true)
  | false => rw [if_neg Bool.false_ne_true]; exact ⟨G, Z, F1, ρ1, A1, q1⟩
theorem _root_.L2.PW.imp {t t' : TT} (h : PW X e t) (k : ∀ σ H Q, t' σ H Q → t σ H Q) : PW X e t' := ⟨fun wh pins s σ H Q I q => h.run wh pins s σ H Q I (k σ H Q q)⟩
theorem sW_and {rest : List Expr} (ha : PT X a (EV.tB X.K X.mg W T cal mkc ea)) (hb : PW X (.BoolOp .And (b :: rest) pos) (EV.tB X.K X.mg W T cal mkc eb)) : PW X (.BoolOp .And (a :: b :: rest) pos) (EV.tB X.K X.mg W T cal mkc (.and ea eb)) := by
  refine (pw_and ha hb).imp fun σ H Q q => ?_
  obtain ⟨G, Z, F, ρ, A, q⟩ := q
  rw [ev_and, bnd_assoc] at q
  refine ⟨G, Z, F, ρ, A, q.bnd.imp fun F1 H1 ρ1 c A1 e1 q1 => ?_⟩
  cases c with
  | true => rw [if_pos rfl]; exact ⟨G, Z, F1, ρ1, A1, q1⟩
  | false => rw [if_neg Bool.false_ne_true]; exact Aft.pur q1 A1
theorem sW_or {rest : List Expr} (ha : PT X a (EV.tB X.K X.mg W T cal mkc ea)) (hb : PW X (.BoolOp .Or (b :: rest) pos) (EV.tB X.K X.mg W T cal mkc eb)) : PW X (.BoolOp .Or (a :: b :: rest) pos) (EV.tB X.K X.mg W T cal mkc (.or ea eb)) := by
  refine (pw_or ha hb).imp fun σ H Q q => ?_
  obtain ⟨G, Z, F, ρ, A, q⟩ := q
  rw [ev_or, bnd_assoc] at q
  refine ⟨G, Z, F, ρ, A, q.bnd.imp fun F1 H1 ρ1 c A1 e1 q1 => ?_⟩
  cases c with
  | true => rw [if_pos rfl]; exact Aft.pur q1 A1
  | false => rw [if_neg Bool.false_ne_true]; exact ⟨G, Z, F1, ρ1, A1, q1⟩
theorem sE_ite (hc : PT X c (EV.tB X.K X.mg W T cal mkc ec)) (ha : PE X a (tE X.K X.mg W T cal mkc ea)) (hb : PE X b (tE X.K X.mg W T cal mkc eb)) : PE X (.IfExp c a b pos) (tE X.K X.mg W T cal mkc (.ite ec ea eb)) := by
  refine (pe_ifExp hc ha hb).imp fun σ H Q q => ?_
  obtain ⟨G, Z, F, ρ, A, q⟩ := q
  rw [ev_ite] at q
  refine ⟨G, Z, F, ρ, A, q.bnd.imp fun F1 H1 ρ1 c A1 e1 q1 => ?_⟩
  cases c with
  | true => rw [if_pos rfl]; exact ⟨G, Z, F1, ρ1, A1, q1⟩
  | false => rw [if_neg Bool.false_ne_true]; exact ⟨G, Z, F1, ρ1, A1, q1⟩
theorem sE_idx (hr : Room kr X.A) (ha : PE X a (tO X.K X.mg W T cal mkc ea)) (hb : PE X b (tO X.K X.mg W T cal mkc eb)) (hs : PlainIx b) : PE X (.Subscript a b pos) (tE X.K X.mg W T cal mkc (.idx ea eb)) := by
  refine (pe_ix (ix_val hr) ha hb hs).imp fun σ H Q q => ?_
  obtain ⟨G, Z, F, ρ, A, q⟩ := q
  refine ⟨G, Z, F, ρ, A, q.bnd.imp fun F1 H1 ρ1 x A1 e1 q1 vx rx => ⟨G, Z, F1, ρ1, A1, q1.bnd.imp fun F2 H2 ρ2 y A2 e2 q2 vy ry => ?_⟩⟩
  obtain ⟨r, hr, q3⟩ := q2.lift
  obtain ⟨z, hr1, rfl⟩ := Option.map_eq_some_iff.mp hr
  obtain ⟨u, hu, hr2⟩ := Option.bind_eq_some_iff.mp hr1
  obtain ⟨w, hw, hr3⟩ := Option.bind_eq_some_iff.mp hr2
  exact ⟨F2, u, w, z, A2.sub, (OpdR.mono rx e2).read A2 hu, OpdR.read A2 ry hw, hr3, fun v rv => Aft.pur q3 A2 v rv⟩
def tPo (o : Option Ex) : TO := fun σ H Q => ∃ G Z F ρ, Abs X.K X.mg G Z F σ H ρ ∧ Aft X.K X.mg W G Z F σ (evOp T cal mkc o ρ) fun F' H' ρ' i => Q i H'
theorem sO_none : PO X none (tPo (X := X) (W := W) (T := T) (cal := cal) (mkc := mkc) none) := by
  refine ⟨fun pins s σ H Q I q => po_none.run pins s σ H Q I ?_⟩
  obtain ⟨G, Z, F, ρ, A, q⟩ := q
  exact Aft.pur q A
theorem sO_some (h : PE X e (tE X.K X.mg W T cal mkc ea)) : PO X (some e) (tPo (X := X) (W := W) (T := T) (cal := cal) (mkc := mkc) (some ea)) := by
  refine ⟨fun pins s σ H Q I q => (po_some h).run pins s σ H Q I ?_⟩
  obtain ⟨G, Z, F, ρ, A, q⟩ := q
  refine ⟨G, Z, F, ρ, A, q.bnd.imp fun F' H' ρ' r A' e' q' x rx => ?_⟩
  cases r with
  | un => exact rx.elim
  | ow v => exact q'.elim
  | fz v =>
    cases rx with
    | int i => exact ⟨i, rfl, Aft.pur q' A'⟩
    | _ => exact q'.elim
theorem sE_slc {lo hi : Option Expr} {el eh : Option Ex} {p2 : Pos} (ha : PE X a (tO X.K X.mg W T cal mkc ea)) (hl : PO X lo (tPo (X := X) (W := W) (T := T) (cal := cal) (mkc := mkc) el)) (hh : PO X hi (tPo (X := X) (W := W) (T := T) (cal := cal) (mkc := mkc) eh)) : PE X (.Subscript a (.Slice lo hi none p2) pos) (tE X.K X.mg W T cal mkc (.slc ea el eh)) := by
  refine (pe_slice sl_val ha hl hh).imp fun σ H Q q => ?_
  obtain ⟨G, Z, F, ρ, A, q⟩ := q
  refine ⟨G, Z, F, ρ, A, q.bnd.imp fun F1 H1 ρ1 x A1 e1 q1 vx rx => ⟨G, Z, F1, ρ1, A1, q1.bnd.imp fun F2 H2 ρ2 l A2 e2 q2 => ⟨G, Z, F2, ρ2, A2, q2.bnd.imp fun F3 H3 ρ3 h A3 e3 q3 => ?_⟩⟩⟩
  obtain ⟨r, hr, q4⟩ := q3.lift
  obtain ⟨u, hu, hr⟩ := Option.bind_eq_some_iff.mp hr
  exact ⟨F3, u, r, A3.sub, (OpdR.mono rx (e2.trans e3)).read A3 hu, hr, fun z H' n => A3.new n fun F' H'' A' e' z rz => q4 F' H'' A' e' z rz⟩
/-! arguments -/
theorem sA_nil : PA X [] (tAs X.K X.mg W T cal mkc []) := by
  refine pa_nil.imp fun σ H Q q => ?_
  obtain ⟨G, Z, F, ρ, A, q⟩ := q
  exact Aft.pur q A [] .nil
theorem sA_cons {es : List Expr} {xs : List Ex} (ha : PE X e (tE X.K X.mg W T cal mkc ea)) (hr : PA X es (tAs X.K X.mg W T cal mkc xs)) (hs : starEach (e :: es) X.env = (false, eval e X.env) :: starEach es X.env) (hn : ∀ z, ea ≠ .star z) : PA X (e :: es) (tAs X.K X.mg W T cal mkc (ea :: xs)) := by
  refine (pa_cons (pe_fix ha) hr hs).imp fun σ H Q q => ?_
  obtain ⟨G, Z, F, ρ, A, q⟩ := q
  have e1 : evEs T cal mkc (ea :: xs) ρ = EV.bnd (EV.bnd (evE T cal mkc ea ρ) fixv) fun v ρ2 => EV.bnd (evEs T cal mkc xs ρ2) fun vs ρ3 => EV.pur (v :: vs) ρ3 := by
    rw [bnd_assoc]
    cases ea with
    | star z => exact absurd rfl (hn z)
    | _ => rfl
  rw [e1] at q
  refine ⟨G, Z, F, ρ, A, q.bnd.imp fun F1 H1 ρ1 v A1 e1 q1 x rx => ⟨G, Z, F1, ρ1, A1, q1.bnd.imp fun F2 H2 ρ2 vs A2 e2 q2 ys rys => ?_⟩⟩
  exact Aft.pur q2 A2 _ (.cons (rx.mono e2) rys)
theorem sA_star {es : List Expr} {xs : List Ex} {p : Pos} (ha : PE X e (tE X.K X.mg W T cal mkc ea)) (hr : PA X es (tAs X.K X.mg W T cal mkc xs)) (hs : starEach (.Starred e p :: es) X.env = (true, eval e X.env) :: starEach es X.env) : PA X (.Starred e p :: es) (tAs X.K X.mg W T cal mkc (.star ea :: xs)) := by
  refine (StX.pa_star (pe_fix ha) hr hs).imp fun σ H Q q => ?_
  obtain ⟨G, Z, F, ρ, A, q⟩ := q
  have e1 : evEs T cal mkc (.star ea :: xs) ρ = EV.bnd (EV.bnd (evE T cal mkc ea ρ) fixv) fun v ρ2 => match v with
      | .lst ys => EV.bnd (evEs T cal mkc xs ρ2) fun vs ρ3 => EV.pur (ys ++ vs) ρ3
      | .tup ys => EV.bnd (evEs T cal mkc xs ρ2) fun vs ρ3 => EV.pur (ys ++ vs) ρ3
      | _ => none := by rw [bnd_assoc]; rfl
  rw [e1] at q
  refine ⟨G, Z, F, ρ, A, q.bnd.imp fun F1 H1 ρ1 v A1 e1 q1 x rx => ?_⟩
  cases rx with
  | lst s1 r1 =>
    refine ⟨_, _, rfl, .inr (.inl (.inl (A1.sub _ _ s1))), G, Z, F1, ρ1, A1, (Aft.bnd q1).imp fun F2 H2 ρ2 vs A2 e2 q2 ys rys => ?_⟩
    exact Aft.pur q2 A2 _ ((r1.mono e2).app rys)
  | tup s1 r1 =>
    refine ⟨_, _, rfl, .inl (.inl (.inl (A1.sub _ _ s1))), G, Z, F1, ρ1, A1, (Aft.bnd q1).imp fun F2 H2 ρ2 vs A2 e2 q2 ys rys => ?_⟩
    exact Aft.pur q2 A2 _ ((r1.mono e2).app rys)
  | _ => exact q1.elim
theorem sE_tup {es : List Expr} {xs : List Ex} {k1 : Nat} (h : PA X es (tAs X.K X.mg W T cal mkc xs)) : PE X (.Tuple es k1 pos) (tE X.K X.mg W T cal mkc (.tup xs)) := by
  refine (pe_tup h).imp fun σ H Q q => ?_
  obtain ⟨G, Z, F, ρ, A, q⟩ := q
  refine ⟨G, Z, F, ρ, A, q.bnd.imp fun F1 H1 ρ1 vs A1 e1 q1 ys rys => ?_⟩
  split at q1
  · rename_i hz
    exact ⟨by rw [rys.length]; exact cap_line hz, fun p hp => A1.new (newT hp rys) fun F' H'' A' e' z rz => q1 F' H'' A' e' z rz⟩
  · exact q1.elim
theorem sE_lst {es : List Expr} {xs : List Ex} (h : PA X es (tAs X.K X.mg W T cal mkc xs)) : PE X (.List es pos) (tE X.K X.mg W T cal mkc (.lst xs)) := by
  refine (pe_lst h).imp fun σ H Q q => ?_
  obtain ⟨G, Z, F, ρ, A, q⟩ := q
  refine ⟨G, Z, F, ρ, A, q.bnd.imp fun F1 H1 ρ1 vs A1 e1 q1 ys rys => ?_⟩
  split at q1
  · rename_i hz
    exact ⟨by rw [rys.length]; exact cap_line hz, fun p hp => A1.new (newL hp rys) fun F' H'' A' e' z rz => q1 F' H'' A' e' z rz⟩
  · exact q1.elim
theorem sE_neg (ha : PE X a (tE X.K X.mg W T cal mkc ea)) : PE X (.UnaryOp .USub a pos) (tE X.K X.mg W T cal mkc (.neg ea)) := by
  refine (pe_un un_neg ha).imp fun σ H Q q => ?_
  obtain ⟨G, Z, F, ρ, A, q⟩ := q
  refine ⟨G, Z, F, ρ, A, q.bnd.imp fun F' H' ρ' r A' e' q' x rx => ?_⟩
  cases r with
  | un => exact rx.elim
  | ow v => exact q'.elim
  | fz v =>
    cases rx with
    | int i => exact ⟨i, rfl, Aft.pur q' A' _ (Rep.int _)⟩
    | _ => exact q'.elim
/-! built-ins -/
theorem blt1 {bl : Bl} {σ : L2.St} {H : Hp} {Q : VK} (h : tE X.K X.mg W T cal mkc (.blt bl [ea]) σ H Q) : tCB (rBlt X.K X.mg bl) (tCons (tO X.K X.mg W T cal mkc ea) tNil) σ H Q := by
  obtain ⟨G, Z, F, ρ, A, q⟩ := h
  refine ⟨G, Z, F, ρ, A, q.bnd.imp fun F1 H1 ρ1 x A1 e1 q1 vx rx => ?_⟩
  obtain ⟨r, hr, q3⟩ := q1.lift
  obtain ⟨u, hu, hr⟩ := Option.bind_eq_some_iff.mp hr
  exact ⟨F1, [u], r, A1.sub, .cons (OpdR.read A1 rx hu) .nil, hr, fun z H' n => A1.new n fun F' H'' A' e' z rz => q3 F' H'' A' e' z rz⟩
theorem rbs_of {F H : Hp} (e : Ex' F H) : ∀ {xs : List V} {vs : List Val}, Reps X.K X.mg F xs vs → RBs X.K X.mg F H xs vs
  | _, _, .nil => .nil
  | _, _, .cons a r => .cons (Rep.b e a) (rbs_of e r)
theorem blt2 {bl : Bl} {xs : List Ex} {σ : L2.St} {H : Hp} {Q : VK} (hn : ∀ z, xs ≠ [z]) (h : tE X.K X.mg W T cal mkc (.blt bl xs) σ H Q) : tCB (rBlt X.K X.mg bl) (tAs X.K X.mg W T cal mkc xs) σ H Q := by
  obtain ⟨G, Z, F, ρ, A, q⟩ := h
  have e1 : evE T cal mkc (.blt bl xs) ρ = EV.bnd (evEs T cal mkc xs ρ) fun vs ρ1 => EV.lift (bltF bl vs) ρ1 := by
    match xs, hn with
    | [], _ => rfl
    | [z], hn => exact absurd rfl (hn z)
    | _ :: _ :: _, _ => rfl
  rw [e1] at q
  refine ⟨G, Z, F, ρ, A, q.bnd.imp fun F1 H1 ρ1 vs A1 e1 q1 ys rys => ?_⟩
  obtain ⟨r, hr, q3⟩ := q1.lift
  exact ⟨F1, vs, r, A1.sub, rbs_of A1.sub rys, hr, fun z H' n => A1.new n fun F' H'' A' e' z rz => q3 F' H'' A' e' z rz⟩
end
end EV
namespace EV
open PySem PySem.Spec PyProof.Rows L2
/-! ### a def's promise, where no repr is under way, with errors -/
structure FnE (P : Program) (w : World) (K : PySem.W.Frag) (mg : Str → Option Value) (base : Heap) (k : Nat) (f : Addr) (fd : FuncData) (ps : List Str) (sp : Sp) : Prop where
  ln : ∀ vs H Q E, sp vs H Q E → vs.length = ps.length
  go : ∀ (A : Around) (ou : List Env) (s : Shared) (H : Hp) (args : Args) (us : List Value) (vs : List V) (Q : VK) (E : XK), A.guards = some [] → Room k A → Env0 P w K mg base A ou s H → BindsTo s fd args (ps.zip us) → Vals vs us → sp vs H Q E →
    codeAny (model P w) A (.call (.ref f) args) (CR (L2.CX P w) ou P w H s Q E) s
section
variable {X : Cx} {W : WX} {k : Nat} {f : Addr} {fd : FuncData} {ps : List Str} {sp : Sp}
theorem run_fnE {pins : List (Addr × Obj)} {σ : L2.St} {H : Hp} {s : Shared} {Q : VK} {us : List Value} {vs : List V} {args : Args} (F : FnE X.prog X.w X.K X.mg X.base k f fd ps sp) (gd : X.A.guards = some []) (hr : Room k X.A) (tk : Takes X W)
    (hb : us.length = ps.length → BindsTo s fd args (ps.zip us)) (I : Inv X pins σ H s) (r : Vals vs us) (h : sp vs H Q fun c d H' => W c d σ H') : wpAny (model X.prog X.w) X.A (call (.ref f) args.pos args.kw) (EP X pins σ Q) X.xe s := by
  have hl : us.length = ps.length := by rw [← r.length]; exact F.ln _ _ _ _ h
  refine wpAny_call (codeAny_mono (F.go X.A X.stack s H args us vs Q _ gd hr I.env0 (hb hl) r h) fun o s' hq => ?_)
  cases o with
  | error e => exact tk e s' (XE.of_call I (fun _ _ _ h => h) hq)
  | ok fl => cases fl with
    | ret u => exact I.after hq
    | next => exact False.elim hq
    | brk => exact False.elim hq
    | cont => exact False.elim hq
end
/-! ### what a walked def promises -/
def ArgR (K : PySem.W.Frag) (mg : Str → Option Value) (F H : Hp) (x : V) : Slot → Prop
  | .fz v => Rep K mg F x v
  | .ow v => ∃ a, x = .ref a ∧ Own K mg F H a v
  | .un => False
def ioOf : List V → List Slot → List Addr
  | .ref a :: xs, .ow _ :: ss => a :: ioOf xs ss
  | _ :: xs, _ :: ss => ioOf xs ss
  | _, _ => []
structure EndR (K : PySem.W.Frag) (mg : Str → Option Value) (F H : Hp) (vs : List V) (as : List Slot) (F' H' : Hp) (fin : List Slot) : Prop where
  up : Ex' F F'
  sub : Ex' F' H'
  kp : ∀ a o, H a = some o → a ∉ ioOf vs as → H' a = some o
  nw : ∀ a o, F' a = some o → F a = some o ∨ H a = none ∨ a ∈ ioOf vs as ∨ ∃ xs, o = .tup xs
  io : ∀ (i : Nat) a v v', as[i]? = some (.ow v) → vs[i]? = some (.ref a) → fin[i]? = some (.ow v') → Own K mg F' H' a v'
def ResC (K : PySem.W.Frag) (mg : Str → Option Value) (F' H' H : Hp) (x : V) : Slot → Prop
  | .fz v => Rep K mg F' x v
  | .ow v => ∃ a, x = .ref a ∧ H a = none ∧ Own K mg F' H' a v
  | .un => False
def PstC (K : PySem.W.Frag) (mg : Str → Option Value) (F H : Hp) (vs : List V) (as : List Slot) (Q : VK) (E : XK) (m : Res Slot) : Prop := match m with
  | some (.ok r fin) => ∀ F' H' x, EndR K mg F H vs as F' H' fin → ResC K mg F' H' H x r → Q x H'
  | some (.ex e fin) => ∀ F' H' d, EndR K mg F H vs as F' H' fin → ExR K mg F' d e → E (.ref (GH.clsA mg (Str.ofString e.c))) d H'
  | none => False
def spF (K : PySem.W.Frag) (mg : Str → Option Value) (cal : Cal) (n : Nat) (f : String) : Sp := fun vs H Q E => ∃ F as, as.length = n ∧ Ex' F H ∧ Paired (ArgR K mg F H) vs as ∧ (ioOf vs as).Nodup ∧ PstC K mg F H vs as Q E (cal f as)
/-! ### arguments -/
def AtA (K : PySem.W.Frag) (mg : Str → Option Value) (G F : Hp) (σ : L2.St) (H : Hp) (ρ : Ro) (x : V) : Arg → Prop
  | .io i => σ[i]? = some (some x)
  | .va v => Rep K mg F x v
  | .nw v => ResR K mg G F σ H ρ x (.ow v)
section
variable {X : Cx} {W : WX} {T : Tab} {cal mkc : Cal} {a b c e : Expr} {ea eb ec : Ex} {pos : Pos} {kr : Nat}
def tArg (X : Cx) (W : WX) (T : Tab) (cal mkc : Cal) (io : Bool) (e : Ex) : TE := tM X.K X.mg W (argOf io e (evE T cal mkc e)) fun G F σ H ρ x a => AtA X.K X.mg G F σ H ρ x a
def tArgs (X : Cx) (W : WX) (T : Tab) (cal mkc : Cal) (io : List Bool) (es : List Ex) : TA := fun σ H Q => ∃ G Z F ρ, Abs X.K X.mg G Z F σ H ρ ∧ Aft X.K X.mg W G Z F σ (evAs T cal mkc io es ρ) fun F' H' ρ' as => ∀ xs, Paired (AtA X.K X.mg G F' σ H' ρ') xs as → Q xs H'
theorem sArg {io : Bool} (h : PE X e (tE X.K X.mg W T cal mkc ea)) (hv : ∀ i, ea = .v i → PE X e (tVar i)) : PE X e (tArg X W T cal mkc io ea) := by
  cases io with
  | false =>
    refine (pe_fix h).imp fun σ H Q q => ?_
    obtain ⟨G, Z, F, ρ, A, q⟩ := q
    refine ⟨G, Z, F, ρ, A, ?_⟩
    have e1 : argOf false ea (evE T cal mkc ea) ρ = EV.bnd (EV.bnd (evE T cal mkc ea ρ) fixv) fun v ρ2 => EV.pur (.va v) ρ2 := by rw [bnd_assoc]; rfl
    rw [e1] at q
    exact q.bnd.imp fun F' H' ρ' v A' e' q' x rx => Aft.pur q' A' x rx
  | true =>
    by_cases hc : ∃ i, ea = .v i
    · obtain ⟨i, rfl⟩ := hc
      refine ((hv i rfl)).imp fun σ H Q q => ?_
      obtain ⟨G, Z, F, ρ, A, q⟩ := q
      have q : Aft X.K X.mg W G Z F σ (if (ownAt i ρ).isSome then EV.pur (Arg.io i) ρ else none) _ := q
      split at q
      · rename_i hs
        unfold ownAt at hs
        split at hs
        · rename_i v hv
          obtain ⟨a, h1, _⟩ := A.ow i v hv
          exact ⟨_, h1, Aft.pur q A _ h1⟩
        · cases hs
      · exact q.elim
    · refine h.imp fun σ H Q q => ?_
      obtain ⟨G, Z, F, ρ, A, q⟩ := q
      refine ⟨G, Z, F, ρ, A, ?_⟩
      have e1 : argOf true ea (evE T cal mkc ea) ρ = EV.bnd (evE T cal mkc ea ρ) newArg := by
        cases ea with
        | v i => exact absurd ⟨i, rfl⟩ hc
        | _ => rfl
      rw [e1] at q
      refine q.bnd.imp fun F' H' ρ' r A' e' q' x rx => ?_
      cases r with
      | un => exact rx.elim
      | fz v => exact q'.elim
      | ow v => exact Aft.pur q' A' x rx
theorem sArgs_nil {io : List Bool} : PA X [] (tArgs X W T cal mkc io []) := by
  refine pa_nil.imp fun σ H Q q => ?_
  obtain ⟨G, Z, F, ρ, A, q⟩ := q
  have e1 : evAs T cal mkc io [] ρ = EV.pur [] ρ := by cases io <;> rfl
  rw [e1] at q
  exact Aft.pur q A [] .nil
theorem AtA.mono {G F F' : Hp} {σ : L2.St} {H H' : Hp} {ρ ρ' : Ro} {x : V} {a : Arg} (h : AtA X.K X.mg G F σ H ρ x a) (e : Ex' F F') (hn : ∀ v, a ≠ .nw v) : AtA X.K X.mg G F' σ H' ρ' x a := by
  cases a with
  | io i => exact h
  | va v => exact Rep.mono e h
  | nw v => exact absurd rfl (hn v)
theorem sArgs_one {io : List Bool} (ha : PE X e (tArg X W T cal mkc (io.getD 0 false) ea)) (hs : starEach [e] X.env = (false, eval e X.env) :: starEach [] X.env) : PA X [e] (tArgs X W T cal mkc io [ea]) := by
  refine (pa_cons ha pa_nil hs).imp fun σ H Q q => ?_
  obtain ⟨G, Z, F, ρ, A, q⟩ := q
  have e1 : evAs T cal mkc io [ea] ρ = EV.bnd (argOf (io.getD 0 false) ea (evE T cal mkc ea) ρ) fun a ρ1 => EV.pur [a] ρ1 := by
    have e2 : ∀ (i : List Bool) (ρ : Ro), evAs T cal mkc i [] ρ = EV.pur [] ρ := fun i ρ => by cases i <;> rfl
    simp [evAs, e2]
  rw [e1] at q
  exact ⟨G, Z, F, ρ, A, q.bnd.imp fun F1 H1 ρ1 g A1 e1 q1 x rx => Aft.pur q1 A1 [x] (.cons rx .nil)⟩
theorem sArgs_cons {io : List Bool} {es : List Expr} {xs : List Ex} (hx : xs ≠ []) (ha : PE X e (tArg X W T cal mkc (io.getD 0 false) ea)) (hr : PA X es (tArgs X W T cal mkc (io.drop 1) xs)) (hs : starEach (e :: es) X.env = (false, eval e X.env) :: starEach es X.env) :
    PA X (e :: es) (tArgs X W T cal mkc io (ea :: xs)) := by
  refine (pa_cons ha hr hs).imp fun σ H Q q => ?_
  obtain ⟨G, Z, F, ρ, A, q⟩ := q
  have e1 : evAs T cal mkc io (ea :: xs) ρ = EV.bnd (argOf (io.getD 0 false) ea (evE T cal mkc ea) ρ) fun a ρ1 => if a.isN && !xs.isEmpty then none else EV.bnd (evAs T cal mkc (io.drop 1) xs ρ1) fun as ρ2 => EV.pur (a :: as) ρ2 := by
    simp only [evAs]
  rw [e1] at q
  refine ⟨G, Z, F, ρ, A, q.bnd.imp fun F1 H1 ρ1 g A1 e1 q1 x rx => ⟨G, Z, F1, ρ1, A1, ?_⟩⟩
  split at q1
  · exact q1.elim
  · rename_i hc
    have hn : ¬ g.isN = true := fun hn => by
      cases xs with
      | nil => exact hx rfl
      | cons _ _ => exact absurd (by rw [hn]; rfl) hc
    exact q1.bnd.imp fun F2 H2 ρ2 as A2 e2 q2 ys rys => Aft.pur q2 A2 _ (.cons (rx.mono e2 fun v z => hn (by rw [z]; rfl)) rys)
/-! ### what a call leaves -/
theorem ioOf_mem : ∀ {vs : List V} {as : List Slot} {a : Addr}, a ∈ ioOf vs as → ∃ (i : Nat) (v : Val), vs[i]? = some (.ref a) ∧ as[i]? = some (.ow v)
  | [], [], _, h => by simp [ioOf] at h
  | [], _ :: _, _, h => by simp [ioOf] at h
  | _ :: _, [], _, h => by simp [ioOf] at h
  | x :: xs, s :: ss, a, h => by
    have rec_ : a ∈ ioOf xs ss → ∃ (i : Nat) (v : Val), (x :: xs)[i]? = some (.ref a) ∧ (s :: ss)[i]? = some (.ow v) := fun h => by
      obtain ⟨i, v, h1, h2⟩ := ioOf_mem h
      exact ⟨i + 1, v, by simpa using h1, by simpa using h2⟩
    cases x with
    | ref b =>
      cases s with
      | ow v =>
        have h : a ∈ b :: ioOf xs ss := h
        rcases List.mem_cons.mp h with rfl | h
        · exact ⟨0, v, rfl, rfl⟩
        · exact rec_ h
      | fz v => exact rec_ h
      | un => exact rec_ h
    | _ => exact rec_ (by cases s <;> exact h)
/-- the arguments as slots -/
theorem args_slots {G Z F : Hp} {σ : L2.St} {H : Hp} {ρ : Ro} (A : Abs X.K X.mg G Z F σ H ρ) : ∀ {as : List Arg} {xs : List V} {ss : List Slot}, Paired (AtA X.K X.mg G F σ H ρ) xs as → as.mapM (Arg.slot ρ) = some ss → Paired (ArgR X.K X.mg F H) xs ss
  | [], _, ss, .nil, h => by
    have : ss = [] := by simpa using h.symm
    subst this; exact .nil
  | a :: as, _, ss, .cons r t, h => by
    rw [List.mapM_cons] at h
    obtain ⟨s, h1, h⟩ := Option.bind_eq_some_iff.mp h
    obtain ⟨ss', h2, h⟩ := Option.bind_eq_some_iff.mp h
    cases h
    refine .cons ?_ (args_slots A t h2)
    cases a with
    | va v => cases h1; exact r
    | nw v =>
      cases h1
      obtain ⟨p, e, _, o, _⟩ := r
      exact ⟨p, e, o⟩
    | io i =>
      simp only [Arg.slot] at h1
      split at h1
      · rename_i v hv
        cases h1
        obtain ⟨p, e, _, o⟩ := A.ow i v hv
        have r : σ[i]? = some (some _) := r
        rw [e] at r; cases r
        exact ⟨p, rfl, o⟩
      · cases h1
theorem putBack_get : ∀ {as : List Arg} {fin : List Slot} {ρ ρ' : Ro}, putBack as fin ρ = some ρ' → ρ'.length = ρ.length ∧ ∀ i : Nat, i < ρ.length → (∃ (j : Nat) (v : Val), as[j]? = some (.io i) ∧ fin[j]? = some (.ow v) ∧ ρ'[i]? = some (.ow v)) ∨ ((∀ j : Nat, as[j]? ≠ some (.io i)) ∧ ρ'[i]? = ρ[i]?)
  | [], fin, ρ, ρ', h => by
    simp only [putBack] at h
    cases h
    exact ⟨rfl, fun i _ => .inr ⟨fun j => by simp, rfl⟩⟩
  | .io i0 :: r, .ow v :: s, ρ, ρ', h => by
    simp only [putBack] at h
    obtain ⟨ρ1, h1, rfl⟩ := Option.map_eq_some_iff.mp h
    obtain ⟨hl, ih⟩ := putBack_get h1
    refine ⟨by rw [List.length_set]; exact hl, fun i hi => ?_⟩
    by_cases e : i = i0
    · subst e
      exact .inl ⟨0, v, rfl, rfl, List.getElem?_set_self (by omega)⟩
    · rw [List.getElem?_set_ne (Ne.symm e)]
      rcases ih i hi with ⟨j, w, q1, q2, q3⟩ | ⟨q1, q2⟩
      · exact .inl ⟨j + 1, w, by simpa using q1, by simpa using q2, q3⟩
      · refine .inr ⟨fun j => ?_, q2⟩
        cases j with
        | zero => intro z; cases z; exact e rfl
        | succ j => simpa using q1 j
  | .io _ :: _, .fz _ :: _, _, _, h => by simp [putBack] at h
  | .io _ :: _, .un :: _, _, _, h => by simp [putBack] at h
  | .io _ :: _, [], _, _, h => by simp [putBack] at h
  | .va _ :: r, [], _, _, h => by simp [putBack] at h
  | .nw _ :: r, [], _, _, h => by simp [putBack] at h
  | .va w :: r, q :: s, ρ, ρ', h => by
    have h1 : putBack r s ρ = some ρ' := by cases q <;> exact h
    obtain ⟨hl, ih⟩ := putBack_get h1
    refine ⟨hl, fun i hi => ?_⟩
    rcases ih i hi with ⟨j, w, q1, q2, q3⟩ | ⟨q1, q2⟩
    · exact .inl ⟨j + 1, w, by simpa using q1, by simpa using q2, q3⟩
    · refine .inr ⟨fun j => ?_, q2⟩
      cases j with
      | zero => intro z; cases z
      | succ j => simpa using q1 j
  | .nw w :: r, q :: s, ρ, ρ', h => by
    have h1 : putBack r s ρ = some ρ' := by cases q <;> exact h
    obtain ⟨hl, ih⟩ := putBack_get h1
    refine ⟨hl, fun i hi => ?_⟩
    rcases ih i hi with ⟨j, w, q1, q2, q3⟩ | ⟨q1, q2⟩
    · exact .inl ⟨j + 1, w, by simpa using q1, by simpa using q2, q3⟩
    · refine .inr ⟨fun j => ?_, q2⟩
      cases j with
      | zero => intro z; cases z
      | succ j => simpa using q1 j
theorem mapM_get {as : List Arg} {ρ : Ro} : ∀ {ss : List Slot}, as.mapM (Arg.slot ρ) = some ss → ∀ j : Nat, (∀ a, as[j]? = some a → ∃ s, ss[j]? = some s ∧ Arg.slot ρ a = some s) ∧ (∀ s, ss[j]? = some s → ∃ a, as[j]? = some a ∧ Arg.slot ρ a = some s) := by
  induction as with
  | nil =>
    intro ss h j
    have : ss = [] := by simpa using h.symm
    subst this
    exact ⟨fun a h => by simp at h, fun s h => by simp at h⟩
  | cons a as ih =>
    intro ss h j
    rw [List.mapM_cons] at h
    obtain ⟨s, h1, h⟩ := Option.bind_eq_some_iff.mp h
    obtain ⟨ss', h2, h⟩ := Option.bind_eq_some_iff.mp h
    cases h
    cases j with
    | zero =>
      refine ⟨fun b hb => ?_, fun b hb => ?_⟩
      · cases hb; exact ⟨s, rfl, h1⟩
      · cases hb; exact ⟨a, rfl, h1⟩
    | succ j => simpa using ih h2 j
theorem paired_at {α β : Type} {R : α → β → Prop} {xs : List α} {ys : List β} (h : Paired R xs ys) {i : Nat} {x : α} {y : β} (hx : xs[i]? = some x) (hy : ys[i]? = some y) : R x y := by
  obtain ⟨y', h1, h2⟩ := GH.paired_get h hx
  rw [hy] at h1; cases h1; exact h2
/-- whose a changed argument is -/
theorem io_is {G Z F : Hp} {σ : L2.St} {H : Hp} {ρ : Ro} {as : List Arg} {xs : List V} {ss : List Slot} {a : Addr} (A : Abs X.K X.mg G Z F σ H ρ) (P : Paired (AtA X.K X.mg G F σ H ρ) xs as) (hm : as.mapM (Arg.slot ρ) = some ss) {j : Nat} {v : Val} (hx : xs[j]? = some (.ref a)) (hs : ss[j]? = some (.ow v)) :
    G a = none ∧ ((∃ i, as[j]? = some (.io i) ∧ ρ[i]? = some (.ow v) ∧ σ[i]? = some (some (.ref a))) ∨ (as[j]? = some (.nw v) ∧ Lone σ ρ a)) := by
  obtain ⟨g, h1, h2⟩ := (mapM_get hm j).2 _ hs
  have r := paired_at P hx h1
  cases g with
  | va w => cases h2
  | nw w =>
    cases h2
    obtain ⟨p, e, g0, o, l⟩ := r
    cases e
    exact ⟨g0, .inr ⟨h1, l⟩⟩
  | io i =>
    simp only [Arg.slot] at h2
    split at h2
    · rename_i w hw
      cases h2
      obtain ⟨p, e, g0, o⟩ := A.ow i _ hw
      have r : σ[i]? = some (some (.ref a)) := r
      rw [r] at e; cases e
      exact ⟨g0, .inl ⟨i, h1, hw, r⟩⟩
    · cases h2
theorem Abs.call {G Z F F' : Hp} {σ : L2.St} {H H' : Hp} {ρ ρ' : Ro} {as : List Arg} {xs : List V} {ss fin : List Slot} (A : Abs X.K X.mg G Z F σ H ρ) (P : Paired (AtA X.K X.mg G F σ H ρ) xs as) (hm : as.mapM (Arg.slot ρ) = some ss) (E : EndR X.K X.mg F H xs ss F' H' fin) (hp : putBack as fin ρ = some ρ') :
    Abs X.K X.mg G Z F' σ H' ρ' := by
  obtain ⟨hl, pg⟩ := putBack_get hp
  have iog : ∀ a, a ∈ ioOf xs ss → G a = none := fun a h => by
    obtain ⟨j, v, h1, h2⟩ := ioOf_mem h
    exact (io_is A P hm h1 h2).1
  have lt : ∀ {i : Nat} {s : Slot}, ρ'[i]? = some s → i < ρ.length := fun {i s} h => by
    have := (List.getElem?_eq_some_iff.mp h).1
    omega
  -- a place that was not handed over
  have stay : ∀ {i : Nat} {v : Val} {a : Addr}, (∀ j : Nat, as[j]? ≠ some (.io i)) → ρ[i]? = some (.ow v) → σ[i]? = some (some (.ref a)) → Own X.K X.mg F H a v → a ∉ ioOf xs ss := fun {i v a} h1 h2 h3 o h => by
    obtain ⟨j, w, q1, q2⟩ := ioOf_mem h
    rcases (io_is A P hm q1 q2).2 with ⟨i', g1, g2, g3⟩ | ⟨g1, g2⟩
    · by_cases e : i = i'
      · subst e; exact h1 j g1
      · exact A.ap i i' a v w e h2 g2 h3 g3
    · exact g2 i v h2 h3
  refine ⟨E.sub, fun a o h => ?_, A.f0.trans E.up, fun a o h => ?_, by rw [hl]; exact A.len, fun i v h => ?_, fun i v h => ?_, fun i j a v w n h h' => ?_⟩
  · exact E.kp a o (A.bg a o h) fun z => by rw [iog a z] at h; cases h
  · rcases E.nw a o h with q | q | q | q
    · exact A.nw a o q
    · refine .inr (.inl ?_)
      cases z : G a with
      | none => rfl
      | some u => rw [A.bg a u z] at q; cases q
    · exact .inr (.inl (iog a q))
    · exact .inr (.inr q)
  · rcases pg i (lt h) with ⟨j, w, q1, q2, q3⟩ | ⟨q1, q2⟩
    · rw [q3] at h; cases h
    · rw [q2] at h
      obtain ⟨x, h1, h2⟩ := A.fz i v h
      exact ⟨x, h1, h2.mono E.up⟩
  · rcases pg i (lt h) with ⟨j, w, q1, q2, q3⟩ | ⟨q1, q2⟩
    · rw [q3] at h; cases h
      obtain ⟨s, g1, g2⟩ := (mapM_get hm j).1 _ q1
      simp only [Arg.slot] at g2
      split at g2
      · rename_i w hw
        cases g2
        obtain ⟨a, h1, h2, h3⟩ := A.ow i _ hw
        obtain ⟨x, hx, hr⟩ := GH.paired_get' P q1
        have hr : σ[i]? = some (some x) := hr
        rw [h1] at hr; cases hr
        exact ⟨a, h1, h2, E.io j a _ _ g1 hx q2⟩
      · cases g2
    · rw [q2] at h
      obtain ⟨a, h1, h2, h3⟩ := A.ow i v h
      have na := stay q1 h h1 h3
      obtain ⟨u, hu, hnt⟩ := h3.at
      have hH : H' a = H a := (E.kp a u hu na).trans hu.symm
      refine ⟨a, h1, h2, h3.keep E.up ?_ hH⟩
      cases z : F' a with
      | none => rfl
      | some o =>
        rcases E.nw a o z with q | q | q | ⟨ys, rfl⟩
        · rw [h3.no] at q; cases q
        · rw [hu] at q; cases q
        · exact absurd q na
        · have y := E.sub a _ z
          rw [hH, hu] at y
          cases y
          exact absurd rfl (hnt ys)
  · have was : ∀ {i : Nat} {v : Val}, ρ'[i]? = some (.ow v) → ∃ v', ρ[i]? = some (.ow v') := fun {i v} h => by
      rcases pg i (lt h) with ⟨j, w, q1, q2, q3⟩ | ⟨q1, q2⟩
      · obtain ⟨s, g1, g2⟩ := (mapM_get hm j).1 _ q1
        simp only [Arg.slot] at g2
        split at g2
        · rename_i w hw; exact ⟨w, hw⟩
        · cases g2
      · rw [q2] at h; exact ⟨v, h⟩
    obtain ⟨v1, h1⟩ := was h
    obtain ⟨v2, h2⟩ := was h'
    exact A.ap i j a v1 v2 n h1 h2
/-- the changed arguments are not one and the same -/
theorem io_nodup {G Z F : Hp} {σ : L2.St} {H : Hp} {ρ : Ro} (A : Abs X.K X.mg G Z F σ H ρ) : ∀ {as : List Arg} {xs : List V} {ss : List Slot}, ioNd as = true → Paired (AtA X.K X.mg G F σ H ρ) xs as → as.mapM (Arg.slot ρ) = some ss → (ioOf xs ss).Nodup
  | [], _, ss, _, .nil, h => by cases ss <;> exact List.nodup_nil
  | a :: as, x :: xs, ss, hn, .cons r t, h => by
    rw [List.mapM_cons] at h
    obtain ⟨s, h1, h⟩ := Option.bind_eq_some_iff.mp h
    obtain ⟨ss', h2, h⟩ := Option.bind_eq_some_iff.mp h
    cases h
    cases a with
    | va v =>
      cases h1
      have : ioOf (x :: xs) (.fz v :: ss') = ioOf xs ss' := by cases x <;> rfl
      rw [this]
      exact io_nodup A (show ioNd as = true from hn) t h2
    | nw v =>
      cases h1
      obtain ⟨p, rfl, g0, o, l⟩ := r
      simp only [ioNd, Bool.and_eq_true, Bool.not_eq_true'] at hn
      refine List.nodup_cons.mpr ⟨fun hm => ?_, io_nodup A hn.2 t h2⟩
      obtain ⟨j, w, q1, q2⟩ := ioOf_mem hm
      rcases (io_is A t h2 q1 q2).2 with ⟨i', g1, g2, g3⟩ | ⟨g1, g2⟩
      · exact l i' w g2 g3
      · have : (as.any Arg.isN) = true := List.any_eq_true.mpr ⟨_, List.mem_of_getElem? g1, rfl⟩
        rw [this] at hn; cases hn.1
    | io i =>
      simp only [Arg.slot] at h1
      split at h1
      · rename_i v hv
        cases h1
        obtain ⟨p, e, g0, o⟩ := A.ow i _ hv
        have r : σ[i]? = some (some x) := r
        rw [e] at r; cases r
        simp only [ioNd, Bool.and_eq_true, Bool.not_eq_true'] at hn
        refine List.nodup_cons.mpr ⟨fun hm => ?_, io_nodup A hn.2 t h2⟩
        obtain ⟨j, w, q1, q2⟩ := ioOf_mem hm
        rcases (io_is A t h2 q1 q2).2 with ⟨i', g1, g2, g3⟩ | ⟨g1, g2⟩
        · by_cases ei : i = i'
          · subst ei
            have : (as.any (Arg.isAt i)) = true := List.any_eq_true.mpr ⟨_, List.mem_of_getElem? g1, by simp [Arg.isAt]⟩
            rw [this] at hn; cases hn.1
          · exact A.ap i i' p v w ei hv g2 e g3
        · exact g2 i v hv e
      · cases h1
/-- a call, behind its arguments -/
theorem call_at {G Z F : Hp} {σ : L2.St} {H : Hp} {ρ : Ro} {as : List Arg} {xs : List V} {n : Nat} {f : String} {ps : List String} {Q : VK} {C : Hp → Hp → Ro → Slot → Prop} (A : Abs X.K X.mg G Z F σ H ρ) (P : Paired (AtA X.K X.mg G F σ H ρ) xs as)
    (hC : ∀ F' H' ρ' r, C F' H' ρ' r → ∀ x, ResR X.K X.mg G F' σ H' ρ' x r → Q x H') (hn : ∀ ss o, cal f ss = some o → ss.length = n) (h : Aft X.K X.mg W G Z F σ (callF cal ps f [] as ρ) C) : spF X.K X.mg cal n f xs H Q fun c d H' => W c d σ H' := by
  unfold callF at h
  split at h
  · rename_i hnd
    rw [Bool.and_eq_true] at hnd
    have e1 : ∀ o : Option (List Slot), o.bind (order ps []) = o := fun o => by cases o <;> simp [order]
    rw [e1] at h
    cases hm : as.mapM (Arg.slot ρ) with
    | none => rw [hm] at h; exact h.elim
    | some ss =>
      rw [hm] at h
      have h : Aft X.K X.mg W G Z F σ (finish as (cal f ss) ρ) C := h
      have hl : ss.length = n := by
        cases hc : cal f ss with
        | none => rw [hc] at h; exact h.elim
        | some o => exact hn ss o hc
      refine ⟨F, ss, hl, A.sub, args_slots A P hm, io_nodup A hnd.1 P hm, ?_⟩
      unfold PstC
      unfold finish at h
      split at h
      · rename_i r fin hc
        first | rw [hc] | skip
        split at h
        · rename_i ρ' hp
          intro F' H' x E rx
          have A' := A.call P hm E hp
          refine hC F' H' ρ' r (h F' H' A' E.up) x ?_
          cases r with
          | un => exact rx
          | fz v => exact rx
          | ow v =>
            obtain ⟨p, e, hN, o⟩ := rx
            refine ⟨p, e, ?_, o, fun i w hw hs => ?_⟩
            · cases z : G p with
              | none => rfl
              | some u => rw [A.bg p u z] at hN; cases hN
            · obtain ⟨p', e', _, o'⟩ := A'.ow i w hw
              rw [hs] at e'; cases e'
              have was : ∃ w', ρ[i]? = some (.ow w') := by
                obtain ⟨hl, pg⟩ := putBack_get hp
                have lt : i < ρ.length := by
                  have := (List.getElem?_eq_some_iff.mp hw).1
                  omega
                rcases pg i lt with ⟨j, w, q1, q2, q3⟩ | ⟨q1, q2⟩
                · obtain ⟨s, g1, g2⟩ := (mapM_get hm j).1 _ q1
                  simp only [Arg.slot] at g2
                  split at g2
                  · rename_i w hw; exact ⟨w, hw⟩
                  · cases g2
                · rw [q2] at hw; exact ⟨w, hw⟩
              obtain ⟨w', hw'⟩ := was
              obtain ⟨p', e', _, o'⟩ := A.ow i w' hw'
              rw [hs] at e'; cases e'
              obtain ⟨u, hu, _⟩ := o'.at
              rw [hN] at hu; cases hu
        · exact h.elim
      · rename_i e fin hc
        first | rw [hc] | skip
        split at h
        · rename_i ρ' hp
          intro F' H' d E rd
          exact h F' H' d (A.call P hm E hp) E.up rd
        · exact h.elim
      · exact h.elim
  · exact h.elim
theorem sE_call {d : Def} {fa : Addr} {fd : FuncData} {pS : List Str} {n : Nat} {x : Str} {f : String} {p : Pos} {es : List Expr} {xs : List Ex} {k : Nat} (F : FnE X.prog X.w X.K X.mg X.base k fa fd pS (spF X.K X.mg cal n f)) (gd : X.A.guards = some []) (hr : Room k X.A) (tk : Takes X W)
    (hb : ∀ (s : Shared) (us : List Value), us.length = pS.length → BindsTo s fd ⟨us, []⟩ (pS.zip us)) (hg : Gl X x) (hm : X.mg x = some (.ref fa)) (hk : PySem.W.keepIn X.K (.ref fa) = true) (hd : T.fn f = some d) (hn : ∀ ss o, cal f ss = some o → ss.length = n)
    (ha : PA X (e :: es) (tArgs X W T cal mkc d.io xs)) (hdb : (x == ("__debug__" : Str)) = false) (he : starEach (e :: es) X.env = (false, eval e X.env) :: starEach es X.env) (hpl : (backTo pos (starEach es X.env)).any (·.1) = false) :
    PE X (.Call (.Name x p) (e :: es) [] pos) (tE X.K X.mg W T cal mkc (.call f xs [])) := by
  refine ⟨fun pins s σ H Q I h => ?_⟩
  obtain ⟨G, Z, F0, ρ, A, q⟩ := h
  have e1 : evE T cal mkc (.call f xs []) ρ = EV.bnd (evAs T cal mkc d.io xs ρ) fun as ρ1 => callF cal d.ps f [] as ρ1 := by
    simp only [evE, hd]
  rw [e1] at q
  refine wpAny_Call_Name_kw (ld_glob I hg hm ?_ hdb)
  refine PySem.W.callWith_K (h₀ := X.base) I.ok.mod.kin hk (thn (ha.run pos pins s σ H (fun vs H1 => spF X.K X.mg cal n f vs H1 Q fun c d H' => W c d σ H') I ⟨G, Z, F0, ρ, A, q.bnd.imp fun F1 H1 ρ1 as A1 e1 q1 ys rys => call_at A1 rys (fun _ _ _ _ c => c) hn q1⟩) fun us s1 ⟨vs, H1, I1, r, q⟩ => ⟨I1.kIn, ?_⟩) he hpl
  exact run_fnE (args := ⟨us, []⟩) F gd hr tk (hb s1 us) I1 r q
/-- a def without parameters -/
theorem sE_call0 {d : Def} {fa : Addr} {fd : FuncData} {pS : List Str} {n : Nat} {x : Str} {f : String} {p : Pos} {k : Nat} (F : FnE X.prog X.w X.K X.mg X.base k fa fd pS (spF X.K X.mg cal n f)) (gd : X.A.guards = some []) (hr : Room k X.A) (tk : Takes X W)
    (hb : ∀ (s : Shared) (us : List Value), us.length = pS.length → BindsTo s fd ⟨us, []⟩ (pS.zip us)) (hg : Gl X x) (hm : X.mg x = some (.ref fa)) (hk : PySem.W.keepIn X.K (.ref fa) = true) (hd : T.fn f = some d) (hn : ∀ ss o, cal f ss = some o → ss.length = n) (hdb : (x == ("__debug__" : Str)) = false) :
    PE X (.Call (.Name x p) [] [] pos) (tE X.K X.mg W T cal mkc (.call f [] [])) := by
  refine ⟨fun pins s σ H Q I h => ?_⟩
  obtain ⟨G, Z, F0, ρ, A, q⟩ := h
  have e1 : evE T cal mkc (.call f [] []) ρ = callF cal d.ps f [] [] ρ := by
    have e2 : ∀ (i : List Bool) (ρ : Ro), evAs T cal mkc i [] ρ = EV.pur [] ρ := fun i ρ => by cases i <;> rfl
    simp [evE, hd, e2]
  rw [e1] at q
  refine wpAny_Call_Name_kw (ld_glob I hg hm ?_ hdb)
  exact PySem.W.callWith_K0 I.kIn hk (run_fnE (us := []) (args := ⟨[], []⟩) F gd hr tk (hb s []) I .nil (call_at A .nil (fun _ _ _ _ c => c) hn q))
/-! methods, fields -/
theorem _root_.PySem.ofString_inj {a b : String} (h : Str.ofString a = Str.ofString b) : a = b := by
  rw [PySem.Str.ofString_eq_toList, PySem.Str.ofString_eq_toList] at h
  injection h with h
  have h2 : a.toList.map Char.toNat = b.toList.map Char.toNat := by simpa using congrArg Array.toList h
  have inj : ∀ {l m : List Char}, l.map Char.toNat = m.map Char.toNat → l = m := by
    intro l
    induction l with
    | nil => intro m h; cases m with
      | nil => rfl
      | cons _ _ => cases h
    | cons x l ih => intro m h; cases m with
      | nil => cases h
      | cons y m =>
        simp only [List.map_cons, List.cons.injEq] at h
        have hc : x = y := Char.ext (UInt32.toNat_inj.mp h.1)
        rw [hc, ih h.2]
  exact String.toList_inj.mp (inj h2)
theorem repF_none {K : PySem.W.Frag} {mg : Str → Option Value} {F : Hp} : ∀ {xs : List (Str × V)} {fs : List (String × Val)} {m : String}, RepF K mg F xs fs → fs.lookup m = none → xs.lookup (Str.ofString m) = none
  | _, _, _, .nil, _ => rfl
  | _, _, m, .cons (f := f) a r, h => by
    rw [List.lookup_cons] at h ⊢
    cases hc : m == f with
    | true => rw [hc] at h; cases h
    | false =>
      rw [hc] at h
      have : (Str.ofString m == Str.ofString f) = false := by
        rw [beq_eq_false_iff_ne]
        intro z
        rw [ofString_inj z] at hc
        simp at hc
      rw [this]
      exact repF_none r h
theorem repF_some {K : PySem.W.Frag} {mg : Str → Option Value} {F : Hp} : ∀ {xs : List (Str × V)} {fs : List (String × Val)} {m : String} {v : Val}, RepF K mg F xs fs → fs.lookup m = some v → ∃ x, xs.lookup (Str.ofString m) = some x ∧ Rep K mg F x v
  | _, _, _, _, .nil, h => by cases h
  | _, _, m, v, .cons (f := f) (x := x) a r, h => by
    rw [List.lookup_cons] at h
    cases hc : m == f with
    | true =>
      rw [hc] at h
      cases h
      have : m = f := by simpa using hc
      subst this
      exact ⟨x, by rw [List.lookup_cons]; simp, a⟩
    | false =>
      rw [hc] at h
      have : (Str.ofString m == Str.ofString f) = false := by
        rw [beq_eq_false_iff_ne]
        intro z
        rw [ofString_inj z] at hc
        simp at hc
      obtain ⟨y, h1, h2⟩ := repF_some r h
      exact ⟨y, by rw [List.lookup_cons, this]; exact h1, h2⟩
theorem sE_fld {f : String} (ha : PE X a (tO X.K X.mg W T cal mkc ea)) (hf : ∀ c, T.fld c f = true → Cls X.K (GH.clsA X.mg (Str.ofString c)) ∧ NoAttr X.K (GH.clsA X.mg (Str.ofString c)) (Str.ofString f)) (hb : attributeBase a (Str.ofString f) X.env (eval a X.env) = eval a X.env) : PE X (.Attribute a (Str.ofString f) pos) (tE X.K X.mg W T cal mkc (.fld ea f)) := by
  refine (pe_fld ha hb).imp fun σ H Q q => ?_
  obtain ⟨G, Z, F, ρ, A, q⟩ := q
  refine ⟨G, Z, F, ρ, A, q.bnd.imp fun F1 H1 ρ1 x A1 e1 q1 vx rx => ?_⟩
  obtain ⟨r, hr, q3⟩ := q1.lift
  obtain ⟨z, hr1, rfl⟩ := Option.map_eq_some_iff.mp hr
  obtain ⟨u, hu, hr2⟩ := Option.bind_eq_some_iff.mp hr1
  have rb := OpdR.read A1 rx hu
  cases rb with
  | obj s1 r1 =>
    simp only at hr2
    split at hr2
    · rename_i hc
      obtain ⟨y, g1, g2⟩ := repF_some r1 hr2
      exact ⟨_, _, _, _, y, rfl, s1, (hf _ hc).1, (hf _ hc).2, g1, Aft.pur q3 A1 y g2⟩
    · cases hr2
  | _ => cases hr2
/-- a property that hands a field out -/
structure PropAt (K : PySem.W.Frag) (mg : Str → Option Value) (c p f : String) : Prop where
  ex : ∃ (pa g : Addr) (fd : FuncData), Cls K (GH.clsA mg (Str.ofString c)) ∧ PropOf K (GH.clsA mg (Str.ofString c)) (Str.ofString p) pa g ∧ (∀ (P : Program) (w : World) (base : Heap), FnOk P w K mg base CX0 1 g fd ["self"] (getSp (GH.clsA mg (Str.ofString c)) (Str.ofString f))) ∧ Binds K fd ["self"] []
theorem sE_prp {c p f : String} (hr : Room (kr + 2) X.A) (ha : PE X a (tO X.K X.mg W T cal mkc ea)) (hp : T.prp c p f = true → PropAt X.K X.mg c p f) (hT : T.prp c p f = true) (hb : attributeBase a (Str.ofString p) X.env (eval a X.env) = eval a X.env) : PE X (.Attribute a (Str.ofString p) pos) (tE X.K X.mg W T cal mkc (.prp c p f ea)) := by
  obtain ⟨pa, g, fd, cl, po, fn, bi⟩ := (hp hT).ex
  refine (pe_prop ha cl po (fn _ _ _) (hr.mono (by omega)) bi .nil pass0 hb).imp fun σ H Q q => ?_
  obtain ⟨G, Z, F, ρ, A, q⟩ := q
  refine ⟨G, Z, F, ρ, A, q.bnd.imp fun F1 H1 ρ1 x A1 e1 q1 vx rx => ?_⟩
  obtain ⟨r, hr, q3⟩ := q1.lift
  obtain ⟨z, hr1, rfl⟩ := Option.map_eq_some_iff.mp hr
  obtain ⟨u, hu, hr2⟩ := Option.bind_eq_some_iff.mp hr1
  have rb := OpdR.read A1 rx hu
  cases rb with
  | obj s1 r1 =>
    simp only at hr2
    split at hr2
    · rename_i hc
      obtain ⟨rfl, _⟩ := hc
      obtain ⟨y, g1, g2⟩ := repF_some r1 hr2
      exact ⟨_, _, _, rfl, s1, _, _, _, y, rfl, s1, g1, Aft.pur q3 A1 y g2⟩
    · cases hr2
  | _ => cases hr2
theorem isObj_at {G Z F : Hp} {σ : L2.St} {H : Hp} {ρ : Ro} {x : V} {r : Arg} {c m : String} (A : Abs X.K X.mg G Z F σ H ρ) (h : AtA X.K X.mg G F σ H ρ x r) (ho : r.isObj ρ c m = true) : ∃ a dx fs, x = .ref a ∧ H a = some (.ins (GH.clsA X.mg (Str.ofString c)) dx fs) ∧ fs.lookup (Str.ofString m) = none := by
  cases r with
  | nw v => cases ho
  | io i =>
    simp only [Arg.isObj, ownAt] at ho
    cases hw : ρ[i]? with
    | none => rw [hw] at ho; cases ho
    | some s =>
      rw [hw] at ho
      cases s with
      | un => cases ho
      | fz v => cases ho
      | ow v =>
        obtain ⟨p, e, _, o⟩ := A.ow i v hw
        have h : σ[i]? = some (some x) := h
        rw [e] at h; cases h
        cases o with
        | obj n g r =>
          simp only [Bool.and_eq_true, beq_iff_eq, Option.isNone_iff_eq_none] at ho
          obtain ⟨rfl, h2⟩ := ho
          exact ⟨p, _, _, rfl, g, repF_none r h2⟩
        | _ => cases ho
  | va v =>
    have h : Rep X.K X.mg F x v := h
    cases h with
    | obj g r =>
      simp only [Arg.isObj, Bool.and_eq_true, beq_iff_eq, Option.isNone_iff_eq_none] at ho
      obtain ⟨rfl, h2⟩ := ho
      exact ⟨_, _, _, rfl, A.sub _ _ g, repF_none r h2⟩
    | _ => cases ho
theorem sE_mth {d : Def} {fa : Addr} {fd : FuncData} {pS : List Str} {n : Nat} {c m f : String} {o : Expr} {apos : Pos} {es : List Expr} {eo : Ex} {xs : List Ex} {k : Nat} {pl : Sem Bool} (F : FnE X.prog X.w X.K X.mg X.base k fa fd pS (spF X.K X.mg cal n f)) (gd : X.A.guards = some []) (hr : Room k X.A) (tk : Takes X W)
    (hb : ∀ (s : Shared) (us : List Value), us.length = pS.length → BindsTo s fd ⟨us, []⟩ (pS.zip us)) (cl : Cls X.K (GH.clsA X.mg (Str.ofString c))) (hme : Meth X.K (GH.clsA X.mg (Str.ofString c)) (Str.ofString m) fa) (hd : T.fn f = some d) (hn : ∀ ss o, cal f ss = some o → ss.length = n)
    (ho : PE X o (tArg X W T cal mkc (d.io.getD 0 false) eo)) (ha : PA X (e :: es) (tArgs X W T cal mkc (d.io.drop 1) xs))
    (hst : starEach (e :: es) X.env = (false, eval e X.env) :: starEach es X.env) (hpl : (backTo pos (starEach es X.env)).any (·.1) = false)
    (ht : eval (.Call (.Attribute o (Str.ofString m) apos) (e :: es) [] pos) X.env = (do
      let ov ← eval o X.env
      standAt apos.atName
      let (f, first) ← holding [ov] (getMethod ov (Str.ofString m) pl)
      callWith pos f first (backTo pos (starEach (e :: es) X.env)) (backToKw pos (keywordEach [] X.env)))) :
    PE X (.Call (.Attribute o (Str.ofString m) apos) (e :: es) [] pos) (tE X.K X.mg W T cal mkc (.mth f c m eo xs)) := by
  refine ⟨fun pins s σ H Q I h => ?_⟩
  obtain ⟨G, Z, F0, ρ, A, q⟩ := h
  have e1 : evE T cal mkc (.mth f c m eo xs) ρ = EV.bnd (argOf (d.io.getD 0 false) eo (evE T cal mkc eo) ρ) fun r ρ0 => if !r.isObj ρ0 c m then none else EV.bnd (evAs T cal mkc (d.io.drop 1) xs ρ0) fun as ρ1 => callF cal d.ps f [] (r :: as) ρ1 := by
    simp only [evE, hd]
  rw [e1] at q
  refine PySem.W.methodCall_KW (pl := pl) (thn (ho.run pins s σ H (fun x H1 => ∃ a dx fs, x = .ref a ∧ H1 a = some (.ins (GH.clsA X.mg (Str.ofString c)) dx fs) ∧ fs.lookup (Str.ofString m) = none ∧ tArgs X W T cal mkc (d.io.drop 1) xs σ H1 fun vs H2 => spF X.K X.mg cal n f (x :: vs) H2 Q fun c d H' => W c d σ H') I
    ⟨G, Z, F0, ρ, A, q.bnd.imp fun F1 H1 ρ1 r A1 e1 q1 x rx => ?_⟩) fun u s1 ⟨x, H1, I1, rx, a, dx, fs, ex, ea, l, q⟩ => ?_) ht
  · split at q1
    · exact q1.elim
    · rename_i hc
      have hc : r.isObj ρ1 c m = true := by simpa using hc
      obtain ⟨a, dx, fs, rfl, h1, h2⟩ := isObj_at A1 rx hc
      refine ⟨a, dx, fs, rfl, h1, h2, G, Z, F1, ρ1, A1, q1.bnd.imp fun F2 H2 ρ2 as A2 e2 q2 ys rys => ?_⟩
      refine call_at A2 (.cons (rx.mono e2 fun v z => ?_) rys) (fun _ _ _ _ c => c) hn q2
      rw [z] at hc; cases hc
  · subst ex
    obtain rfl : u = Value.ref a := rx
    refine getmeth_ok I1 ea cl hme l ?_
    refine PySem.W.callWith_K (first := [.ref a]) (h₀ := X.base) I.ok.mod.kin hme.kp (thn (ha.run pos pins s1 σ H1 _ I1 q) fun us s2 ⟨vs, H2, I2, r, q2⟩ => ⟨I2.kIn, ?_⟩) hst hpl
    exact run_fnE (us := .ref a :: us) (vs := .ref a :: vs) (args := ⟨.ref a :: us, []⟩) F gd hr tk (hb s2 (.ref a :: us)) I2 (.cons rfl r) q2
/-! making an instance -/
theorem Abs.grow {G Z F F' : Hp} {σ : L2.St} {H H' : Hp} {ρ : Ro} (A : Abs X.K X.mg G Z F σ H ρ) (up : Ex' F F') (sub : Ex' F' H') (kp : Ex' H H') (nw : ∀ a o, F' a = some o → F a = some o ∨ H a = none ∨ ∃ xs, o = .tup xs) : Abs X.K X.mg G Z F' σ H' ρ := by
  refine ⟨sub, A.bg.trans kp, A.f0.trans up, fun a o h => ?_, A.len, fun i v h => ?_, fun i v h => ?_, A.ap⟩
  · rcases nw a o h with q | q | q
    · exact A.nw a o q
    · refine .inr (.inl ?_)
      cases z : G a with
      | none => rfl
      | some u => rw [A.bg a u z] at q; cases q
    · exact .inr (.inr q)
  · obtain ⟨x, h1, h2⟩ := A.fz i v h
    exact ⟨x, h1, h2.mono up⟩
  · obtain ⟨a, h1, h2, h3⟩ := A.ow i v h
    obtain ⟨u, hu, hnt⟩ := h3.at
    have hH : H' a = H a := (kp a u hu).trans hu.symm
    refine ⟨a, h1, h2, h3.keep up ?_ hH⟩
    cases z : F' a with
    | none => rfl
    | some o =>
      rcases nw a o z with q | q | ⟨ys, rfl⟩
      · rw [h3.no] at q; cases q
      · rw [hu] at q; cases q
      · have y := sub a _ z
        rw [hH, hu] at y
        cases y
        exact absurd rfl (hnt ys)
theorem Abs.fresh {G Z F : Hp} {σ : L2.St} {H : Hp} {ρ : Ro} {x : Addr} (A : Abs X.K X.mg G Z F σ H ρ) (h : H x = none) : F x = none ∧ G x = none ∧ Lone σ ρ x := (A.newO (o := .lst []) h).2
theorem guards_make {A : Around} {C : Addr} {us : List Value} {kw : List (Str × Value)} : (A.under (.builtin "type.__call__" ⟨.ref C :: us, kw⟩)).guards = A.guards := by
  first | rfl | simp [Around.under, Code.weight, Code.isCreation, Code.isGuard, Code.isCaller, Code.frames, Code.isFrame, guardIds]
theorem run_makeE {k : Nat} {fa C : Addr} {fd : FuncData} {pS : List Str} {sp : Sp} {pins : List (Addr × Obj)} {σ : L2.St} {H : Hp} {s : Shared} {Q : VK} {us ws : List Value} {vs : List V} {kw : List (Str × Value)} (M : Mk X.K C fa) (F : FnE X.prog X.w X.K X.mg X.base k fa fd pS sp) (gd : X.A.guards = some []) (hr : Room (k + 1) X.A) (tk : Takes X W)
    (hb : ∀ (s : Shared) (x : Value), (x :: ws).length = pS.length → BindsTo s fd ⟨x :: us, kw⟩ (pS.zip (x :: ws))) (I : Inv X pins σ H s) (r : Vals vs ws)
    (h : ∀ x dx, H x = none → H dx = none → dx ≠ x → sp (.ref x :: vs) (upd (upd H dx (.own x)) x (.ins C dx [])) (fun v H2 => v = .non ∧ Q (.ref x) H2) fun c d H' => W c d σ H') :
    wpAny (model X.prog X.w) X.A (call (.ref C) us kw) (EP X pins σ Q) X.xe s := by
  have hq := h (s.heap.objs.size + 1) s.heap.objs.size (I.hok.fresh (Nat.le_succ _)) (I.hok.fresh (Nat.le_refl _)) (Nat.ne_of_lt (Nat.lt_succ_self _))
  have I2 := Inv.made (C := C) I
  have r2 : Vals (V.ref (s.heap.objs.size + 1) :: vs) (Value.ref (s.heap.objs.size + 1) :: ws) := .cons rfl r
  have hl : (Value.ref (s.heap.objs.size + 1) :: ws).length = pS.length := by
    have e := r2.length
    rw [F.ln _ _ _ _ hq] at e
    exact e.symm
  refine wpAny_call (make_map (f := fa) I.kIn M.makes M.init (beq_iff_eq.mp M.fn) (codeAny_mono (F.go _ X.stack _ _ ⟨Value.ref (s.heap.objs.size + 1) :: us, kw⟩ (Value.ref (s.heap.objs.size + 1) :: ws) _ _ _ (by rw [guards_make]; exact gd) (hr.make C us kw)
    (I2.env0.make C us kw) (hb _ (Value.ref (s.heap.objs.size + 1)) hl) r2 hq) fun r s' hq' => ?_))
  cases r with
  | error e => exact tk e s' (XE.of_call I2 (fun _ _ _ h => h) hq')
  | ok fl =>
    cases fl with
    | ret u =>
      obtain ⟨v, H', I3, rv, ev, q3⟩ := I2.after hq'
      subst ev
      exact ⟨rv, ⟨V.ref (s.heap.objs.size + 1), H', I3, rfl, q3⟩⟩
    | next => exact False.elim hq'
    | brk => exact False.elim hq'
    | cont => exact False.elim hq'
theorem args_fz {F H : Hp} : ∀ {xs : List V} {vs : List Val}, Reps X.K X.mg F xs vs → Paired (ArgR X.K X.mg F H) xs (vs.map .fz) ∧ ioOf xs (vs.map .fz) = []
  | _, _, .nil => ⟨.nil, rfl⟩
  | _, _, .cons (x := x) a r => by
    obtain ⟨h1, h2⟩ := args_fz (H := H) r
    refine ⟨.cons a h1, ?_⟩
    rw [List.map_cons]
    cases x <;> exact h2
/-- behind the arguments: __init__ at the new instance -/
theorem make_at {G Z F : Hp} {σ : L2.St} {H : Hp} {ρ : Ro} {xs : List V} {vs : List Val} {n : Nat} {c f : String} {Q : VK} {C : Hp → Hp → Ro → Slot → Prop} {x dx : Addr} (A : Abs X.K X.mg G Z F σ H ρ) (P : Reps X.K X.mg F xs vs)
    (hC : ∀ F' H' ρ' r, C F' H' ρ' r → ∀ x, ResR X.K X.mg G F' σ H' ρ' x r → Q x H') (hn : ∀ ss o, mkc f ss = some o → ss.length = n) (hx : H x = none) (hdx : H dx = none) (hne : dx ≠ x)
    (h : Aft X.K X.mg W G Z F σ (mkEnd (mkc f (.ow (.obj c []) :: vs.map .fz)) ρ) C) :
    spF X.K X.mg mkc n f (.ref x :: xs) (upd (upd H dx (.own x)) x (.ins (GH.clsA X.mg (Str.ofString c)) dx [])) (fun v H2 => v = .non ∧ Q (.ref x) H2) fun c d H' => W c d σ H' := by
  obtain ⟨hF, hG, hL⟩ := A.fresh hx
  have kp1 : Ex' H (upd (upd H dx (.own x)) x (.ins (GH.clsA X.mg (Str.ofString c)) dx [])) := fun a o h => by
    rw [upd_ne (ne_of_none h hx), upd_ne (ne_of_none h hdx)]; exact h
  obtain ⟨q1, q2⟩ := args_fz (H := upd (upd H dx (.own x)) x (.ins (GH.clsA X.mg (Str.ofString c)) dx [])) P
  have io : ioOf (.ref x :: xs) (.ow (.obj c []) :: vs.map .fz) = [x] := by
    show x :: ioOf xs (vs.map .fz) = [x]
    rw [q2]
  cases hm : mkc f (.ow (.obj c []) :: vs.map .fz) with
  | none => rw [hm] at h; exact h.elim
  | some o =>
    refine ⟨F, .ow (.obj c []) :: vs.map .fz, hn _ _ hm, A.sub.trans kp1, .cons ⟨x, rfl, .obj hF upd_same .nil⟩ q1, by rw [io]; simp, ?_⟩
    rw [hm] at h ⊢
    have gr : ∀ {F' H' : Hp} {fin : List Slot}, EndR X.K X.mg F (upd (upd H dx (.own x)) x (.ins (GH.clsA X.mg (Str.ofString c)) dx [])) (.ref x :: xs) (.ow (.obj c []) :: vs.map .fz) F' H' fin → Abs X.K X.mg G Z F' σ H' ρ := fun {F' H' fin} E => by
      refine A.grow E.up E.sub (fun a o h => E.kp a o (kp1 a o h) ?_) fun a o h => ?_
      · rw [io]; intro z
        have z : a = x := by simpa using z
        rw [z, hx] at h; cases h
      · rcases E.nw a o h with q | q | q | q
        · exact .inl q
        · refine .inr (.inl ?_)
          cases z : H a with
          | none => rfl
          | some u => rw [kp1 a u z] at q; cases q
        · rw [io] at q
          have z : a = x := by simpa using q
          exact .inr (.inl (by rw [z]; exact hx))
        · exact .inr (.inr q)
    cases o with
    | ex e fin =>
      intro F' H' d E rd
      exact h F' H' d (gr E) E.up rd
    | ok r fin =>
      cases r with
      | un => exact h.elim
      | ow v => exact h.elim
      | fz v =>
        cases v with
        | non =>
          cases fin with
          | nil => exact h.elim
          | cons q fin =>
            cases q with
            | un => exact h.elim
            | fz v => exact h.elim
            | ow v =>
              cases v with
              | obj c' fs =>
                intro F' H' y E ry
                cases ry
                have o := E.io 0 x _ _ rfl rfl rfl
                have A' := gr E
                exact ⟨rfl, hC F' H' ρ _ (h F' H' A' E.up) _ ⟨x, rfl, hG, o, fun i w hw hs => hL i w hw hs⟩⟩
              | _ => exact h.elim
        | _ => exact h.elim
theorem sE_mk {d : Def} {fa : Addr} {fd : FuncData} {pS : List Str} {n : Nat} {c f : String} {p : Pos} {es : List Expr} {xs : List Ex} {k : Nat} (M : Mk X.K (GH.clsA X.mg (Str.ofString c)) fa) (F : FnE X.prog X.w X.K X.mg X.base k fa fd pS (spF X.K X.mg mkc n f)) (gd : X.A.guards = some []) (hr : Room (k + 1) X.A) (tk : Takes X W) (hf : f = c ++ ".__init__")
    (hb : ∀ (s : Shared) (us : List Value), us.length = pS.length → BindsTo s fd ⟨us, []⟩ (pS.zip us)) (hg : Gl X (Str.ofString c)) (hm : X.mg (Str.ofString c) = some (.ref (GH.clsA X.mg (Str.ofString c)))) (hd : T.fn f = some d) (hn : ∀ ss o, mkc f ss = some o → ss.length = n)
    (ha : PA X (e :: es) (tAs X.K X.mg W T cal mkc xs)) (hdb : (Str.ofString c == ("__debug__" : Str)) = false) (he : starEach (e :: es) X.env = (false, eval e X.env) :: starEach es X.env) (hpl : (backTo pos (starEach es X.env)).any (·.1) = false) :
    PE X (.Call (.Name (Str.ofString c) p) (e :: es) [] pos) (tE X.K X.mg W T cal mkc (.mk c xs [])) := by
  subst hf
  refine ⟨fun pins s σ H Q I h => ?_⟩
  obtain ⟨G, Z, F0, ρ, A, q⟩ := h
  have e1 : evE T cal mkc (.mk c xs []) ρ = EV.bnd (evEs T cal mkc xs ρ) fun vs ρ1 => mkEnd (mkc (c ++ ".__init__") (.ow (.obj c []) :: vs.map .fz)) ρ1 := by
    simp [evE, hd]
  rw [e1] at q
  refine wpAny_Call_Name_kw (ld_glob I hg hm ?_ hdb)
  refine PySem.W.callWith_K (h₀ := X.base) I.ok.mod.kin M.kp (thn (ha.run pos pins s σ H (fun vs H1 => ∀ x dx, H1 x = none → H1 dx = none → dx ≠ x → spF X.K X.mg mkc n (c ++ ".__init__") (.ref x :: vs) (upd (upd H1 dx (.own x)) x (.ins (GH.clsA X.mg (Str.ofString c)) dx [])) (fun v H2 => v = .non ∧ Q (.ref x) H2) fun c d H' => W c d σ H') I
    ⟨G, Z, F0, ρ, A, q.bnd.imp fun F1 H1 ρ1 vs A1 e1 q1 ys rys x dx hx hdx hne => make_at A1 rys (fun _ _ _ _ c => c) hn hx hdx hne q1⟩) fun us s1 ⟨vs, H1, I1, r, q⟩ => ⟨I1.kIn, ?_⟩) he hpl
  exact run_makeE M F gd hr tk (fun s x hl => hb s (x :: us) hl) I1 r q
end
end EV
namespace EV
open PySem PySem.Spec PyProof.Rows L2
/-- an iterator that gives these values while what is fixed stands -/
structure ItR (K : PySem.W.Frag) (mg : Str → Option Value) (F : Hp) (J : It) (vs : List Val) : Prop where
  goes : ∀ i H, i < vs.length → Ex' F H → J.go i H
  stops : ∀ H, Ex' F H → J.stop vs.length H
  yields : ∀ (i : Nat) F' H x H' v, vs[i]? = some v → Ex' F F' → Ex' F' H → J.yld i H x H' → NewR K mg F' H x H' (.fz v)
section
variable {K : PySem.W.Frag} {mg : Str → Option Value} {F : Hp}
theorem itr_list {a : Addr} {xs : List V} {vs : List Val} (s : F a = some (.lst xs)) (r : Reps K mg F xs vs) : ItR K mg F (Itl K a) vs where
  goes := fun i H hi e => by
    have hl := r.length
    exact ⟨xs, xs[i]'(by omega), .inl (.inl (e _ _ s)), List.getElem?_eq_getElem (by omega)⟩
  stops := fun H e => ⟨xs, .inl (.inl (e _ _ s)), by rw [r.length]; exact Nat.le_refl _⟩
  yields := fun i F' H x H' v hv e1 e2 y => by
    obtain ⟨rfl, y⟩ := y
    have h := y xs (.inl (.inl ((e1.trans e2) _ _ s)))
    obtain ⟨w, h1, h2⟩ := r.get hv
    rw [h] at h1; cases h1
    exact newR (h2.mono e1)
theorem itr_tup {a : Addr} {xs : List V} {vs : List Val} (s : F a = some (.tup xs)) (r : Reps K mg F xs vs) : ItR K mg F (Itt K a) vs where
  goes := fun i H hi e => by
    have hl := r.length
    exact ⟨xs, xs[i]'(by omega), .inl (.inl (e _ _ s)), List.getElem?_eq_getElem (by omega)⟩
  stops := fun H e => ⟨xs, .inl (.inl (e _ _ s)), by rw [r.length]; exact Nat.le_refl _⟩
  yields := fun i F' H x H' v hv e1 e2 y => by
    obtain ⟨rfl, y⟩ := y
    have h := y xs (.inl (.inl ((e1.trans e2) _ _ s)))
    obtain ⟨w, h1, h2⟩ := r.get hv
    rw [h] at h1; cases h1
    exact newR (h2.mono e1)
theorem itr_str (l : List Nat) : ItR K mg F (Its (toS l)) (l.map fun c => Val.str [c]) where
  goes := fun i H hi e => by simpa [Its, toS] using hi
  stops := fun H e => by simp [Its, toS]
  yields := fun i F' H x H' v hv e1 e2 y => by
    obtain ⟨rfl, c, hc, rfl⟩ := y
    rw [List.getElem?_map] at hv
    have : l[i]? = some c := by simpa [toS] using hc
    rw [this] at hv; cases hv
    exact newR (.str [c])
theorem itr_keys {d : Addr} {o : Obj} {ks : List (Key × V)} {kvs : List (Val × Val)} (s : F d = some (.frz o (.dK ks))) (r : RepK K mg F ks kvs) : ItR K mg F (Itk d o ks) (kvs.map (·.1)) where
  goes := fun i H hi e => ⟨e _ _ s, by rw [r.length]; simpa using hi⟩
  stops := fun H e => ⟨e _ _ s, by rw [r.length]; simp⟩
  yields := fun i F' H x H' v hv e1 e2 y => by
    obtain ⟨rfl, k, w, hk, rfl⟩ := y
    obtain ⟨z, h1, h2⟩ := (repK_keys r).get hv
    rw [List.getElem?_map, hk] at h1; cases h1
    exact newR (h2.mono e1)
theorem key_reps (F2 : Hp) : ∀ js : List Key, Reps K mg F2 (js.map kV) (js.map keyV)
  | [] => .nil
  | j :: js => by
    refine .cons ?_ (key_reps F2 js)
    cases j with
    | inl i => exact .int i
    | inr x => exact (show Rep K mg F2 (.str x) (.str x.cps.toList) from (by simpa [toS] using Rep.str (K := K) (mg := mg) (F := F2) x.cps.toList))
theorem repT_key : ∀ {ks : List (List Key × V)} {kvs : List (Val × Val)} {i : Nat} {k : List Key} {x : V}, RepT K mg F ks kvs → ks[i]? = some (k, x) → ∃ v, kvs[i]? = some (.tup (k.map keyV), v) ∧ Rep K mg F x v
  | _, _, _, _, _, .nil, h => by simp at h
  | _, _, 0, _, _, .cons a r, h => by simp at h; obtain ⟨rfl, rfl⟩ := h; exact ⟨_, rfl, a⟩
  | _, _, i + 1, k, x, .cons a r, h => by
    obtain ⟨v, h1, h2⟩ := repT_key (i := i) r (by simpa using h)
    exact ⟨v, by simpa using h1, h2⟩
theorem repK_key : ∀ {ks : List (Key × V)} {kvs : List (Val × Val)} {i : Nat} {k : Key} {x : V}, RepK K mg F ks kvs → ks[i]? = some (k, x) → ∃ v, kvs[i]? = some (keyV k, v) ∧ Rep K mg F x v
  | _, _, _, _, _, .nil, h => by simp at h
  | _, _, 0, _, _, .cons a r, h => by simp at h; obtain ⟨rfl, rfl⟩ := h; exact ⟨_, rfl, a⟩
  | _, _, i + 1, k, x, .cons a r, h => by
    obtain ⟨v, h1, h2⟩ := repK_key (i := i) r (by simpa using h)
    exact ⟨v, by simpa using h1, h2⟩
theorem key_rep (F2 : Hp) (j : Key) : Rep K mg F2 (kV j) (keyV j) := by
  cases key_reps (K := K) (mg := mg) F2 [j] with
  | cons a _ => exact a
/-- a tuple that stands, fixed -/
theorem newTS {F' H : Hp} {q : Addr} {xs : List V} {vs : List Val} (e : Ex' F' H) (h : H q = some (.tup xs)) (r : Reps K mg F' xs vs) : NewR K mg F' H (.ref q) H (.fz (.tup vs)) := by
  cases w : F' q with
  | some o =>
    have z := e q o w
    rw [h] at z; cases z
    exact newR (.tup w r)
  | none =>
    have ex : Ex' F' (upd F' q (.tup xs)) := Ex'.new w
    refine ⟨upd F' q (.tup xs), ⟨ex, fun c o hq => ?_⟩, .inl ⟨rfl, .tup upd_same (r.mono ex)⟩⟩
    by_cases hc : c = q
    · subst hc; rw [upd_same] at hq; cases hq; exact .inr ⟨h, _, rfl⟩
    · rw [upd_ne hc] at hq; exact .inl hq
theorem itr_keysT {d : Addr} {o : Obj} {ks : List (List Key × V)} {kvs : List (Val × Val)} (s : F d = some (.frz o (.dT ks))) (r : RepT K mg F ks kvs) : ItR K mg F (Itkt d o ks) (kvs.map (·.1)) where
  goes := fun i H hi e => ⟨e _ _ s, by rw [r.length]; simpa using hi⟩
  stops := fun H e => ⟨e _ _ s, by rw [r.length]; simp⟩
  yields := fun i F' H x H' v hv e1 e2 y => by
    obtain ⟨rfl, k, w, q, hk, rfl, hq⟩ := y
    obtain ⟨z, h1, h2⟩ := repT_key r hk
    rw [List.getElem?_map, h1] at hv; cases hv
    exact newTS e2 hq (key_reps F' k)
theorem itr_items {d : Addr} {o : Obj} {ks : List (Key × V)} {kvs : List (Val × Val)} (s : F d = some (.frz o (.dK ks))) (r : RepK K mg F ks kvs) : ItR K mg F (Iti d o ks) (kvs.map fun p => .tup [p.1, p.2]) where
  goes := fun i H hi e => ⟨e _ _ s, by rw [r.length]; simpa using hi⟩
  stops := fun H e => ⟨e _ _ s, by rw [r.length]; simp⟩
  yields := fun i F' H x H' v hv e1 e2 y => by
    obtain ⟨t, k, w, hk, rfl, ht, rfl⟩ := y
    obtain ⟨z, h1, h2⟩ := repK_key r hk
    rw [List.getElem?_map, h1] at hv; cases hv
    exact newT ht (.cons (key_rep F' k) (.cons (h2.mono e1) .nil))
theorem rng_get {a b : Int} {i : Nat} {v : Val} (h : (rng a b)[i]? = some v) : v = .int (a + (i : Nat)) := by
  unfold rng at h
  rw [List.getElem?_map] at h
  cases q : (List.range (b - a).toNat)[i]? with
  | none => rw [q] at h; cases h
  | some j =>
    rw [q] at h; cases h
    have := List.getElem?_eq_some_iff.mp q
    obtain ⟨h1, h2⟩ := this
    rw [List.getElem_range] at h2
    rw [h2]
theorem itr_rng (a b : Int) : ItR K mg F (Itr a (b - a).toNat) (rng a b) where
  goes := fun i H hi e => by simpa [Itr, rng] using hi
  stops := fun H e => by show (b - a).toNat ≤ (rng a b).length; simp [rng]
  yields := fun i F' H x H' v hv e1 e2 y => by
    obtain ⟨rfl, rfl⟩ := y
    rw [rng_get hv]
    exact newI _
theorem itr_rngC (a c : Int) (n : Nat) : ItR K mg F (Itc a c n) ((List.range n).map fun k => .int (a + (k : Nat) * c)) where
  goes := fun i H hi e => by simpa [Itc] using hi
  stops := fun H e => by simp [Itc]
  yields := fun i F' H x H' v hv e1 e2 y => by
    obtain ⟨rfl, rfl⟩ := y
    rw [List.getElem?_map] at hv
    cases q : (List.range n)[i]? with
    | none => rw [q] at hv; cases hv
    | some j =>
      rw [q] at hv; cases hv
      obtain ⟨h1, h2⟩ := List.getElem?_eq_some_iff.mp q
      rw [List.getElem_range] at h2
      rw [← h2]
      exact newI _
/-- what enumerate and zip draw from -/
theorem src_of {H : Hp} {x : V} {v : Val} {vs : List Val} (r : Rep K mg F x v) (h : seqOf v = some vs) : ∃ s : GH.Src, x = s.val ∧ (∀ H, Ex' F H → s.At K H) ∧ Reps K mg F s.items vs := by
  cases r with
  | str l =>
    simp only [seqOf] at h; cases h
    refine ⟨.txt (toS l), rfl, fun _ _ => trivial, ?_⟩
    have : (GH.Src.txt (toS l)).items = l.map fun c => V.str ⟨#[c]⟩ := by simp [GH.Src.items, toS]
    rw [this]
    exact reps_sign l
  | @tup a xs ws s r => simp only [seqOf] at h; cases h; exact ⟨.tup a xs, rfl, fun _ e => .inl (.inl (e _ _ s)), r⟩
  | _ => simp only [seqOf] at h; cases h
theorem enumL_get : ∀ (xs : List Val) (n i : Nat), (enumL n xs)[i]? = (xs[i]?).map fun x => .tup [.int ((n + i : Nat) : Int), x]
  | [], _, _ => by simp [enumL]
  | x :: r, n, 0 => by simp [enumL]
  | x :: r, n, i + 1 => by
    simp only [enumL, List.getElem?_cons_succ]
    rw [enumL_get r (n + 1) i]
    congr 1
    funext y
    have : n + 1 + i = n + (i + 1) := by omega
    rw [this]
theorem enumL_len : ∀ (xs : List Val) (n : Nat), (enumL n xs).length = xs.length
  | [], _ => rfl
  | x :: r, n => by simp [enumL, enumL_len r]
theorem itr_enum {s : GH.Src} {vs : List Val} (at_ : ∀ H, Ex' F H → s.At K H) (r : Reps K mg F s.items vs) : ItR K mg F (GH.ItE K s) (enumL 0 vs) where
  goes := fun i H hi e => ⟨at_ H e, by rw [r.length]; rw [enumL_len] at hi; exact hi⟩
  stops := fun H e => ⟨at_ H e, by rw [enumL_len, r.length]⟩
  yields := fun i F' H x H' v hv e1 e2 y => by
    obtain ⟨t, a, b, rfl, ht, rfl, h1, h2⟩ := y
    cases h1
    rw [enumL_get] at hv
    obtain ⟨w, h3, h4⟩ := r.get' h2
    rw [h3] at hv; cases hv
    rw [Nat.zero_add]
    exact newT ht (.cons (.int _) (.cons (h4.mono e1) .nil))
theorem zipL_get : ∀ (xs ys : List Val) (i : Nat), (zipL xs ys)[i]? = match xs[i]?, ys[i]? with
    | some x, some y => some (.tup [x, y])
    | _, _ => none
  | [], ys, i => by simp [zipL]
  | x :: r, [], i => by
    simp only [zipL, List.getElem?_nil]
    cases (x :: r)[i]? <;> rfl
  | x :: r, y :: s, 0 => by simp [zipL]
  | x :: r, y :: s, i + 1 => by simp only [zipL, List.getElem?_cons_succ]; exact zipL_get r s i
theorem zipL_len : ∀ (xs ys : List Val), (zipL xs ys).length = min xs.length ys.length
  | [], ys => by simp [zipL]
  | x :: r, [] => by simp [zipL]
  | x :: r, y :: s => by simp [zipL, zipL_len r s] <;> omega
theorem itr_zip {s t : GH.Src} {vs ws : List Val} (a1 : ∀ H, Ex' F H → s.At K H) (r1 : Reps K mg F s.items vs) (a2 : ∀ H, Ex' F H → t.At K H) (r2 : Reps K mg F t.items ws) : ItR K mg F (GH.ItZ K s t) (zipL vs ws) where
  goes := fun i H hi e => by
    rw [zipL_len] at hi
    have h1 := r1.length
    have h2 := r2.length
    exact ⟨a1 H e, a2 H e, by omega, by omega⟩
  stops := fun H e => ⟨a1 H e, a2 H e, by rw [zipL_len, r1.length, r2.length]⟩
  yields := fun i F' H x H' v hv e1 e2 y => by
    obtain ⟨q, a, b, rfl, ht, rfl, h1, h2⟩ := y
    rw [zipL_get] at hv
    obtain ⟨w, h3, h4⟩ := r1.get' h1
    obtain ⟨z, h5, h6⟩ := r2.get' h2
    rw [h3, h5] at hv; cases hv
    exact newT ht (.cons (h4.mono e1) (.cons (h6.mono e1) .nil))
end
section
variable {X : Cx} {W : WX} {T : Tab} {cal mkc : Cal} {a b c e tg : Expr} {ea eb ec : Ex} {pos p : Pos} {kr : Nat}
def tIt (X : Cx) (W : WX) (T : Tab) (cal mkc : Cal) (it : Iter) : TI := fun σ H R => ∃ G Z F ρ, Abs X.K X.mg G Z F σ H ρ ∧ Aft X.K X.mg W G Z F σ (evIt T cal mkc it ρ) fun F' H' ρ' vs => ∀ J, ItR X.K X.mg F' J vs → R J H'
theorem _root_.L2.PI.imp {iter : Expr} {t t' : TI} (h : PI X tg iter t) (k : ∀ σ H R, t' σ H R → t σ H R) : PI X tg iter t' := ⟨fun pins s σ H R I q => h.run pins s σ H R I (k σ H R q)⟩
theorem ev_itV {it : Iter} {ea : Ex} {g : Val → Option (List Val)} {ρ : Ro} (h : evIt T cal mkc it ρ = EV.bnd (evE T cal mkc ea ρ) fun r ρ1 => EV.bnd (fixv r ρ1) fun v ρ2 => EV.lift (g v) ρ2) : evIt T cal mkc it ρ = EV.bnd (EV.bnd (evE T cal mkc ea ρ) fixv) fun v ρ2 => EV.lift (g v) ρ2 := by
  rw [h, bnd_assoc]
theorem sI_seq (ha : PE X a (tE X.K X.mg W T cal mkc ea)) : PI X tg a (tIt X W T cal mkc (.seq ea)) := by
  have hv := pe_fix ha
  refine ⟨fun pins s σ H R I q => ?_⟩
  obtain ⟨G, Z, F, ρ, A, q⟩ := q
  rw [ev_itV (g := itemsF) rfl] at q
  refine (GH.pi_alt (GH.pi_alt (pi_list hv) (pi_tup hv)) (GH.pi_alt (pi_str hv) (pi_keys hv))).run pins s σ H R I ?_
  cases hm : EV.bnd (evE T cal mkc ea ρ) fixv with
  | none => rw [hm] at q; exact q.elim
  | some o =>
    rw [hm] at q
    cases o with
    | ex e ρ' =>
      refine .inl (.inl ⟨G, Z, F, ρ, A, ?_⟩)
      show Aft _ _ _ _ _ _ _ (EV.bnd (evE T cal mkc ea ρ) fixv) _
      rw [hm]
      exact q
    | ok v ρ' =>
      have q : Aft X.K X.mg W G Z F σ (EV.lift (itemsF v) ρ') _ := q
      obtain ⟨vs, hi, q⟩ := q.lift
      have fin : ∀ (C : V → Hp → Prop), (∀ F' H' x, Abs X.K X.mg G Z F' σ H' ρ' → Ex' F F' → Rep X.K X.mg F' x v → C x H') → tV X.K X.mg W T cal mkc ea σ H C := fun C h => by
        refine ⟨G, Z, F, ρ, A, ?_⟩
        show Aft _ _ _ _ _ _ _ (EV.bnd (evE T cal mkc ea ρ) fixv) _
        rw [hm]
        exact fun F' H' A' e' x rx => h F' H' x A' e' rx
      cases v with
      | lst ws =>
        simp only [itemsF] at hi; cases hi
        refine .inl (.inl (fin _ fun F' H' x A' e' rx => ?_))
        cases rx with
        | lst s1 r1 => exact ⟨_, rfl, ⟨_, .inl (.inl (A'.sub _ _ s1))⟩, (Aft.up q e') F' H' A' (Ex'.refl F') _ (itr_list s1 r1)⟩
      | tup ws =>
        simp only [itemsF] at hi; cases hi
        refine .inl (.inr (fin _ fun F' H' x A' e' rx => ?_))
        cases rx with
        | tup s1 r1 => exact ⟨_, rfl, ⟨_, .inl (.inl (A'.sub _ _ s1))⟩, (Aft.up q e') F' H' A' (Ex'.refl F') _ (itr_tup s1 r1)⟩
      | str l =>
        simp only [itemsF] at hi; cases hi
        refine .inr (.inl (fin _ fun F' H' x A' e' rx => ?_))
        cases rx
        exact ⟨toS l, rfl, (Aft.up q e') F' H' A' (Ex'.refl F') _ (itr_str l)⟩
      | dct kvs =>
        simp only [itemsF] at hi; cases hi
        refine .inr (.inr (fin _ fun F' H' x A' e' rx => ?_))
        cases rx with
        | dk s1 r1 => exact ⟨_, _, rfl, .inl ⟨_, A'.sub _ _ s1, (Aft.up q e') F' H' A' (Ex'.refl F') _ (itr_keys s1 r1)⟩⟩
        | dt s1 r1 => exact ⟨_, _, rfl, .inr ⟨_, A'.sub _ _ s1, (Aft.up q e') F' H' A' (Ex'.refl F') _ (itr_keysT s1 r1)⟩⟩
      | _ => simp only [itemsF] at hi; cases hi
theorem sI_enum {elts : List Expr} {kk : Nat} {tpos : Pos} (hg : Gl X "enumerate") (hm : X.mg "enumerate" = none) (ha : PE X a (tE X.K X.mg W T cal mkc ea)) (hs : starEach [a] X.env = (false, eval a X.env) :: starEach [] X.env) : PI X (.Tuple elts kk tpos) (.Call (.Name "enumerate" p) [a] [] pos) (tIt X W T cal mkc (.enum ea)) := by
  refine (GH.pi_enumG hg hm (pa_cons (pe_fix ha) pa_nil hs) (by rw [hs]; rfl)).imp fun σ H R q => ?_
  obtain ⟨G, Z, F, ρ, A, q⟩ := q
  rw [ev_itV (g := fun v => (seqOf v).map (enumL 0)) rfl] at q
  refine ⟨G, Z, F, ρ, A, q.bnd.imp fun F1 H1 ρ1 v A1 e1 q1 x rx => ?_⟩
  obtain ⟨vs, hi, q2⟩ := q1.lift
  obtain ⟨ws, hw, rfl⟩ := Option.map_eq_some_iff.mp hi
  obtain ⟨s, rfl, at_, r⟩ := src_of (H := H1) rx hw
  exact ⟨s, rfl, at_ H1 A1.sub, q2 F1 H1 A1 (Ex'.refl F1) _ (itr_enum at_ r)⟩
theorem sI_zip {elts : List Expr} {kk : Nat} {tpos : Pos} (hg : Gl X "zip") (hm : X.mg "zip" = none) (ha : PE X a (tE X.K X.mg W T cal mkc ea)) (hb : PE X b (tE X.K X.mg W T cal mkc eb)) (hs : starEach [a, b] X.env = (false, eval a X.env) :: starEach [b] X.env) (hs2 : starEach [b] X.env = (false, eval b X.env) :: starEach [] X.env) (hpl : (backTo pos (starEach [b] X.env)).any (·.1) = false) :
    PI X (.Tuple elts kk tpos) (.Call (.Name "zip" p) [a, b] [] pos) (tIt X W T cal mkc (.zip ea eb)) := by
  refine (GH.pi_zipG hg hm (pa_cons (pe_fix ha) (pa_cons (pe_fix hb) pa_nil hs2) hs) hs hpl).imp fun σ H R q => ?_
  obtain ⟨G, Z, F, ρ, A, q⟩ := q
  have e1 : evIt T cal mkc (.zip ea eb) ρ = EV.bnd (EV.bnd (evE T cal mkc ea ρ) fixv) fun u ρ2 => EV.bnd (EV.bnd (evE T cal mkc eb ρ2) fixv) fun w ρ4 => EV.lift ((seqOf u).bind fun xs => (seqOf w).map (zipL xs)) ρ4 := by
    rw [bnd_assoc]
    have : ∀ u ρ2, (EV.bnd (EV.bnd (evE T cal mkc eb ρ2) fixv) fun w ρ4 => EV.lift ((seqOf u).bind fun xs => (seqOf w).map (zipL xs)) ρ4) = EV.bnd (evE T cal mkc eb ρ2) fun q ρ3 => EV.bnd (fixv q ρ3) fun w ρ4 => EV.lift ((seqOf u).bind fun xs => (seqOf w).map (zipL xs)) ρ4 := fun u ρ2 => bnd_assoc _ _ _
    simp only [this]
    rfl
  rw [e1] at q
  refine ⟨G, Z, F, ρ, A, q.bnd.imp fun F1 H1 ρ1 v A1 e1 q1 x rx => ⟨G, Z, F1, ρ1, A1, q1.bnd.imp fun F2 H2 ρ2 w A2 e2 q2 y ry => ?_⟩⟩
  obtain ⟨vs, hi, q3⟩ := q2.lift
  obtain ⟨us, hu, hi⟩ := Option.bind_eq_some_iff.mp hi
  obtain ⟨ws, hw, rfl⟩ := Option.map_eq_some_iff.mp hi
  obtain ⟨s, rfl, at1, r1⟩ := src_of (H := H2) (rx.mono e2) hu
  obtain ⟨t, rfl, at2, r2⟩ := src_of (H := H2) ry hw
  exact ⟨s, t, rfl, at1 H2 A2.sub, at2 H2 A2.sub, q3 F2 H2 A2 (Ex'.refl F2) _ (itr_zip at1 r1 at2 r2)⟩
theorem rngN (a b c : Int) (h5 : 1 ≤ c) : Builtin.Range.rangeSize a b c = (((b - a + c - 1) / c).toNat : Int) := by
  unfold Builtin.Range.rangeSize
  rw [if_pos (by omega)]
  split
  · have e : b - a + c - 1 = (b - a - 1) + c := by omega
    rw [e, Int.add_ediv_of_dvd_right (Int.dvd_refl c), Int.ediv_self (by omega)]
    have : 0 ≤ (b - a - 1) / c := Int.ediv_nonneg (by omega) (by omega)
    omega
  · have : (b - a + c - 1) / c ≤ 0 := by
      have := Int.ediv_lt_of_lt_mul (a := b - a + c - 1) (b := 1) (c := c) (by omega) (by omega)
      omega
    omega
theorem rngSize {a b c : Int} (h : 0 ≤ a ∧ a ≤ 1000 ∧ 0 ≤ b ∧ b ≤ 1000 ∧ 1 ≤ c ∧ c ≤ 1000) : RgC a b c ((b - a + c - 1) / c).toNat := by
  obtain ⟨h1, h2, h3, h4, h5, h6⟩ := h
  refine ⟨by omega, by omega, ?_, rngN a b c h5⟩
  unfold Builtin.Range.small
  rw [rngN a b c h5]
  have hn : ((b - a + c - 1) / c).toNat ≤ 2000 := by
    have : (b - a + c - 1) / c ≤ 2000 := by
      by_cases hz : 0 ≤ b - a + c - 1
      · have := Int.ediv_le_self c hz; omega
      · have := Int.ediv_lt_of_lt_mul (a := b - a + c - 1) (b := 1) (c := c) (by omega) (by omega)
        omega
    omega
  have hm : 0 ≤ (((b - a + c - 1) / c).toNat : Int) := by omega
  simp only [Builtin.Range.rangeFitsLong, Bool.and_eq_true, Bool.or_eq_true, decide_eq_true_eq, beq_iff_eq]
  refine ⟨by omega, .inr ?_⟩
  rw [if_pos (by omega)]
  simp only [Bool.and_eq_true, decide_eq_true_eq]
  omega
theorem sI_rng (hg : Gl X "range") (hm : X.mg "range" = none) (ha : PE X a (tE X.K X.mg W T cal mkc ea)) (hs : starEach [a] X.env = (false, eval a X.env) :: starEach [] X.env) : PI X tg (.Call (.Name "range" p) [a] [] pos) (tIt X W T cal mkc (.rng ea)) := by
  refine (pi_range1 hg hm (pa_cons (pe_fix ha) pa_nil hs) (by rw [hs]; rfl)).imp fun σ H R q => ?_
  obtain ⟨G, Z, F, ρ, A, q⟩ := q
  rw [ev_itV (g := fun v => rngF [v]) rfl] at q
  refine ⟨G, Z, F, ρ, A, q.bnd.imp fun F1 H1 ρ1 v A1 e1 q1 x rx => ?_⟩
  obtain ⟨ws, hi, q2⟩ := q1.lift
  cases rx with
  | int n =>
    simp only [rngF] at hi
    split at hi
    · rename_i hz
      cases hi
      unfold cap at hz
      refine ⟨n, rfl, by omega, by omega, ?_⟩
      have z := q2 F1 H1 A1 (Ex'.refl F1) _ (itr_rng 0 n)
      rw [show n - 0 = n by omega] at z
      exact z
    · cases hi
  | _ => simp only [rngF] at hi; cases hi
theorem sI_rng2 (hg : Gl X "range") (hm : X.mg "range" = none) (ha : PE X a (tE X.K X.mg W T cal mkc ea)) (hb : PE X b (tE X.K X.mg W T cal mkc eb)) (hs : starEach [a, b] X.env = (false, eval a X.env) :: starEach [b] X.env) (hs2 : starEach [b] X.env = (false, eval b X.env) :: starEach [] X.env) : PI X tg (.Call (.Name "range" p) [a, b] [] pos) (tIt X W T cal mkc (.rng2 ea eb)) := by
  refine (pi_range2 hg hm (pa_cons (pe_fix ha) (pa_cons (pe_fix hb) pa_nil hs2) hs) (by rw [hs, hs2]; rfl) (by rw [hs2]; rfl)).imp fun σ H R q => ?_
  obtain ⟨G, Z, F, ρ, A, q⟩ := q
  have e1 : evIt T cal mkc (.rng2 ea eb) ρ = EV.bnd (EV.bnd (evE T cal mkc ea ρ) fixv) fun u ρ2 => EV.bnd (EV.bnd (evE T cal mkc eb ρ2) fixv) fun w ρ4 => EV.lift (rngF [u, w]) ρ4 := by
    rw [bnd_assoc]
    have : ∀ u ρ2, (EV.bnd (EV.bnd (evE T cal mkc eb ρ2) fixv) fun w ρ4 => EV.lift (rngF [u, w]) ρ4) = EV.bnd (evE T cal mkc eb ρ2) fun q ρ3 => EV.bnd (fixv q ρ3) fun w ρ4 => EV.lift (rngF [u, w]) ρ4 := fun u ρ2 => bnd_assoc _ _ _
    simp only [this]
    rfl
  rw [e1] at q
  refine ⟨G, Z, F, ρ, A, q.bnd.imp fun F1 H1 ρ1 v A1 e1 q1 x rx => ⟨G, Z, F1, ρ1, A1, q1.bnd.imp fun F2 H2 ρ2 w A2 e2 q2 y ry => ?_⟩⟩
  obtain ⟨vs, hi, q3⟩ := q2.lift
  cases rx with
  | int i =>
    cases ry with
    | int j =>
      simp only [rngF] at hi
      split at hi
      · rename_i hz
        cases hi
        unfold cap at hz
        exact ⟨i, j, rfl, ⟨by omega, by omega, by omega, by omega⟩, q3 F2 H2 A2 (Ex'.refl F2) _ (itr_rng i j)⟩
      · cases hi
    | _ => simp only [rngF] at hi; cases hi
  | _ => simp only [rngF] at hi; cases hi
theorem sI_rng3 (hg : Gl X "range") (hm : X.mg "range" = none) (ha : PE X a (tE X.K X.mg W T cal mkc ea)) (hb : PE X b (tE X.K X.mg W T cal mkc eb)) (hc : PE X c (tE X.K X.mg W T cal mkc ec))
    (hs : starEach [a, b, c] X.env = (false, eval a X.env) :: starEach [b, c] X.env) (hs2 : starEach [b, c] X.env = (false, eval b X.env) :: starEach [c] X.env) (hs3 : starEach [c] X.env = (false, eval c X.env) :: starEach [] X.env) : PI X tg (.Call (.Name "range" p) [a, b, c] [] pos) (tIt X W T cal mkc (.rng3 ea eb ec)) := by
  refine (pi_range3 hg hm (pa_cons (pe_fix ha) (pa_cons (pe_fix hb) (pa_cons (pe_fix hc) pa_nil hs3) hs2) hs) hs (by rw [hs2, hs3]; rfl)).imp fun σ H R q => ?_
  obtain ⟨G, Z, F, ρ, A, q⟩ := q
  have e1 : evIt T cal mkc (.rng3 ea eb ec) ρ = EV.bnd (EV.bnd (evE T cal mkc ea ρ) fixv) fun u ρ2 => EV.bnd (EV.bnd (evE T cal mkc eb ρ2) fixv) fun w ρ4 => EV.bnd (EV.bnd (evE T cal mkc ec ρ4) fixv) fun z ρ6 => EV.lift (rngF [u, w, z]) ρ6 := by
    simp only [bnd_assoc]
    rfl
  rw [e1] at q
  refine ⟨G, Z, F, ρ, A, q.bnd.imp fun F1 H1 ρ1 v A1 e1 q1 x rx => ⟨G, Z, F1, ρ1, A1, q1.bnd.imp fun F2 H2 ρ2 w A2 e2 q2 y ry => ⟨G, Z, F2, ρ2, A2, q2.bnd.imp fun F3 H3 ρ3 u A3 e3 q3 z rz => ?_⟩⟩⟩
  obtain ⟨vs, hi, q4⟩ := q3.lift
  cases rx with
  | int i =>
    cases ry with
    | int j =>
      cases rz with
      | int k =>
        simp only [rngF] at hi
        split at hi
        · rename_i hz
          cases hi
          exact ⟨i, j, k, _, rfl, rngSize hz, q4 F3 H3 A3 (Ex'.refl F3) _ (itr_rngC i k _)⟩
        · cases hi
      | _ => simp only [rngF] at hi; cases hi
    | _ => simp only [rngF] at hi; cases hi
  | _ => simp only [rngF] at hi; cases hi
theorem sI_items {elts : List Expr} {kk : Nat} {tpos apos : Pos} (ha : PE X a (tE X.K X.mg W T cal mkc ea)) (hb : attributeBase a "items" X.env (eval a X.env) = eval a X.env) (hl : (apos.endLine == pos.line) = true) : PI X (.Tuple elts kk tpos) (.Call (.Attribute a "items" apos) [] [] pos) (tIt X W T cal mkc (.items ea)) := by
  refine (pi_items (pe_fix ha) hb hl).imp fun σ H R q => ?_
  obtain ⟨G, Z, F, ρ, A, q⟩ := q
  have e1 : evIt T cal mkc (.items ea) ρ = EV.bnd (EV.bnd (evE T cal mkc ea ρ) fixv) fun v ρ2 => EV.lift (itmF v) ρ2 := by
    rw [bnd_assoc]; rfl
  rw [e1] at q
  refine ⟨G, Z, F, ρ, A, q.bnd.imp fun F1 H1 ρ1 v A1 e1 q1 x rx => ?_⟩
  obtain ⟨vs, hi, q2⟩ := q1.lift
  cases rx with
  | dk s1 r1 =>
    simp only [itmF] at hi
    split at hi
    · cases hi
      exact ⟨_, _, _, rfl, A1.sub _ _ s1, q2 F1 H1 A1 (Ex'.refl F1) _ (itr_items s1 r1)⟩
    · cases hi
  | @dt _ _ ks kvs s1 r1 =>
    simp only [itmF] at hi
    split at hi
    · rename_i hc
      cases r1 with
      | nil => simp at hc
      | cons a r => simp [keyOk] at hc
    · cases hi
  | _ => simp only [itmF] at hi; cases hi
end
end EV
namespace EV
open PySem PySem.Spec PyProof.Rows L2
section
variable {K : PySem.W.Frag} {mg : Str → Option Value} {G Z F : Hp} {σ : L2.St} {H : Hp} {ρ : Ro}
theorem set_get {α : Type} {l : List α} {i : Nat} {x : α} (hi : i < l.length) (j : Nat) : (l.set i x)[j]? = if j = i then some x else l[j]? := by
  by_cases hj : j = i
  · subst hj; rw [List.getElem?_set_self hi, if_pos rfl]
  · rw [List.getElem?_set_ne (Ne.symm hj), if_neg hj]
/-- a place takes a value -/
theorem Abs.set {i : Nat} {x : V} {r : Slot} (A : Abs K mg G Z F σ H ρ) (rx : ResR K mg G F σ H ρ x r) (hi : i < ρ.length) : Abs K mg G Z F (σ.set i (some x)) H (ρ.set i r) := by
  have his : i < σ.length := by rw [← A.len]; exact hi
  refine ⟨A.sub, A.bg, A.f0, A.nw, by rw [List.length_set, List.length_set]; exact A.len, fun j v q => ?_, fun j v q => ?_, fun j k a v w hjk q q' s s' => ?_⟩
  · rw [set_get hi] at q; rw [set_get his]
    by_cases hj : j = i
    · rw [if_pos hj] at q ⊢; cases q
      exact ⟨x, rfl, rx⟩
    · rw [if_neg hj] at q ⊢; exact A.fz j v q
  · rw [set_get hi] at q; rw [set_get his]
    by_cases hj : j = i
    · rw [if_pos hj] at q ⊢; cases q
      obtain ⟨a, e, g, o, _⟩ := rx
      exact ⟨a, by rw [e], g, o⟩
    · rw [if_neg hj] at q ⊢; exact A.ow j v q
  · rw [set_get hi] at q q'; rw [set_get his] at s s'
    by_cases hj : j = i
    · have hk : k ≠ i := fun z => hjk (hj.trans z.symm)
      rw [if_pos hj] at q s; rw [if_neg hk] at q' s'
      cases q
      obtain ⟨b, e, g, o, l⟩ := rx
      rw [e] at s; cases s
      exact l k w q' s'
    · rw [if_neg hj] at q s
      by_cases hk : k = i
      · rw [if_pos hk] at q' s'
        cases q'
        obtain ⟨b, e, g, o, l⟩ := rx
        rw [e] at s'; cases s'
        exact l j v q s
      · rw [if_neg hk] at q' s'
        exact A.ap j k a v w hjk q q' s s'
end
/-! ### targets -/
mutual
def tgn : Tg → List Nat
  | .nm i => [i]
  | .tp ts => tgns ts
def tgns : List Tg → List Nat
  | [] => []
  | t :: r => tgn t ++ tgns r
end
section
variable (K : PySem.W.Frag) (mg : Str → Option Value)
def gT (t : Tg) : TG := fun v σ H Q => ∃ G Z F ρ r ρ', Abs K mg G Z F σ H ρ ∧ ResR K mg G F σ H ρ v r ∧ assn t r ρ = some ρ' ∧ ∀ σ', Abs K mg G Z F σ' H ρ' → (∀ i : Nat, i ∉ tgn t → σ'[i]? = σ[i]?) → Q σ' H
def gTs (ts : List Tg) : TGs := fun vs σ H Q => ∃ G Z F ρ ws ρ', Abs K mg G Z F σ H ρ ∧ Reps K mg F vs ws ∧ vs.length = ts.length ∧ assns ts ws ρ = some ρ' ∧ ∀ σ', Abs K mg G Z F σ' H ρ' → (∀ i : Nat, i ∉ tgns ts → σ'[i]? = σ[i]?) → Q σ' H
end
section
variable {pr : List Nat} {X : Cx} {W : WX} {T : Tab} {cal mkc : Cal} {a b c e tg : Expr} {ea eb ec : Ex} {pos p : Pos} {kr : Nat}
theorem _root_.L2.PG.imp {t t' : TG} (h : PG X tg t) (k : ∀ v σ H Q, t' v σ H Q → t v σ H Q) : PG X tg t' := ⟨fun pins s σ H v u Q I r q => h.run pins s σ H v u Q I r (k v σ H Q q)⟩
theorem _root_.L2.PGs.imp {es : List Expr} {t t' : TGs} (h : PGs X es t) (k : ∀ v σ H Q, t' v σ H Q → t v σ H Q) : PGs X es t' := ⟨fun pins s σ H v u Q I r q => h.run pins s σ H v u Q I r (k v σ H Q q)⟩
theorem _root_.L2.PSs.imp {st : List Stmt} {t t' : TS} (h : PSs X st t) (k : ∀ D σ H, t' D σ H → t D σ H) : PSs X st t' := ⟨fun pins s σ H D I q => h.run pins s σ H D I (k D σ H q)⟩
theorem nm_red {i : Nat} {v : V} {σ : L2.St} {H : Hp} {Q : L2.St → Hp → Prop} (h : gT X.K X.mg (.nm i) v σ H Q) : gName i v σ H Q := by
  obtain ⟨G, Z, F, ρ, r, ρ', A, rx, e, q⟩ := h
  simp only [assn] at e
  split at e
  · rename_i hi
    cases e
    refine q _ (A.set rx hi) fun j hj => ?_
    rw [List.getElem?_set_ne]
    intro z; subst z
    exact hj (by simp [tgn])
  · cases e
theorem sG_name {i : Nat} {x : Str} (hN : X.N.Nodup) (hi : X.N[i]? = some x) (hx : Loc X.env.scope x) (hf : X.fn x = true ∨ X.env.scope.names.lookup x = some .local := by first | exact .inl rfl | exact .inr rfl | assumption) : PG X (.Name x pos) (gT X.K X.mg (.nm i)) :=
  (pg_name hN hi hx hf).imp fun _ _ _ _ q => nm_red q
theorem sGs_nil : PGs X [] (gTs X.K X.mg []) := by
  refine pgs_nil.imp fun v σ H Q q => ?_
  obtain ⟨G, Z, F, ρ, ws, ρ', A, rv, hl, e, q⟩ := q
  simp only [assns] at e; cases e
  exact ⟨List.length_eq_zero_iff.mp hl, q σ A fun _ _ => rfl⟩
theorem sGs_cons {es : List Expr} {t : Tg} {ts : List Tg} (h1 : PG X e (gT X.K X.mg t)) (h2 : PGs X es (gTs X.K X.mg ts)) (hs : (assignEach (e :: es) X.env).map (·.2) = assign e X.env :: (assignEach es X.env).map (·.2) := by rfl) : PGs X (e :: es) (gTs X.K X.mg (t :: ts)) := by
  refine (pgs_cons h1 h2 hs).imp fun vs σ H Q q => ?_
  obtain ⟨G, Z, F, ρ, ws, ρ', A, rv, hl, e, q⟩ := q
  cases rv with
  | nil => simp at hl
  | @cons x xs v ws r rs =>
    simp only [assns] at e
    obtain ⟨ρ1, e1, e2⟩ := Option.bind_eq_some_iff.mp e
    refine ⟨x, xs, rfl, G, Z, F, ρ, .fz v, ρ1, A, r, e1, fun σ1 A1 k1 => ⟨G, Z, F, ρ1, ws, ρ', A1, rs, by simpa using hl, e2, fun σ2 A2 k2 => q σ2 A2 fun i hi => ?_⟩⟩
    have hi : i ∉ tgn t ∧ i ∉ tgns ts := by simpa [tgns] using hi
    rw [k2 i hi.2, k1 i hi.1]
theorem sG_tup {es : List Expr} {k : Nat} {ts : List Tg} (hc : X.calm = true) (h : PGs X es (gTs X.K X.mg ts)) (hn : (assignEach es X.env).length = ts.length := by rfl) (hst : (assignEach es X.env).findIdx? (·.1) = none := by rfl) : PG X (.Tuple es k pos) (gT X.K X.mg (.tp ts)) := by
  refine (pg_tup hc h hn hst).imp fun v σ H Q q => ?_
  obtain ⟨G, Z, F, ρ, r, ρ', A, rx, e, q⟩ := q
  simp only [assn] at e
  split at e
  · rename_i vs
    split at e
    · rename_i hl
      have rx : Rep X.K X.mg F v (.tup vs) := rx
      cases rx with
      | @tup ad xs _ s1 r1 =>
        exact ⟨ad, xs, rfl, .inl (.inl (A.sub _ _ s1)), by rw [r1.length]; exact hl, G, Z, F, ρ, vs, ρ', A, r1, by rw [r1.length]; exact hl, e, q⟩
    · cases e
  · cases e
/-! ### how a statement ends -/
/-- the places of pr hold what they held -/
def Kp (pr : List Nat) (σ σ' : L2.St) : Prop := ∀ i ∈ pr, σ'[i]? = σ[i]?
theorem Kp.refl (pr : List Nat) (σ : L2.St) : Kp pr σ σ := fun _ _ => rfl
theorem Kp.trans {pr : List Nat} {σ σ' σ2 : L2.St} (h : Kp pr σ σ') (k : Kp pr σ' σ2) : Kp pr σ σ2 := fun i hi => (k i hi).trans (h i hi)
theorem kp_tg {pr : List Nat} {t : Tg} {σ σ' : L2.St} (hp : ∀ j ∈ tgn t, j ∉ pr) (k : ∀ i : Nat, i ∉ tgn t → σ'[i]? = σ[i]?) : Kp pr σ σ' := fun i hi => k i fun z => hp i z hi
theorem kp_set {pr : List Nat} {i : Nat} {σ : L2.St} {x : Option V} (hp : i ∉ pr) : Kp pr σ (σ.set i x) := fun j hj => by
  rw [List.getElem?_set_ne]
  intro z; subst z; exact hp hj
def AftS (X : Cx) (W : WX) (pr : List Nat) (σ : L2.St) (G Z F : Hp) (m : Res Fl) (D : Ends) : Prop := match m with
  | some (.ok .nx ρ') => ∀ F' σ' H', Abs X.K X.mg G Z F' σ' H' ρ' → Ex' F F' → Kp pr σ σ' → D.nx σ' H'
  | some (.ok (.rt r) ρ') => ∀ F' σ' H' x, Abs X.K X.mg G Z F' σ' H' ρ' → Ex' F F' → Kp pr σ σ' → ResR X.K X.mg G F' σ' H' ρ' x r → D.rt x H'
  | some (.ex e ρ') => ∀ F' σ' H' d, Abs X.K X.mg G Z F' σ' H' ρ' → Ex' F F' → Kp pr σ σ' → ExR X.K X.mg F' d e → W (.ref (GH.clsA X.mg (Str.ofString e.c))) d σ' H'
  | none => False
def tS (X : Cx) (W : WX) (T : Tab) (cal mkc : Cal) (pr : List Nat) (s : Sx) : TS := fun D σ H => ∃ G Z F ρ, Abs X.K X.mg G Z F σ H ρ ∧ AftS X W pr σ G Z F (evS T cal mkc s ρ) D
def tSs (X : Cx) (W : WX) (T : Tab) (cal mkc : Cal) (pr : List Nat) (ss : List Sx) : TS := fun D σ H => ∃ G Z F ρ, Abs X.K X.mg G Z F σ H ρ ∧ AftS X W pr σ G Z F (evSs T cal mkc ss ρ) D
theorem AftS.up {σ : L2.St} {G Z F F1 : Hp} {m : Res Fl} {D : Ends} (h : AftS X W pr σ G Z F m D) (e : Ex' F F1) : AftS X W pr σ G Z F1 m D := by
  unfold AftS at h ⊢
  split at h
  · exact fun F' σ' H' A q => h F' σ' H' A (e.trans q)
  · exact fun F' σ' H' x A q r => h F' σ' H' x A (e.trans q) r
  · exact fun F' σ' H' d A q r => h F' σ' H' d A (e.trans q) r
  · exact h
theorem AftS.mv {σ σ1 : L2.St} {G Z F : Hp} {m : Res Fl} {D : Ends} (h : AftS X W pr σ G Z F m D) (k : Kp pr σ σ1) : AftS X W pr σ1 G Z F m D := by
  unfold AftS at h ⊢
  split at h
  · exact fun F' σ' H' A q k' => h F' σ' H' A q (k.trans k')
  · exact fun F' σ' H' x A q k' r => h F' σ' H' x A q (k.trans k') r
  · exact fun F' σ' H' d A q k' r => h F' σ' H' d A q (k.trans k') r
  · exact h
theorem AftS.bnd {α : Type} {σ : L2.St} {G Z F : Hp} {m : Res α} {k : α → Ro → Res Fl} {D : Ends} (h : AftS X W pr σ G Z F (EV.bnd m k) D) : Aft X.K X.mg W G Z F σ m fun F' _ ρ' a => AftS X W pr σ G Z F' (k a ρ') D := by
  match m, h with
  | some (.ok a ρ'), h =>
    intro F' H' A q
    have h : AftS X W pr σ G Z F (k a ρ') D := h
    exact h.up q
  | some (.ex e ρ'), h => exact fun F' H' d A q r => h F' σ H' d A q (Kp.refl pr σ) r
  | none, h => exact h
theorem AftS.nxK {G Z F : Hp} {σ σ' : L2.St} {H : Hp} {ρ : Ro} {D : Ends} (h : AftS X W pr σ G Z F (EV.pur .nx ρ) D) (A : Abs X.K X.mg G Z F σ' H ρ) (k : Kp pr σ σ') : D.nx σ' H := h F σ' H A (Ex'.refl F) k
theorem AftS.nx {G Z F : Hp} {σ : L2.St} {H : Hp} {ρ : Ro} {D : Ends} (h : AftS X W pr σ G Z F (EV.pur .nx ρ) D) (A : Abs X.K X.mg G Z F σ H ρ) : D.nx σ H := h.nxK A (Kp.refl pr σ)
theorem AftS.rt {G Z F : Hp} {σ : L2.St} {H : Hp} {ρ : Ro} {D : Ends} {r : Slot} {x : V} (h : AftS X W pr σ G Z F (EV.pur (.rt r) ρ) D) (A : Abs X.K X.mg G Z F σ H ρ) (rx : ResR X.K X.mg G F σ H ρ x r) : D.rt x H := h F σ H x A (Ex'.refl F) (Kp.refl pr σ) rx
/-! ### statements -/
theorem sSs_nil : PSs X [] (tSs X W T cal mkc pr []) := by
  refine pss_nil.imp fun D σ H q => ?_
  obtain ⟨G, Z, F, ρ, A, q⟩ := q
  exact AftS.nx q A
theorem sSs_cons {st : Stmt} {sts : List Stmt} {s : Sx} {ss : List Sx} (h1 : PS X st (tS X W T cal mkc pr s)) (h2 : PSs X sts (tSs X W T cal mkc pr ss)) : PSs X (st :: sts) (tSs X W T cal mkc pr (s :: ss)) := by
  refine (pss_cons h1 h2).imp fun D σ H q => ?_
  obtain ⟨G, Z, F, ρ, A, q⟩ := q
  refine ⟨G, Z, F, ρ, A, ?_⟩
  have q : AftS X W pr σ G Z F (EV.bnd (evS T cal mkc s ρ) fun f ρ1 => match f with
      | .nx => evSs T cal mkc ss ρ1
      | .rt q => EV.pur (.rt q) ρ1) D := q
  cases hm : evS T cal mkc s ρ with
  | none => rw [hm] at q; exact q.elim
  | some o =>
    rw [hm] at q
    cases o with
    | ex e ρ' => exact q
    | ok f ρ' =>
      cases f with
      | nx => exact fun F' σ' H' A' e' k' => ⟨G, Z, F', ρ', A', (AftS.up q e').mv k'⟩
      | rt r => exact q
theorem sS_pass : PS X (.Pass pos) (tS X W T cal mkc pr .pass) := ps_pass.imp fun D σ H ⟨G, Z, F, ρ, A, q⟩ => AftS.nx q A
theorem sS_doc {x : Str} {j : Nat} : PS X (.Expr (.Constant (.str x) j p) pos) (tS X W T cal mkc pr .pass) := ps_doc.imp fun D σ H ⟨G, Z, F, ρ, A, q⟩ => AftS.nx q A
theorem asgN_red {i : Nat} {te : TE} {D : Ends} {σ : L2.St} {H : Hp} (hp : i ∉ pr) (h : ∀ Q, tE X.K X.mg W T cal mkc ea σ H Q → te σ H Q) (q : tS X W T cal mkc pr (.asg (.nm i) ea) D σ H) : tAsg te (gName i) D σ H := by
  obtain ⟨G, Z, F, ρ, A, q⟩ := q
  refine h _ ⟨G, Z, F, ρ, A, (AftS.bnd q).imp fun F' H' ρ' r A' e' q' x rx => ?_⟩
  have q' : AftS X W pr σ G Z F' (match assn (.nm i) r ρ' with
    | some ρ2 => EV.pur .nx ρ2
    | none => none) D := q'
  refine nm_red (X := X) ?_
  cases hm : assn (.nm i) r ρ' with
  | none => rw [hm] at q'; exact q'.elim
  | some ρ2 =>
    rw [hm] at q'
    exact ⟨G, Z, F', ρ', r, ρ2, A', rx, hm, fun σ' A2 k2 => AftS.nxK q' A2 (kp_tg (t := .nm i) (by simpa [tgn] using hp) k2)⟩
theorem sS_set {i : Nat} {x : Str} (hp : i ∉ pr) (hN : X.N.Nodup) (hi : X.N[i]? = some x) (hx : Loc X.env.scope x) (he : PE X e (tE X.K X.mg W T cal mkc ea)) (hs : swapsWith e (some (.Name x p)) pos.line X.env = pure false := by rfl) (hf : X.fn x = true ∨ X.env.scope.names.lookup x = some .local := by first | exact .inl rfl | exact .inr rfl | assumption) :
    PS X (.Assign [.Name x p] e pos) (tS X W T cal mkc pr (.asg (.nm i) ea)) :=
  (ps_set hN hi hx he hs hf).imp fun D σ H q => asgN_red hp (fun _ z => z) q
theorem sS_asgT {ts : List Tg} (hp : ∀ j ∈ tgn (.tp ts), j ∉ pr) (he : PE X e (tE X.K X.mg W T cal mkc ea)) (hg : PG X tg (gT X.K X.mg (.tp ts))) (hs : swapsWithSole [tg] e pos.line X.env = pure false := by rfl) (hw : swappedStores [tg] e X.env = pure none := by rfl) (h1 : (assignEach [tg] X.env).map (·.2) = [assign tg X.env] := by rfl) :
    PS X (.Assign [tg] e pos) (tS X W T cal mkc pr (.asg (.tp ts) ea)) := by
  refine (ps_asg (pe_fix he) hg hs hw h1).imp fun D σ H q => ?_
  obtain ⟨G, Z, F, ρ, A, q⟩ := q
  have e1 : evS T cal mkc (.asg (.tp ts) ea) ρ = EV.bnd (EV.bnd (evE T cal mkc ea ρ) fixv) fun v ρ2 => match assn (.tp ts) (.fz v) ρ2 with
    | some ρ3 => EV.pur .nx ρ3
    | none => none := by rw [bnd_assoc]; rfl
  rw [e1] at q
  refine ⟨G, Z, F, ρ, A, (AftS.bnd q).imp fun F' H' ρ' v A' e' q' x rx => ?_⟩
  cases hm : assn (.tp ts) (.fz v) ρ' with
  | none => rw [hm] at q'; exact q'.elim
  | some ρ2 =>
    rw [hm] at q'
    exact ⟨G, Z, F', ρ', .fz v, ρ2, A', rx, hm, fun σ' A2 k2 => AftS.nxK q' A2 (kp_tg hp k2)⟩
theorem sS_expr (he : PE X e (tE X.K X.mg W T cal mkc ea)) (hs : swapsWith e none pos.line X.env = pure false := by rfl) : PS X (.Expr e pos) (tS X W T cal mkc pr (.expr ea)) := by
  refine (ps_expr he hs).imp fun D σ H q => ?_
  obtain ⟨G, Z, F, ρ, A, q⟩ := q
  exact ⟨G, Z, F, ρ, A, (AftS.bnd q).imp fun F' H' ρ' r A' e' q' x rx => AftS.nx q' A'⟩
theorem sS_retN : PS X (.Return none pos) (tS X W T cal mkc pr .retN) := ps_retN.imp fun D σ H ⟨G, Z, F, ρ, A, q⟩ => AftS.rt q A .non
theorem sS_ret (he : PE X e (tE X.K X.mg W T cal mkc ea)) (hn : ∀ i, ea ≠ .v i) : PS X (.Return (some e) pos) (tS X W T cal mkc pr (.ret ea)) := by
  refine (ps_ret he).imp fun D σ H q => ?_
  obtain ⟨G, Z, F, ρ, A, q⟩ := q
  have e1 : evS T cal mkc (.ret ea) ρ = EV.bnd (evE T cal mkc ea ρ) fun r ρ1 => EV.pur (.rt r) ρ1 := by
    cases ea with
    | v i => exact absurd rfl (hn i)
    | _ => rfl
  rw [e1] at q
  exact ⟨G, Z, F, ρ, A, (AftS.bnd q).imp fun F' H' ρ' r A' e' q' x rx => AftS.rt q' A' rx⟩
theorem sS_retV {i : Nat} (he : PE X e (tVar i)) : PS X (.Return (some e) pos) (tS X W T cal mkc pr (.ret (.v i))) := by
  refine (ps_ret he).imp fun D σ H q => ?_
  obtain ⟨G, Z, F, ρ, A, q⟩ := q
  have e1 : evS T cal mkc (.ret (.v i)) ρ = match ρ[i]? with
      | some (.ow v) => EV.pur (.rt (.ow v)) (ρ.set i .un)
      | some (.fz v) => EV.pur (.rt (.fz v)) ρ
      | _ => none := rfl
  rw [e1] at q
  cases hm : ρ[i]? with
  | none => rw [hm] at q; exact q.elim
  | some s =>
    rw [hm] at q
    cases s with
    | un => exact q.elim
    | fz v =>
      obtain ⟨x, h1, h2⟩ := A.fz i v hm
      exact ⟨x, h1, AftS.rt q A h2⟩
    | ow v =>
      obtain ⟨a, h1, h2, h3⟩ := A.ow i v hm
      obtain ⟨A1, l1⟩ := A.loose hm h1 .un (fun _ z => by cases z) (fun _ z => by cases z)
      exact ⟨_, h1, AftS.rt q A1 ⟨a, rfl, h2, h3, l1⟩⟩
theorem sS_if {sa sb : List Stmt} {xa xb : List Sx} (hc : PT X c (EV.tB X.K X.mg W T cal mkc ec)) (ha : PSs X sa (tSs X W T cal mkc pr xa)) (hb : PSs X sb (tSs X W T cal mkc pr xb)) : PS X (.If c sa sb pos) (tS X W T cal mkc pr (.ife ec xa xb)) := by
  refine (ps_if hc ha hb).imp fun D σ H q => ?_
  obtain ⟨G, Z, F, ρ, A, q⟩ := q
  have e1 : evS T cal mkc (.ife ec xa xb) ρ = EV.bnd (EV.bnd (evE T cal mkc ec ρ) asBool) fun d ρ2 => if d then evSs T cal mkc xa ρ2 else evSs T cal mkc xb ρ2 := by rw [bnd_assoc]; rfl
  rw [e1] at q
  refine ⟨G, Z, F, ρ, A, (AftS.bnd q).imp fun F' H' ρ' d A' e' q' => ?_⟩
  cases d with
  | true => rw [if_pos rfl]; exact ⟨G, Z, F', ρ', A', q'⟩
  | false => rw [if_neg Bool.false_ne_true]; exact ⟨G, Z, F', ρ', A', q'⟩
end
end EV
namespace EV
open PySem PySem.Spec PyProof.Rows L2
section
variable {pr : List Nat} {X : Cx} {W : WX} {T : Tab} {cal mkc : Cal} {a b c e tg : Expr} {ea eb ec : Ex} {pos p : Pos} {kr : Nat}
theorem sS_while {body : List Stmt} {xa : List Sx} (hp : PassesOwn (model X.prog X.w) X.A X.env X.xe) (hc : PT X c (EV.tB X.K X.mg W T cal mkc ec)) (hb : PSs X body (tSs X W T cal mkc pr xa)) : PS X (.While c body [] pos) (tS X W T cal mkc pr (.whl ec xa)) := by
  refine (ps_while hp hc hb).imp fun D σ H q => ?_
  obtain ⟨G, Z, F, ρ, A, q⟩ := q
  have q : AftS X W pr σ G Z F (whlF (fun ρ => EV.bnd (evE T cal mkc ec ρ) asBool) (evSs T cal mkc xa) fuel ρ) D := q
  refine ⟨fun m σ H => ∃ F ρ, Abs X.K X.mg G Z F σ H ρ ∧ AftS X W pr σ G Z F (whlF (fun ρ => EV.bnd (evE T cal mkc ec ρ) asBool) (evSs T cal mkc xa) m ρ) D, ⟨fuel, F, ρ, A, q⟩, ?_⟩
  rintro m σ H ⟨F, ρ, A, q⟩
  cases m with
  | zero => exact q.elim
  | succ m =>
    refine ⟨G, Z, F, ρ, A, (AftS.bnd q).imp fun F1 H1 ρ1 d A1 e1 q1 => ?_⟩
    cases d with
    | false => rw [if_neg Bool.false_ne_true]; exact AftS.nx q1 A1
    | true =>
      rw [if_pos rfl]
      refine ⟨fun σ H => ∃ F ρ, Abs X.K X.mg G Z F σ H ρ ∧ AftS X W pr σ G Z F (whlF (fun ρ => EV.bnd (evE T cal mkc ec ρ) asBool) (evSs T cal mkc xa) m ρ) D, fun σ' H' z => ⟨m, Nat.lt_succ_self m, z⟩, G, Z, F1, ρ1, A1, ?_⟩
      rw [if_pos rfl] at q1
      cases hm : evSs T cal mkc xa ρ1 with
      | none => rw [hm] at q1; exact q1.elim
      | some o =>
        rw [hm] at q1
        cases o with
        | ex e ρ' => exact q1
        | ok f ρ' =>
          cases f with
          | nx => exact fun F' σ' H' A' e' k' => ⟨F', ρ', A', (AftS.up q1 e').mv k'⟩
          | rt r => exact q1
theorem for_red {it : Iter} {t : Tg} {xa : List Sx} {D : Ends} {σ : L2.St} {H : Hp} (hp : ∀ j ∈ tgn t, j ∉ pr) (q : tS X W T cal mkc pr (.for_ t it xa) D σ H) : tFor (tIt X W T cal mkc it) (gT X.K X.mg t) (tSs X W T cal mkc pr xa) D σ H := by
  obtain ⟨G, Z, F, ρ, A, q⟩ := q
  refine ⟨G, Z, F, ρ, A, (AftS.bnd q).imp fun F1 H1 ρ1 xs A1 e1 q1 J hJ => ?_⟩
  split at q1
  case isFalse => exact q1.elim
  refine ⟨fun i m σ H => m = xs.length - i ∧ i ≤ xs.length ∧ ∃ F ρ, Ex' F1 F ∧ Abs X.K X.mg G Z F σ H ρ ∧ AftS X W pr σ G Z F (forF (evSs T cal mkc xa) t (xs.drop i) ρ) D, ⟨xs.length, rfl, Nat.zero_le _, F1, ρ1, Ex'.refl F1, A1, by rw [List.drop_zero]; exact q1⟩, ?_⟩
  rintro i m σ H ⟨rfl, hi, F2, ρ2, e2, A2, q2⟩
  by_cases hlt : i < xs.length
  · refine .inr ⟨hJ.goes i H hlt (e2.trans A2.sub), fun σ H => ∃ F ρ, Ex' F1 F ∧ Abs X.K X.mg G Z F σ H ρ ∧ AftS X W pr σ G Z F (forF (evSs T cal mkc xa) t (xs.drop (i + 1)) ρ) D, fun σ' H' z => ⟨xs.length - (i + 1), by omega, rfl, hlt, z⟩, fun x H' y => ?_⟩
    have hv : xs[i]? = some xs[i] := List.getElem?_eq_getElem hlt
    have n := hJ.yields i F2 H x H' _ hv e2 A2.sub y
    rw [List.drop_eq_getElem_cons hlt] at q2
    refine A2.new (Q := fun x H' => gT X.K X.mg t x σ H' _) n fun F3 H3 A3 e3 x rx => ?_
    simp only [forF] at q2
    cases hm : assn t (.fz xs[i]) ρ2 with
    | none => rw [hm] at q2; exact q2.elim
    | some ρ3 =>
      rw [hm] at q2
      refine ⟨G, Z, F3, ρ2, _, ρ3, A3, rx, hm, fun σ' A4 k4 => ⟨G, Z, F3, ρ3, A4, ?_⟩⟩
      have q2 : AftS X W pr σ' G Z F3 (EV.bnd (evSs T cal mkc xa ρ3) fun f ρ2 => match f with
        | .nx => forF (evSs T cal mkc xa) t (xs.drop (i + 1)) ρ2
        | .rt q => EV.pur (.rt q) ρ2) D := (AftS.up q2 e3).mv (kp_tg hp k4)
      cases hm : evSs T cal mkc xa ρ3 with
      | none => rw [hm] at q2; exact q2.elim
      | some o =>
        rw [hm] at q2
        cases o with
        | ex e ρ' => exact q2
        | ok f ρ' =>
          cases f with
          | nx => exact fun F' σ' H' A' e' k' => ⟨F', ρ', (e2.trans e3).trans e', A', (AftS.up q2 e').mv k'⟩
          | rt r => exact q2
  · have hi : i = xs.length := by omega
    subst hi
    rw [List.drop_length] at q2
    exact .inl ⟨hJ.stops H (e2.trans A2.sub), AftS.nx q2 A2⟩
theorem sS_for {iter : Expr} {body : List Stmt} {it : Iter} {t : Tg} {xa : List Sx} (hpr : ∀ j ∈ tgn t, j ∉ pr) (hp : PassesOwn (model X.prog X.w) X.A X.env X.xe) (hc : X.calm = true) (hi : PI X tg iter (tIt X W T cal mkc it)) (hg : PG X tg (gT X.K X.mg t)) (hb : PSs X body (tSs X W T cal mkc pr xa)) (hs : ∀ x, foldedSetIterable iter X.env x = pure x := by intro _; rfl) :
    PS X (.For tg iter body [] pos) (tS X W T cal mkc pr (.for_ t it xa)) :=
  (ps_for hp hc hi hg hb hs).imp fun _ _ _ q => for_red hpr q
end
/-! ### blocks -/
section
variable {K : PySem.W.Frag} {mg : Str → Option Value} {G Z F : Hp} {σ : L2.St} {H : Hp} {ρ : Ro}
theorem Abs.hold {p : Addr} {o : HO} (A : Abs K mg G Z F σ H ρ) (hH : H p = some o) (hF : F p = none) (hl : Lone σ ρ p) : Abs K mg (upd G p o) Z F σ H ρ := by
  refine ⟨A.sub, fun a u q => ?_, A.f0, fun a u q => ?_, A.len, A.fz, fun i v q => ?_, A.ap⟩
  · by_cases ha : a = p
    · subst ha; rw [upd_same] at q; rw [hH]; exact q
    · rw [upd_ne ha] at q; exact A.bg a u q
  · have ha : a ≠ p := fun z => by rw [z, hF] at q; cases q
    rw [upd_ne ha]; exact A.nw a u q
  · obtain ⟨a, h1, h2, h3⟩ := A.ow i v q
    have ha : a ≠ p := fun z => hl i v q (by rw [← z]; exact h1)
    exact ⟨a, h1, by rw [upd_ne ha]; exact h2, h3⟩
theorem Abs.free {p : Addr} {o : HO} (A : Abs K mg (upd G p o) Z F σ H ρ) (hG : G p = none) (hZ : Z p = none) (ho : ∀ xs, o ≠ .tup xs) : Abs K mg G Z F σ H ρ ∧ H p = some o ∧ F p = none ∧ Lone σ ρ p := by
  have hH : H p = some o := A.bg p o upd_same
  have ne : ∀ {a : Addr}, upd G p o a = none → a ≠ p := fun {a} z e => by rw [e, upd_same] at z; cases z
  refine ⟨⟨A.sub, fun a u q => ?_, A.f0, fun a u q => ?_, A.len, A.fz, fun i v q => ?_, A.ap⟩, hH, ?_, fun i w q z => ?_⟩
  · have ha : a ≠ p := fun z => by rw [z, hG] at q; cases q
    exact A.bg a u (by rw [upd_ne ha]; exact q)
  · rcases A.nw a u q with h | h | h
    · exact .inl h
    · rw [upd_ne (ne h)] at h; exact .inr (.inl h)
    · exact .inr (.inr h)
  · obtain ⟨a, h1, h2, h3⟩ := A.ow i v q
    rw [upd_ne (ne h2)] at h2
    exact ⟨a, h1, h2, h3⟩
  · cases q : F p with
    | none => rfl
    | some u =>
      rcases A.nw p u q with h | h | ⟨xs, h⟩
      · rw [hZ] at h; cases h
      · rw [upd_same] at h; cases h
      · have z := A.sub p u q
        rw [hH] at z; cases z
        exact absurd h (ho xs)
  · obtain ⟨a, h1, h2, h3⟩ := A.ow i w q
    rw [z] at h1; cases h1
    rw [upd_same] at h2; cases h2
theorem wipe_get (σ : L2.St) : ∀ (ns : List Nat) (j : Nat), (wipe σ ns)[j]? = if j ∈ ns then (σ[j]?).map fun _ => none else σ[j]?
  | [], j => by simp [wipe]
  | i :: r, j => by
    have ih := wipe_get σ r j
    simp only [wipe]
    by_cases hj : j = i
    · subst hj
      by_cases hl : j < σ.length
      · rw [List.getElem?_set_self (by rw [wipe_length]; exact hl)]
        simp [hl]
      · rw [List.getElem?_eq_none (by rw [List.length_set, wipe_length]; omega)]
        simp [List.getElem?_eq_none (show σ.length ≤ j by omega)]
    · rw [List.getElem?_set_ne (Ne.symm hj), ih]
      simp [hj]
theorem wipeR_len (ρ : Ro) : ∀ ns : List Nat, (wipeR ρ ns).length = ρ.length
  | [] => rfl
  | i :: r => by simp [wipeR, wipeR_len ρ r]
theorem wipeR_get (ρ : Ro) : ∀ (ns : List Nat) (j : Nat), (wipeR ρ ns)[j]? = if j ∈ ns then (ρ[j]?).map fun _ => .un else ρ[j]?
  | [], j => by simp [wipeR]
  | i :: r, j => by
    have ih := wipeR_get ρ r j
    simp only [wipeR]
    by_cases hj : j = i
    · subst hj
      by_cases hl : j < ρ.length
      · rw [List.getElem?_set_self (by rw [wipeR_len]; exact hl)]
        simp [hl]
      · rw [List.getElem?_eq_none (by rw [List.length_set, wipeR_len]; omega)]
        simp [List.getElem?_eq_none (show ρ.length ≤ j by omega)]
    · rw [List.getElem?_set_ne (Ne.symm hj), ih]
      simp [hj]
theorem unwipe_len (ρ ρ' : Ro) : ∀ ns : List Nat, (unwipe ns ρ ρ').length = ρ'.length
  | [] => rfl
  | i :: r => by simp [unwipe, unwipe_len ρ ρ' r]
theorem unwipe_get (ρ ρ' : Ro) (hl : ρ.length = ρ'.length) : ∀ (ns : List Nat) (j : Nat), (unwipe ns ρ ρ')[j]? = if j ∈ ns then ρ[j]? else ρ'[j]?
  | [], j => by simp [unwipe]
  | i :: r, j => by
    have ih := unwipe_get ρ ρ' hl r j
    simp only [unwipe]
    by_cases hj : j = i
    · subst hj
      by_cases hl' : j < ρ'.length
      · rw [List.getElem?_set_self (by rw [unwipe_len]; exact hl')]
        have : j < ρ.length := by omega
        simp [this]
      · rw [List.getElem?_eq_none (by rw [List.length_set, unwipe_len]; omega)]
        simp [List.getElem?_eq_none (show ρ.length ≤ j by omega)]
    · rw [List.getElem?_set_ne (Ne.symm hj), ih]
      simp [hj]
/-- the block's names forgotten -/
theorem Abs.wipe {ns : List Nat} (A : Abs K mg G Z F σ H ρ) : Abs K mg G Z F (L2.wipe σ ns) H (wipeR ρ ns) := by
  have out : ∀ {j : Nat} {s : Slot}, (wipeR ρ ns)[j]? = some s → s ≠ .un → j ∉ ns ∧ ρ[j]? = some s := fun {j s} q hs => by
    rw [wipeR_get] at q
    by_cases hj : j ∈ ns
    · rw [if_pos hj] at q
      obtain ⟨_, _, z⟩ := Option.map_eq_some_iff.mp q
      exact absurd z.symm hs
    · rw [if_neg hj] at q; exact ⟨hj, q⟩
  refine ⟨A.sub, A.bg, A.f0, A.nw, by rw [wipeR_len, wipe_length]; exact A.len, fun j v q => ?_, fun j v q => ?_, fun j k a v w hjk q q' s s' => ?_⟩
  · obtain ⟨hj, q⟩ := out q (by intro z; cases z)
    obtain ⟨x, h1, h2⟩ := A.fz j v q
    exact ⟨x, by rw [wipe_get, if_neg hj]; exact h1, h2⟩
  · obtain ⟨hj, q⟩ := out q (by intro z; cases z)
    obtain ⟨x, h1, h2⟩ := A.ow j v q
    exact ⟨x, by rw [wipe_get, if_neg hj]; exact h1, h2⟩
  · obtain ⟨hj, q⟩ := out q (by intro z; cases z)
    obtain ⟨hk, q'⟩ := out q' (by intro z; cases z)
    rw [wipe_get, if_neg hj] at s
    rw [wipe_get, if_neg hk] at s'
    exact A.ap j k a v w hjk q q' s s'
/-- and behind the block as they were -/
theorem Abs.back {F1 : Hp} {H1 : Hp} {ρ1 : Ro} {ns : List Nat} (A1 : Abs K mg G Z F1 σ H1 ρ1) (hc : clean ns ρ1 = true) (e : Ex' F1 F) (A : Abs K mg G Z F (L2.wipe σ ns) H ρ) : Abs K mg G Z F σ H (unwipe ns ρ1 ρ) ∧ ∀ a, Lone (L2.wipe σ ns) ρ a → Lone σ (unwipe ns ρ1 ρ) a := by
  have hl : ρ1.length = ρ.length := by rw [A1.len, A.len, wipe_length]
  have cl : ∀ {j : Nat} {v : Val}, j ∈ ns → ρ1[j]? ≠ some (.ow v) := fun {j v} hj z => by
    unfold clean at hc
    have := List.all_eq_true.mp hc j hj
    rw [z] at this
    cases this
  have own : ∀ {j : Nat} {v : Val}, (unwipe ns ρ1 ρ)[j]? = some (.ow v) → j ∉ ns ∧ ρ[j]? = some (.ow v) := fun {j v} q => by
    rw [unwipe_get _ _ hl] at q
    by_cases hj : j ∈ ns
    · rw [if_pos hj] at q; exact absurd q (cl hj)
    · rw [if_neg hj] at q; exact ⟨hj, q⟩
  have wg : ∀ {j : Nat}, j ∉ ns → (L2.wipe σ ns)[j]? = σ[j]? := fun {j} hj => by rw [wipe_get, if_neg hj]
  refine ⟨⟨A.sub, A.bg, A.f0, A.nw, by rw [unwipe_len, A.len, wipe_length], fun j v q => ?_, fun j v q => ?_, fun j k a v w hjk q q' s s' => ?_⟩, fun a l j w q s => ?_⟩
  · rw [unwipe_get _ _ hl] at q
    by_cases hj : j ∈ ns
    · rw [if_pos hj] at q
      obtain ⟨x, h1, h2⟩ := A1.fz j v q
      exact ⟨x, h1, h2.mono e⟩
    · rw [if_neg hj] at q
      obtain ⟨x, h1, h2⟩ := A.fz j v q
      exact ⟨x, by rw [← wg hj]; exact h1, h2⟩
  · obtain ⟨hj, q⟩ := own q
    obtain ⟨x, h1, h2⟩ := A.ow j v q
    exact ⟨x, by rw [← wg hj]; exact h1, h2⟩
  · obtain ⟨hj, q⟩ := own q
    obtain ⟨hk, q'⟩ := own q'
    rw [← wg hj] at s
    rw [← wg hk] at s'
    exact A.ap j k a v w hjk q q' s s'
  · obtain ⟨hj, q⟩ := own q
    rw [← wg hj] at s
    exact l j w q s
end
end EV
namespace EV
open PySem PySem.Spec PyProof.Rows L2
/-- no error -/
def W0 : WX := fun _ _ _ _ => False
section
variable {pr : List Nat} {X : Cx} {W : WX} {T : Tab} {cal mkc : Cal} {a b c e tg : Expr} {ea eb ec : Ex} {pos p : Pos} {kr : Nat}
def tCo (X : Cx) (W : WX) (T : Tab) (cal mkc : Cal) (c : Option Ex) : TT := fun σ H Q => ∃ G Z F ρ, Abs X.K X.mg G Z F σ H ρ ∧ Aft X.K X.mg W G Z F σ (evC T cal mkc c ρ) fun F' H' ρ' b => Q b H'
theorem _root_.L2.PTs.imp {es : List Expr} {t t' : TT} (h : PTs X es t) (k : ∀ σ H Q, t' σ H Q → t σ H Q) : PTs X es t' := ⟨fun pins s σ H Q I q => h.run pins s σ H Q I (k σ H Q q)⟩
theorem sC_none : PTs X [] (tCo X W T cal mkc none) := by
  refine pts_nil.imp fun σ H Q q => ?_
  obtain ⟨G, Z, F, ρ, A, q⟩ := q
  exact Aft.pur q A
theorem sC_some (h : PT X c (EV.tB X.K X.mg W T cal mkc ec)) : PTs X [c] (tCo X W T cal mkc (some ec)) := (pts_one h).imp fun _ _ _ q => q
theorem lc_len {f : Ro → Res (Option Val)} {t : Tg} {ns : List Nat} : ∀ {xs : List Val} {ρ ρe : Ro} {ys : List Val}, lcLoop f t ns xs ρ = some (.ok ys ρe) → ys.length ≤ xs.length
  | [], ρ, ρe, ys, h => by simp only [lcLoop, pur] at h; cases h; simp
  | x :: r, ρ, ρe, ys, h => by
    simp only [lcLoop] at h
    split at h
    · rename_i ρ1 h1
      cases hf : f ρ1 with
      | none => rw [hf] at h; cases h
      | some o =>
        rw [hf] at h
        cases o with
        | ex e ρ' => cases h
        | ok y ρ2 =>
          simp only [bnd_ok] at h
          cases hr : lcLoop f t ns r (wipeR ρ2 ns) with
          | none => rw [hr] at h; cases h
          | some o =>
            rw [hr] at h
            cases o with
            | ex e ρ' => cases h
            | ok zs ρ3 =>
              simp only [bnd_ok, pur] at h
              have := lc_len hr
              cases y <;> cases h <;> simp <;> omega
    · cases h
mutual
theorem assn_len : ∀ {t : Tg} {r : Slot} {ρ ρ' : Ro}, assn t r ρ = some ρ' → ρ'.length = ρ.length
  | .nm i, r, ρ, ρ', h => by
    simp only [assn] at h
    split at h
    · cases h; simp
    · cases h
  | .tp ts, r, ρ, ρ', h => by
    simp only [assn] at h
    split at h
    · split at h
      · exact assns_len h
      · cases h
    · cases h
theorem assns_len : ∀ {ts : List Tg} {xs : List Val} {ρ ρ' : Ro}, assns ts xs ρ = some ρ' → ρ'.length = ρ.length
  | [], xs, ρ, ρ', h => by simp only [assns] at h; cases h; rfl
  | t :: ts, [], ρ, ρ', h => by simp only [assns] at h; cases h
  | t :: ts, x :: xs, ρ, ρ', h => by
    simp only [assns] at h
    obtain ⟨ρ1, h1, h2⟩ := Option.bind_eq_some_iff.mp h
    rw [assns_len h2, assn_len h1]
end
theorem wipe_same {ns : List Nat} {t : Tg} {σ σ4 : L2.St} {ρ2 ρ3 : Ro} (ht : ∀ i ∈ tgn t, i ∈ ns) (l2 : ρ2.length = (L2.wipe σ ns).length) (l1 : ρ3.length = σ4.length) (l3 : ρ3.length = ρ2.length) (k4 : ∀ i : Nat, i ∉ tgn t → σ4[i]? = (L2.wipe σ ns)[i]?) : L2.wipe σ4 ns = L2.wipe σ ns := by
  apply List.ext_getElem?
  intro j
  rw [wipe_get, wipe_get]
  by_cases hj : j ∈ ns
  · rw [if_pos hj, if_pos hj]
    rw [wipe_length] at l2
    by_cases hjl : j < σ.length
    · rw [List.getElem?_eq_getElem hjl, List.getElem?_eq_getElem (show j < σ4.length by omega)]; rfl
    · rw [List.getElem?_eq_none (by omega), List.getElem?_eq_none (by omega)]
  · rw [if_neg hj, if_neg hj, k4 j fun z => hj (ht j z), wipe_get, if_neg hj]
/-- what a list comprehension's turns do -/
def lcF (T : Tab) (cal mkc : Cal) (c : Option Ex) (e : Ex) : Ro → Res (Option Val) := fun ρ => bnd (evC T cal mkc c ρ) fun b ρ' => if b then bnd (evE T cal mkc e ρ') fun r ρ2 => bnd (fixv r ρ2) fun v ρ3 => pur (some v) ρ3 else pur none ρ'
theorem lc_red {ns : List Nat} {t : Tg} {it : Iter} {co : Option Ex} {σ : L2.St} {H : Hp} {Q : VK} (ht : ∀ i ∈ tgn t, i ∈ ns) (q : tE X.K X.mg W T cal mkc (.lc ns t it co ea) σ H Q) :
    tLc (tIt X W T cal mkc it) (gT X.K X.mg t) (tCo X W0 T cal mkc co) (tV X.K X.mg W0 T cal mkc ea) ns σ H Q := by
  obtain ⟨G, Z, F, ρ, A, q⟩ := q
  refine ⟨G, Z, F, ρ, A, (Aft.bnd q).imp fun F1 H1 ρ1 xs A1 e1 q1 J hJ D hD => ?_⟩
  split at q1
  case isFalse => exact q1.elim
  rename_i hcap
  obtain ⟨hcap, hcl⟩ := hcap
  have q1 : Aft X.K X.mg W G Z F1 σ (EV.bnd (quiet (lcLoop (lcF T cal mkc co ea) t ns xs (wipeR ρ1 ns))) fun ys ρ2 => EV.pur (Slot.ow (.lst ys)) (unwipe ns ρ1 ρ2)) _ := q1
  cases hm : lcLoop (lcF T cal mkc co ea) t ns xs (wipeR ρ1 ns) with
  | none => rw [hm] at q1; exact q1.elim
  | some o =>
    rw [hm] at q1
    cases o with
    | ex e ρ' => exact q1.elim
    | ok ys ρe =>
      have q1 : Aft X.K X.mg W G Z F1 σ (EV.pur (Slot.ow (.lst ys)) (unwipe ns ρ1 ρe)) _ := q1
      obtain ⟨hFD, hGD, hLD⟩ := A1.fresh hD
      have hZD : Z D = none := by
        cases z : Z D with
        | none => rfl
        | some u => rw [A1.f0 D u z] at hFD; cases hFD
      obtain ⟨A2, _, _, hl2⟩ := (A1.wipe (ns := ns)).newO (o := .lst []) hD
      refine ⟨fun i m H => m = xs.length - i ∧ i ≤ xs.length ∧ ∃ F ρ acc vs zs, Ex' F1 F ∧ Abs X.K X.mg G Z F (L2.wipe σ ns) H ρ ∧ H D = some (.lst acc) ∧ F D = none ∧ Lone (L2.wipe σ ns) ρ D ∧ Reps X.K X.mg F acc vs ∧ acc.length ≤ i ∧ ys = vs ++ zs ∧ lcLoop (lcF T cal mkc co ea) t ns (xs.drop i) ρ = some (.ok zs ρe),
        ⟨xs.length, rfl, Nat.zero_le _, F1, _, [], [], ys, Ex'.refl F1, A2, upd_same, hFD, hl2, .nil, Nat.le_refl _, rfl, by rw [List.drop_zero]; exact hm⟩, ?_⟩
      rintro i m H ⟨rfl, hi, F2, ρ2, acc, vs, zs, e2, A2, hH2, hF2, hL2, rv, hal, hys, hlp⟩
      by_cases hlt : i < xs.length
      · refine .inr ⟨hJ.goes i H hlt (e2.trans A2.sub), fun H => ∃ F ρ acc vs zs, Ex' F1 F ∧ Abs X.K X.mg G Z F (L2.wipe σ ns) H ρ ∧ H D = some (.lst acc) ∧ F D = none ∧ Lone (L2.wipe σ ns) ρ D ∧ Reps X.K X.mg F acc vs ∧ acc.length ≤ i + 1 ∧ ys = vs ++ zs ∧ lcLoop (lcF T cal mkc co ea) t ns (xs.drop (i + 1)) ρ = some (.ok zs ρe), fun H' z => ⟨xs.length - (i + 1), by omega, rfl, hlt, z⟩, fun x H' y => ?_⟩
        have hv : xs[i]? = some xs[i] := List.getElem?_eq_getElem hlt
        have n := hJ.yields i F2 H x H' _ hv e2 A2.sub y
        rw [List.drop_eq_getElem_cons hlt] at hlp
        simp only [lcLoop] at hlp
        split at hlp
        case h_2 => cases hlp
        rename_i ρ3 hρ3
        have A2' := A2.hold hH2 hF2 hL2
        refine A2'.new (Q := fun x H' => gT X.K X.mg t x (L2.wipe σ ns) H' _) n fun F3 H3 A3 e3 x rx => ?_
        refine ⟨upd G D (.lst acc), Z, F3, ρ2, _, ρ3, A3, rx, hρ3, fun σ4 A4 k4 => ?_⟩
        · have hw := wipe_same ht A3.len A4.len (assn_len hρ3) k4
          refine ⟨hw, ?_⟩
          cases hf : lcF T cal mkc co ea ρ3 with
          | none => rw [hf] at hlp; cases hlp
          | some o =>
            rw [hf] at hlp
            cases o with
            | ex e ρ' => cases hlp
            | ok y0 ρ5 =>
              simp only [bnd_ok] at hlp
              cases hr : lcLoop (lcF T cal mkc co ea) t ns (xs.drop (i + 1)) (wipeR ρ5 ns) with
              | none => rw [hr] at hlp; cases hlp
              | some o =>
                rw [hr] at hlp
                cases o with
                | ex e ρ' => cases hlp
                | ok zs' ρe' =>
                  simp only [bnd_ok, EV.pur] at hlp
                  have hf' : Aft X.K X.mg W0 (upd G D (.lst acc)) Z F3 σ4 (lcF T cal mkc co ea ρ3) fun _ _ ρ' y' => y' = y0 ∧ ρ' = ρ5 := by
                    rw [hf]; exact fun _ _ _ _ => ⟨rfl, rfl⟩
                  refine ⟨upd G D (.lst acc), Z, F3, ρ3, A4, (Aft.bnd hf').imp fun F5 H5 ρ5' d A5 e5 q5 => ?_⟩
                  cases d with
                  | false =>
                    rw [if_neg Bool.false_ne_true] at q5 ⊢
                    obtain ⟨hy, hρ⟩ := Aft.pur q5 A5
                    subst hy; subst hρ
                    have A5w := A5.wipe (ns := ns)
                    rw [hw] at A5w
                    obtain ⟨A6, h1, h2, h3⟩ := A5w.free hGD hZD (fun _ z => by cases z)
                    cases hlp
                    exact ⟨F5, _, acc, vs, zs', (e2.trans e3).trans e5, A6, h1, h2, h3, rv.mono (e3.trans e5), by omega, hys, hr⟩
                  | true =>
                    rw [if_pos rfl] at q5 ⊢
                    have q5 : Aft X.K X.mg W0 (upd G D (.lst acc)) Z F5 σ4 (EV.bnd (EV.bnd (evE T cal mkc ea ρ5') fixv) fun v ρ3 => EV.pur (some v) ρ3) (fun _ _ ρ' y' => y' = y0 ∧ ρ' = ρ5) := by rw [bnd_assoc]; exact q5
                    refine ⟨upd G D (.lst acc), Z, F5, ρ5', A5, (Aft.bnd q5).imp fun F6 H6 ρ6 v A6 e6 q6 y ry => ?_⟩
                    obtain ⟨hy, hρ⟩ := Aft.pur q6 A6
                    subst hy; subst hρ
                    have A6w := A6.wipe (ns := ns)
                    rw [hw] at A6w
                    obtain ⟨A7, h1, h2, h3⟩ := A6w.free hGD hZD (fun _ z => by cases z)
                    cases hlp
                    have hsz : acc.length < sizeLine := by
                      have : sizeLine = 16777216 := rfl
                      unfold cap at hcap
                      omega
                    exact ⟨acc, h1, hsz, F6, _, acc ++ [y], vs ++ [v], zs', ((e2.trans e3).trans e5).trans e6, A7.wr h2 hGD h3, upd_same, h2, h3, (rv.mono ((e3.trans e5).trans e6)).app (.cons ry .nil), by simp; omega, by rw [hys]; simp, hr⟩
      · have hi : i = xs.length := by omega
        subst hi
        rw [List.drop_length] at hlp
        simp only [lcLoop, EV.pur] at hlp
        cases hlp
        obtain ⟨A3, l3⟩ := A1.back hcl e2 A2
        refine .inl ⟨hJ.stops H (e2.trans A2.sub), ?_⟩
        rw [List.append_nil] at hys
        subst hys
        exact (Aft.up q1 e2) F2 H A3 (Ex'.refl F2) (.ref D) ⟨D, rfl, hGD, .lst hF2 hH2 rv, l3 D hL2⟩
theorem sE_lc {elt iter : Expr} {ifs : List Expr} {scope : Scope} {own : List (Str × Nat)} {ns : List Nat} {t : Tg} {it : Iter} {co : Option Ex} (hc : X.calm = true) (hN : X.N.Nodup) (hi : PI X tg iter (tIt X W T cal mkc it)) (ok : BlkOk X.N X.env.scope scope own) (hns : own.map (·.2) = ns) (ht : ∀ i ∈ tgn t, i ∈ ns)
    (hg : ∀ (s : Shared) (H : Hp) (C : Addr) (cl : List (Str × Addr)) (fp : List Addr), PG (X.blk s H scope (compEnvC scope cl C X.env) fp) tg (gT X.K X.mg t)) (hco : ∀ (s : Shared) (H : Hp) (C : Addr) (cl : List (Str × Addr)) (fp : List Addr), PTs (X.blk s H scope (compEnvC scope cl C X.env) fp) ifs (tCo X W0 T cal mkc co))
    (he : ∀ (s : Shared) (H : Hp) (C : Addr) (cl : List (Str × Addr)) (fp : List Addr), PE (X.blk s H scope (compEnvC scope cl C X.env) fp) elt (tE X.K X.mg W0 T cal mkc ea)) (hs : ∀ x, foldedSetIterable iter X.env x = pure x := by intro _; rfl) :
    PE X (.ListComp elt [⟨tg, iter, ifs, 0⟩] scope pos) (tE X.K X.mg W T cal mkc (.lc ns t it co ea)) := by
  subst hns
  exact (pe_lc hc hN hi ok hg hco (fun s H C cl fp => pe_fix (he s H C cl fp)) hs).imp fun _ _ _ q => lc_red ht q
theorem sS_setLc {i : Nat} {y : Str} {py : Pos} {spos : Pos} {elt iter : Expr} {ifs : List Expr} {scope : Scope} {own : List (Str × Nat)} {ns : List Nat} {t : Tg} {it : Iter} {co : Option Ex} (hp : i ∉ pr) (hc : X.calm = true) (hN : X.N.Nodup) (hy : X.N[i]? = some y) (hyl : X.env.scope.names.lookup y = some .local)
    (hsw : swapsWith (.ListComp elt [⟨tg, iter, ifs, 0⟩] scope pos) (some (.Name y py)) spos.line X.env = pure true) (hi : PI X tg iter (tIt X W T cal mkc it)) (ok : BlkOk X.N X.env.scope scope own) (hns : own.map (·.2) = ns) (ht : ∀ i ∈ tgn t, i ∈ ns)
    (hg : ∀ (s : Shared) (H : Hp) (C : Addr) (cl : List (Str × Addr)) (fp : List Addr), PG (X.blk s H scope (compEnvC scope cl C X.env) fp) tg (gT X.K X.mg t)) (hco : ∀ (s : Shared) (H : Hp) (C : Addr) (cl : List (Str × Addr)) (fp : List Addr), PTs (X.blk s H scope (compEnvC scope cl C X.env) fp) ifs (tCo X W0 T cal mkc co))
    (he : ∀ (s : Shared) (H : Hp) (C : Addr) (cl : List (Str × Addr)) (fp : List Addr), PE (X.blk s H scope (compEnvC scope cl C X.env) fp) elt (tE X.K X.mg W0 T cal mkc ea)) (hs : ∀ x, foldedSetIterable iter X.env x = pure x := by intro _; rfl) :
    PS X (.Assign [.Name y py] (.ListComp elt [⟨tg, iter, ifs, 0⟩] scope pos) spos) (tS X W T cal mkc pr (.asg (.nm i) (.lc ns t it co ea))) := by
  subst hns
  exact (ps_setLc hc hN hy hyl hsw hi ok hg hco (fun s H C cl fp => pe_fix (he s H C cl fp)) hs).imp fun _ _ _ q => asgN_red hp (fun _ z => lc_red ht z) q
end
end EV
namespace EV
open PySem PySem.Spec PyProof.Rows L2
section
variable {pr : List Nat} {X : Cx} {W : WX} {T : Tab} {cal mkc : Cal} {a b c e tg : Expr} {ea eb ec ek : Ex} {pos p : Pos} {kr : Nat}
theorem key_repX {F : Hp} {x : V} {v : Val} (r : Rep X.K X.mg F x v) (h : keyOk v = true) : ∃ k : Key, x = kV k ∧ v = keyV k := by
  cases r with
  | int i => exact ⟨.inl i, rfl, rfl⟩
  | str l => exact ⟨.inr (toS l), rfl, by simp [keyV, toS]⟩
  | _ => simp [keyOk] at h
theorem putK_len {ks : List (Key × V)} {k : Key} {v : V} : (putK ks k v).length ≤ ks.length + 1 := by
  unfold putK
  split <;> simp
theorem iteT {p q : Prop} (h : p) : if true = true then p else q := by rw [if_pos rfl]; exact h
def dcF (T : Tab) (cal mkc : Cal) (k e : Ex) : Ro → Res (Val × Val) := fun ρ => bnd (evE T cal mkc k ρ) fun r ρ2 => bnd (fixv r ρ2) fun a ρ3 => bnd (evE T cal mkc e ρ3) fun q ρ4 => bnd (fixv q ρ4) fun v ρ5 => pur (a, v) ρ5
theorem dc_red {ns : List Nat} {t : Tg} {it : Iter} {σ : L2.St} {H : Hp} {Q : VK} (ht : ∀ i ∈ tgn t, i ∈ ns) (q : tE X.K X.mg W T cal mkc (.dc ns t it ek ea) σ H Q) :
    tDc (tIt X W T cal mkc it) (gT X.K X.mg t) (tCo X W0 T cal mkc none) (tV X.K X.mg W0 T cal mkc ek) (tV X.K X.mg W0 T cal mkc ea) ns σ H Q := by
  obtain ⟨G, Z, F, ρ, A, q⟩ := q
  refine ⟨G, Z, F, ρ, A, (Aft.bnd q).imp fun F1 H1 ρ1 xs A1 e1 q1 J hJ D hD => ?_⟩
  split at q1
  case isFalse => exact q1.elim
  rename_i hcap
  obtain ⟨hcap, hcl⟩ := hcap
  have q1 : Aft X.K X.mg W G Z F1 σ (EV.bnd (quiet (dcLoop (dcF T cal mkc ek ea) t ns xs (wipeR ρ1 ns) [])) fun ys ρ2 => EV.pur (Slot.ow (.dct ys)) (unwipe ns ρ1 ρ2)) _ := q1
  cases hm : dcLoop (dcF T cal mkc ek ea) t ns xs (wipeR ρ1 ns) [] with
  | none => rw [hm] at q1; exact q1.elim
  | some o =>
    rw [hm] at q1
    cases o with
    | ex e ρ' => exact q1.elim
    | ok ys ρe =>
      have q1 : Aft X.K X.mg W G Z F1 σ (EV.pur (Slot.ow (.dct ys)) (unwipe ns ρ1 ρe)) _ := q1
      obtain ⟨hFD, hGD, hLD⟩ := A1.fresh hD
      have hZD : Z D = none := by
        cases z : Z D with
        | none => rfl
        | some u => rw [A1.f0 D u z] at hFD; cases hFD
      obtain ⟨A2, _, _, hl2⟩ := (A1.wipe (ns := ns)).newO (o := .dK []) hD
      refine ⟨fun i m H => m = xs.length - i ∧ i ≤ xs.length ∧ ∃ F ρ acc vs, Ex' F1 F ∧ Abs X.K X.mg G Z F (L2.wipe σ ns) H ρ ∧ H D = some (.dK acc) ∧ F D = none ∧ Lone (L2.wipe σ ns) ρ D ∧ RepK X.K X.mg F acc vs ∧ acc.length ≤ i ∧ dcLoop (dcF T cal mkc ek ea) t ns (xs.drop i) ρ vs = some (.ok ys ρe),
        ⟨xs.length, rfl, Nat.zero_le _, F1, _, [], [], Ex'.refl F1, A2, upd_same, hFD, hl2, .nil, Nat.le_refl _, by rw [List.drop_zero]; exact hm⟩, ?_⟩
      rintro i m H ⟨rfl, hi, F2, ρ2, acc, vs, e2, A2, hH2, hF2, hL2, rv, hal, hlp⟩
      by_cases hlt : i < xs.length
      · refine .inr ⟨hJ.goes i H hlt (e2.trans A2.sub), fun H => ∃ F ρ acc vs, Ex' F1 F ∧ Abs X.K X.mg G Z F (L2.wipe σ ns) H ρ ∧ H D = some (.dK acc) ∧ F D = none ∧ Lone (L2.wipe σ ns) ρ D ∧ RepK X.K X.mg F acc vs ∧ acc.length ≤ i + 1 ∧ dcLoop (dcF T cal mkc ek ea) t ns (xs.drop (i + 1)) ρ vs = some (.ok ys ρe), fun H' z => ⟨xs.length - (i + 1), by omega, rfl, hlt, z⟩, fun x H' y => ?_⟩
        have hv : xs[i]? = some xs[i] := List.getElem?_eq_getElem hlt
        have n := hJ.yields i F2 H x H' _ hv e2 A2.sub y
        rw [List.drop_eq_getElem_cons hlt] at hlp
        simp only [dcLoop] at hlp
        split at hlp
        case h_2 => cases hlp
        rename_i ρ3 hρ3
        have A2' := A2.hold hH2 hF2 hL2
        refine A2'.new (Q := fun x H' => gT X.K X.mg t x (L2.wipe σ ns) H' _) n fun F3 H3 A3 e3 x rx => ?_
        refine ⟨upd G D (.dK acc), Z, F3, ρ2, _, ρ3, A3, rx, hρ3, fun σ4 A4 k4 => ?_⟩
        · have hw := wipe_same ht A3.len A4.len (assn_len hρ3) k4
          refine ⟨hw, ?_⟩
          cases hf : dcF T cal mkc ek ea ρ3 with
          | none => rw [hf] at hlp; cases hlp
          | some o =>
            rw [hf] at hlp
            cases o with
            | ex e ρ' => cases hlp
            | ok y0 ρ5 =>
              simp only [bnd_ok] at hlp
              split at hlp
              case isFalse => cases hlp
              rename_i hko
              obtain ⟨hko, hfi⟩ := Bool.and_eq_true_iff.mp hko
              have hf' : Aft X.K X.mg W0 (upd G D (.dK acc)) Z F3 σ4 (dcF T cal mkc ek ea ρ3) fun _ _ ρ' y' => y' = y0 ∧ ρ' = ρ5 := by
                rw [hf]; exact fun _ _ _ _ => ⟨rfl, rfl⟩
              have e0 : dcF T cal mkc ek ea ρ3 = EV.bnd (EV.bnd (evE T cal mkc ek ρ3) fixv) fun a ρ3 => EV.bnd (EV.bnd (evE T cal mkc ea ρ3) fixv) fun v ρ5 => EV.pur (a, v) ρ5 := by
                simp only [bnd_assoc]; rfl
              rw [e0] at hf'
              refine ⟨upd G D (.dK acc), Z, F3, ρ3, A4, fun F4 H4 A4' e4 => ?_⟩
              refine iteT ?_
              have hf' := Aft.up hf' e4
              refine ⟨upd G D (.dK acc), Z, F4, ρ3, A4', (Aft.bnd hf').imp fun F5 H5 ρ5' ka A5 e5 q5 ky rky => ?_⟩
              refine ⟨upd G D (.dK acc), Z, F5, ρ5', A5, (Aft.bnd q5).imp fun F6 H6 ρ6 v A6 e6 q6 y ry => ?_⟩
              obtain ⟨hy, hρ⟩ := Aft.pur q6 A6
              subst hy; subst hρ
              obtain ⟨k, rfl, hk⟩ := key_repX rky hko
              have A6w := A6.wipe (ns := ns)
              rw [hw] at A6w
              obtain ⟨A7, h1, h2, h3⟩ := A6w.free hGD hZD (fun _ z => by cases z)
              have hsz : acc.length < sizeLine := by
                have : sizeLine = 16777216 := rfl
                unfold cap at hcap
                omega
              have hk : ka = keyV k := hk
              subst hk
              have hpl := putK_len (ks := acc) (k := k) (v := y)
              exact ⟨acc, k, rfl, h1, hsz, F6, _, putK acc k y, put vs (keyV k) v, (((e2.trans e3).trans e4).trans e5).trans e6, A7.wr h2 hGD h3, upd_same, h2, h3, RepK.put (rv.mono (((e3.trans e4).trans e5).trans e6)) ry, by omega, hlp⟩
      · have hi : i = xs.length := by omega
        subst hi
        rw [List.drop_length] at hlp
        simp only [dcLoop, EV.pur] at hlp
        cases hlp
        obtain ⟨A3, l3⟩ := A1.back hcl e2 A2
        exact .inl ⟨hJ.stops H (e2.trans A2.sub), (Aft.up q1 e2) F2 H A3 (Ex'.refl F2) (.ref D) ⟨D, rfl, hGD, .dk hF2 hH2 rv, l3 D hL2⟩⟩
theorem ps_setDc {i : Nat} {y : Str} {py : Pos} {kx vx iter : Expr} {ifs : List Expr} {scope : Scope} {own : List (Str × Nat)} {pos spos : Pos} {wi : TI} {g : TG} {tt : TT} {tk tv : TE} (hc : X.calm = true) (hN : X.N.Nodup) (hy : X.N[i]? = some y) (hyl : X.env.scope.names.lookup y = some .local)
    (hsw : swapsWith (.DictComp kx vx [⟨tg, iter, ifs, 0⟩] scope pos) (some (.Name y py)) spos.line X.env = pure true) (hi : PI X tg iter wi) (ok : BlkOk X.N X.env.scope scope own)
    (hg : ∀ (s : Shared) (H : Hp) (C : Addr) (cl : List (Str × Addr)) (fp : List Addr), PG (X.blk s H scope (compEnvC scope cl C X.env) fp) tg g) (ht : ∀ (s : Shared) (H : Hp) (C : Addr) (cl : List (Str × Addr)) (fp : List Addr), PTs (X.blk s H scope (compEnvC scope cl C X.env) fp) ifs tt)
    (hk : ∀ (s : Shared) (H : Hp) (C : Addr) (cl : List (Str × Addr)) (fp : List Addr), PE (X.blk s H scope (compEnvC scope cl C X.env) fp) kx tk)
    (he : ∀ (s : Shared) (H : Hp) (C : Addr) (cl : List (Str × Addr)) (fp : List Addr), PE (X.blk s H scope (compEnvC scope cl C X.env) fp) vx tv) (hs : ∀ x, foldedSetIterable iter X.env x = pure x := by intro _; rfl) :
    PS X (.Assign [.Name y py] (.DictComp kx vx [⟨tg, iter, ifs, 0⟩] scope pos) spos) (tAsg (tDc wi g tt tk tv (own.map (·.2))) (gName i)) := by
  refine ⟨fun pins s σ H D I h => ?_⟩
  rw [exec_Assign_Name_used _ _ _ _ hsw]
  refine wpAny_bind (wpAny_standAt (wpAny_bind ?_))
  show wpAny _ X.A (do let _ ← comprehension (.DictComp kx vx [⟨tg, iter, ifs, 0⟩] scope pos) scope X.env (firstIterPos [⟨tg, iter, ifs, 0⟩] pos) newDict false (eval iter X.env) (some (assign (.Name y py) X.env))) _ _ s
  have h : tDc wi g tt tk tv (own.map (·.2)) σ H (fun x H1 => gName i x σ H1 D.nx) := h
  refine wpAny_bind (thn (dc_core (Qf := fun _ s' => SP X pins D .next s') hc hN I hi ok hg ht hk he hs h fun L C s' m H' I' q hn f => ?_) fun _ s' hq => wpAny_pure (wpAny_pure hq))
  show wpAny _ _ (assign (.Name y py) X.env (.ref L)) _ _ _
  refine wpAny_assign_Name (store_ok2 (v := V.ref L) I' hN hy (.inl hyl) rfl (fun s2 I2 ⟨a, sb, ha⟩ => ?_) (.inr hyl))
  obtain ⟨f0, f1, f2, f3, f4, f5⟩ := f
  have haC : C ≠ a := by
    rcases ha with z | z
    · rw [z]; exact f1
    · exact fun e => f4 y a z e.symm
  refine ⟨m, hn.sameBut sb haC, fun h3 sb3 => ?_⟩
  exact ⟨_, H', I2.turned (t' := s2.toks) (fun b o hb e => (sb3.2 b hb).trans e) f0 f1 f3 f4 f5, q⟩
theorem sw_trueD {kx vx : Expr} {gs : List Comprehension} {scope : Scope} {pos py : Pos} {y : Str} {l : Nat} {env : Env} (hk : env.scope.kind = .function) (hy : env.scope.names.lookup y = some .local) (hl : (py.line == pos.line) = true)
    (ha : (scope.names.any fun (n, k) => n == y && (k == .local || k == .cell)) = false) : swapsWith (.DictComp kx vx gs scope pos) (some (.Name y py)) l env = pure true := by
  have ky : env.kindOf y = some .local := hy
  have hb : env.blockKind = .function := by unfold Env.blockKind; rw [hk]; rfl
  unfold swapsWith
  simp only [hb, ky, ha, Expr.pos, hl]
  rfl
theorem sS_setDc {i : Nat} {y : Str} {py spos : Pos} {kx vx iter : Expr} {scope : Scope} {own : List (Str × Nat)} {ns : List Nat} {t : Tg} {it : Iter} (hp : i ∉ pr) (hc : X.calm = true) (hN : X.N.Nodup) (hy : X.N[i]? = some y) (hyl : X.env.scope.names.lookup y = some .local)
    (hsw : swapsWith (.DictComp kx vx [⟨tg, iter, [], 0⟩] scope pos) (some (.Name y py)) spos.line X.env = pure true) (hi : PI X tg iter (tIt X W T cal mkc it)) (ok : BlkOk X.N X.env.scope scope own) (hns : own.map (·.2) = ns) (ht : ∀ i ∈ tgn t, i ∈ ns)
    (hg : ∀ (s : Shared) (H : Hp) (C : Addr) (cl : List (Str × Addr)) (fp : List Addr), PG (X.blk s H scope (compEnvC scope cl C X.env) fp) tg (gT X.K X.mg t))
    (hk : ∀ (s : Shared) (H : Hp) (C : Addr) (cl : List (Str × Addr)) (fp : List Addr), PE (X.blk s H scope (compEnvC scope cl C X.env) fp) kx (tE X.K X.mg W0 T cal mkc ek))
    (he : ∀ (s : Shared) (H : Hp) (C : Addr) (cl : List (Str × Addr)) (fp : List Addr), PE (X.blk s H scope (compEnvC scope cl C X.env) fp) vx (tE X.K X.mg W0 T cal mkc ea)) (hs : ∀ x, foldedSetIterable iter X.env x = pure x := by intro _; rfl) :
    PS X (.Assign [.Name y py] (.DictComp kx vx [⟨tg, iter, [], 0⟩] scope pos) spos) (tS X W T cal mkc pr (.asg (.nm i) (.dc ns t it ek ea))) := by
  subst hns
  exact (ps_setDc hc hN hy hyl hsw hi ok hg (fun s H C cl fp => sC_none) (fun s H C cl fp => pe_fix (hk s H C cl fp)) (fun s H C cl fp => pe_fix (he s H C cl fp)) hs).imp fun _ _ _ q => asgN_red hp (fun _ z => dc_red ht z) q
theorem sE_dc {kx vx iter : Expr} {scope : Scope} {own : List (Str × Nat)} {ns : List Nat} {t : Tg} {it : Iter} (hc : X.calm = true) (hN : X.N.Nodup) (hi : PI X tg iter (tIt X W T cal mkc it)) (ok : BlkOk X.N X.env.scope scope own) (hns : own.map (·.2) = ns) (ht : ∀ i ∈ tgn t, i ∈ ns)
    (hg : ∀ (s : Shared) (H : Hp) (C : Addr) (cl : List (Str × Addr)) (fp : List Addr), PG (X.blk s H scope (compEnvC scope cl C X.env) fp) tg (gT X.K X.mg t))
    (hk : ∀ (s : Shared) (H : Hp) (C : Addr) (cl : List (Str × Addr)) (fp : List Addr), PE (X.blk s H scope (compEnvC scope cl C X.env) fp) kx (tE X.K X.mg W0 T cal mkc ek))
    (he : ∀ (s : Shared) (H : Hp) (C : Addr) (cl : List (Str × Addr)) (fp : List Addr), PE (X.blk s H scope (compEnvC scope cl C X.env) fp) vx (tE X.K X.mg W0 T cal mkc ea)) (hs : ∀ x, foldedSetIterable iter X.env x = pure x := by intro _; rfl) :
    PE X (.DictComp kx vx [⟨tg, iter, [], 0⟩] scope pos) (tE X.K X.mg W T cal mkc (.dc ns t it ek ea)) := by
  subst hns
  exact (pe_dc hc hN hi ok hg (fun s H C cl fp => sC_none) (fun s H C cl fp => pe_fix (hk s H C cl fp)) (fun s H C cl fp => pe_fix (he s H C cl fp)) hs).imp fun _ _ _ q => dc_red ht q
end
end EV
namespace EV
open PySem PySem.Spec PyProof.Rows L2
section
variable {pr : List Nat} {X : Cx} {W : WX} {T : Tab} {cal mkc : Cal} {a b c e tg : Expr} {ea eb ec ek : Ex} {pos p : Pos} {kr : Nat}
/-! several values, none fixed yet -/
structure ResL (K : PySem.W.Frag) (mg : Str → Option Value) (G F : Hp) (σ : L2.St) (H : Hp) (ρ : Ro) (xs : List V) (rs : List Slot) : Prop where
  all : Paired (ResR K mg G F σ H ρ) xs rs
  ap : (ioOf xs rs).Nodup
def tSl (X : Cx) (W : WX) (T : Tab) (cal mkc : Cal) (es : List Ex) : TA := fun σ H Q => ∃ G Z F ρ, Abs X.K X.mg G Z F σ H ρ ∧ Aft X.K X.mg W G Z F σ (evSl T cal mkc es ρ) fun F' H' ρ' rs => ∀ xs, ResL X.K X.mg G F' σ H' ρ' xs rs → Q xs H'
theorem sL_nil : PA X [] (tSl X W T cal mkc []) := by
  refine pa_nil.imp fun σ H Q q => ?_
  obtain ⟨G, Z, F, ρ, A, q⟩ := q
  exact Aft.pur q A [] ⟨.nil, by simp [ioOf]⟩
theorem Aft.hold {α : Type} {G Z F : Hp} {σ : L2.St} {m : Res α} {C : Hp → Hp → Ro → α → Prop} {q : Addr} {o : HO} (h : Aft X.K X.mg W G Z F σ m C) (hG : G q = none) (hZ : Z q = none) (ho : ∀ xs, o ≠ .tup xs) :
    Aft X.K X.mg W (upd G q o) Z F σ m fun F' H' ρ' a => C F' H' ρ' a ∧ H' q = some o ∧ F' q = none ∧ Lone σ ρ' q := by
  match m, h with
  | some (.ok a ρ'), h =>
    intro F' H' A e
    obtain ⟨A1, h1, h2, h3⟩ := A.free hG hZ ho
    exact ⟨h F' H' A1 e, h1, h2, h3⟩
  | some (.ex e ρ'), h => exact fun F' H' d A e' r => h F' H' d (A.free hG hZ ho).1 e' r
  | none, h => exact h
theorem ResR.unhold {G F : Hp} {σ : L2.St} {H : Hp} {ρ : Ro} {q : Addr} {o : HO} {x : V} {r : Slot} (h : ResR X.K X.mg (upd G q o) F σ H ρ x r) : ResR X.K X.mg G F σ H ρ x r ∧ (∀ v, r = .ow v → x ≠ .ref q) := by
  cases r with
  | un => exact h.elim
  | fz v => exact ⟨h, fun _ z => by cases z⟩
  | ow v =>
    obtain ⟨a, e, g, ow, l⟩ := h
    have ha : a ≠ q := fun z => by rw [z, upd_same] at g; cases g
    rw [upd_ne ha] at g
    exact ⟨⟨a, e, g, ow, l⟩, fun _ _ z => by rw [e] at z; cases z; exact ha rfl⟩
theorem ioOf_no {xs : List V} {rs : List Slot} {q : Addr} (h : Paired (fun x r => ∀ v, r = Slot.ow v → x ≠ .ref q) xs rs) : q ∉ ioOf xs rs := fun z => by
  obtain ⟨i, v, h1, h2⟩ := ioOf_mem z
  exact paired_at h h1 h2 v rfl rfl
theorem paired_imp {α β : Type} {R S : α → β → Prop} (k : ∀ x y, R x y → S x y) : ∀ {xs : List α} {ys : List β}, Paired R xs ys → Paired S xs ys
  | _, _, .nil => .nil
  | _, _, .cons a r => .cons (k _ _ a) (paired_imp k r)
theorem sL_cons {es : List Expr} {xs : List Ex} (ha : PE X e (tE X.K X.mg W T cal mkc ea)) (hr : PA X es (tSl X W T cal mkc xs)) (hs : starEach (e :: es) X.env = (false, eval e X.env) :: starEach es X.env) : PA X (e :: es) (tSl X W T cal mkc (ea :: xs)) := by
  refine (pa_cons ha hr hs).imp fun σ H Q q => ?_
  obtain ⟨G, Z, F, ρ, A, q⟩ := q
  have q : Aft X.K X.mg W G Z F σ (EV.bnd (evE T cal mkc ea ρ) fun q ρ1 => EV.bnd (evSl T cal mkc xs ρ1) fun qs ρ2 => EV.pur (q :: qs) ρ2) _ := q
  refine ⟨G, Z, F, ρ, A, (Aft.bnd q).imp fun F1 H1 ρ1 r A1 e1 q1 x rx => ?_⟩
  cases r with
  | un => exact rx.elim
  | fz v =>
    refine ⟨G, Z, F1, ρ1, A1, (Aft.bnd q1).imp fun F2 H2 ρ2 rs A2 e2 q2 ys rys => Aft.pur q2 A2 _ ⟨.cons (Rep.mono e2 rx) rys.all, ?_⟩⟩
    cases x <;> exact rys.ap
  | ow v =>
    obtain ⟨p, rfl, g, o, l⟩ := rx
    obtain ⟨u, hu, hn⟩ := o.at
    have hZ : Z p = none := by
      cases z : Z p with
      | none => rfl
      | some w => have := A1.f0 p w z; rw [o.no] at this; cases this
    refine ⟨upd G p u, Z, F1, ρ1, A1.hold hu o.no l, ((Aft.bnd q1).hold g hZ hn).imp fun F2 H2 ρ2 rs A2 e2 q2 ys rys => ?_⟩
    obtain ⟨q2, h1, h2, h3⟩ := q2
    have A3 := (A2.free g hZ hn).1
    refine Aft.pur q2 A3 _ ⟨.cons ⟨p, rfl, g, o.keep e2 h2 (h1.trans hu.symm), h3⟩ (paired_imp (fun x r h => (ResR.unhold (X := X) h).1) rys.all), ?_⟩
    show (p :: ioOf ys rs).Nodup
    exact List.nodup_cons.mpr ⟨ioOf_no (paired_imp (fun x r h => (ResR.unhold (X := X) h).2) rys.all), rys.ap⟩
/-- a value keeps while another place takes one -/
theorem ResR.set {G Z F : Hp} {σ : L2.St} {H : Hp} {ρ : Ro} {i : Nat} {x y : V} {r s : Slot} (A : Abs X.K X.mg G Z F σ H ρ) (hi : i < ρ.length) (h : ResR X.K X.mg G F σ H ρ x r) (hd : ∀ v w a, r = .ow v → s = .ow w → x = .ref a → y ≠ .ref a) : ResR X.K X.mg G F (σ.set i (some y)) H (ρ.set i s) x r := by
  have his : i < σ.length := by rw [← A.len]; exact hi
  cases r with
  | un => exact h.elim
  | fz v => exact h
  | ow v =>
    obtain ⟨a, e, g, o, l⟩ := h
    refine ⟨a, e, g, o, fun j w q z => ?_⟩
    rw [set_get hi] at q; rw [set_get his] at z
    by_cases hj : j = i
    · rw [if_pos hj] at q z
      cases q; cases z
      exact hd v w a rfl rfl e rfl
    · rw [if_neg hj] at q z
      exact l j w q z
def setV : List Nat → List V → L2.St → L2.St
  | i :: is, x :: xs, σ => setV is xs (σ.set i (some x))
  | _, _, σ => σ
theorem abs_setAll {G Z F : Hp} {H : Hp} : ∀ {is : List Nat} {xs : List V} {rs : List Slot} {σ : L2.St} {ρ ρ' : Ro}, Abs X.K X.mg G Z F σ H ρ → Paired (ResR X.K X.mg G F σ H ρ) xs rs → (ioOf xs rs).Nodup → setAll is rs ρ = some ρ' → Abs X.K X.mg G Z F (setV is xs σ) H ρ'
  | [], _, _, σ, ρ, ρ', A, .nil, _, h => by simp only [setAll] at h; cases h; exact A
  | [], _, _, σ, ρ, ρ', A, .cons _ _, _, h => by simp only [setAll] at h; cases h
  | i :: is, _, _, σ, ρ, ρ', A, .nil, _, h => by simp only [setAll] at h; cases h
  | i :: is, _, _, σ, ρ, ρ', A, .cons (a := x) (b := r) (l₁ := xs) (l₂ := rs) rx rr, nd, h => by
    simp only [setAll] at h
    split at h
    · rename_i hi
      have nd2 : (ioOf xs rs).Nodup ∧ ∀ v a, r = .ow v → x = .ref a → a ∉ ioOf xs rs := by
        cases r with
        | ow v =>
          obtain ⟨p, rfl, _⟩ := rx
          have nd : (p :: ioOf xs rs).Nodup := nd
          exact ⟨(List.nodup_cons.mp nd).2, fun _ a _ z => by cases z; exact (List.nodup_cons.mp nd).1⟩
        | fz v => exact ⟨by cases x <;> exact nd, fun _ _ z => by cases z⟩
        | un => exact rx.elim
      show Abs X.K X.mg G Z F (setV is xs (σ.set i (some x))) H ρ'
      refine abs_setAll (A.set rx hi) ?_ nd2.1 h
      refine paired_mem rr fun j y s hy hs ry => ResR.set A hi ry fun v w a hr hs' ey ex => ?_
      subst hr; subst ey
      exact nd2.2 w a hs' ex (ioOf_at hy hs)
    · cases h
  where
    paired_mem {α β : Type} {R S : α → β → Prop} : ∀ {xs : List α} {ys : List β}, Paired R xs ys → (∀ (j : Nat) x y, xs[j]? = some x → ys[j]? = some y → R x y → S x y) → Paired S xs ys
      | _, _, .nil, _ => .nil
      | _, _, .cons a r, k => .cons (k 0 _ _ rfl rfl a) (paired_mem r fun j x y h1 h2 => k (j + 1) x y (by simpa using h1) (by simpa using h2))
    ioOf_at : ∀ {xs : List V} {rs : List Slot} {j : Nat} {a : Addr} {v : Val}, xs[j]? = some (.ref a) → rs[j]? = some (.ow v) → a ∈ ioOf xs rs
      | [], _, _, _, _, h, _ => by simp at h
      | _ :: _, [], _, _, _, _, h => by simp at h
      | x :: xs, s :: ss, 0, a, v, h1, h2 => by
        simp at h1 h2; subst h1; subst h2
        exact List.mem_cons_self
      | x :: xs, s :: ss, j + 1, a, v, h1, h2 => by
        have ih : a ∈ ioOf xs ss := ioOf_at (j := j) (v := v) (by simpa using h1) (by simpa using h2)
        cases x with
        | ref b =>
          cases s with
          | ow w => exact List.mem_cons_of_mem _ ih
          | fz w => exact ih
          | un => exact ih
        | _ => cases s <;> exact ih
theorem kp_setV {is : List Nat} : ∀ {xs : List V} {σ : L2.St}, (∀ i ∈ is, i ∉ pr) → Kp pr σ (setV is xs σ) := by
  induction is with
  | nil => intro xs σ _; exact Kp.refl pr σ
  | cons i is ih =>
    intro xs σ h
    cases xs with
    | nil => exact Kp.refl pr σ
    | cons x xs => exact (kp_set (h i List.mem_cons_self)).trans (ih fun j hj => h j (List.mem_cons_of_mem _ hj))
theorem par_red {is : List Nat} {es : List Ex} {D : Ends} {σ : L2.St} {H : Hp} (hp : ∀ i ∈ is, i ∉ pr) (q : tS X W T cal mkc pr (.par is es) D σ H) : tSl X W T cal mkc es σ H fun vs H1 => vs.length = is.length ∧ D.nx (setV is vs σ) H1 := by
  obtain ⟨G, Z, F, ρ, A, q⟩ := q
  refine ⟨G, Z, F, ρ, A, (AftS.bnd q).imp fun F1 H1 ρ1 rs A1 e1 q1 xs rx => ?_⟩
  cases hm : setAll is rs ρ1 with
  | none => rw [hm] at q1; exact q1.elim
  | some ρ2 =>
    rw [hm] at q1
    refine ⟨?_, AftS.nxK q1 (abs_setAll A1 rx.all rx.ap hm) (kp_setV hp)⟩
    have l1 := rx.all.length
    have l2 : ∀ (is : List Nat) (rs : List Slot) (ρ ρ2 : Ro), setAll is rs ρ = some ρ2 → rs.length = is.length := by
      intro is
      induction is with
      | nil => intro rs ρ ρ2 h; cases rs <;> simp [setAll] at h ⊢
      | cons i is ih =>
        intro rs ρ ρ2 h
        cases rs with
        | nil => simp [setAll] at h
        | cons r rs =>
          simp only [setAll] at h
          split at h
          · simp [ih _ _ _ h]
          · cases h
    rw [l1]; exact l2 _ _ _ _ hm
theorem sS_par {i j : Nat} {x y : Str} {xs : List Ex} {px py pt pt2 : Pos} {kt k2} (hp : ∀ l ∈ [i, j], l ∉ pr) (hc : X.calm = true) (hN : X.N.Nodup) (hi : X.N[i]? = some x) (hj : X.N[j]? = some y) (hij : i ≠ j) (hx : X.env.scope.names.lookup x = some .local) (hy : X.env.scope.names.lookup y = some .local) (ha : PA X [a, b] (tSl X W T cal mkc xs))
    (hw : swappedStores [.Tuple [.Name x px, .Name y py] kt pt] (.Tuple [a, b] k2 pt2) X.env = pure (some [x, y])) (hs : swapsWithSole [.Tuple [.Name x px, .Name y py] kt pt] (.Tuple [a, b] k2 pt2) pos.line X.env = pure false := by rfl) :
    PS X (.Assign [.Tuple [.Name x px, .Name y py] kt pt] (.Tuple [a, b] k2 pt2) pos) (tS X W T cal mkc pr (.par [i, j] xs)) := by
  refine (ps_par hc hN hi hj hij hx hy ha hw hs).imp fun D σ H q => ?_
  obtain ⟨G, Z, F, ρ, A, q⟩ := par_red hp q
  refine ⟨G, Z, F, ρ, A, q.imp fun F1 H1 ρ1 rs A1 e1 q1 xs rx => ?_⟩
  obtain ⟨hl, q1⟩ := q1 xs rx
  match xs, hl, q1 with
  | [v, w], _, q1 => exact ⟨v, w, rfl, q1⟩
end
end EV
namespace EV
open PySem PySem.Spec PyProof.Rows L2
section
variable {pr : List Nat} {X : Cx} {W : WX} {T : Tab} {cal mkc : Cal} {a b c e tg : Expr} {ea eb ec ek : Ex} {pos p : Pos} {kr : Nat}
/-- what stands at a place changes -/
theorem Abs.wrO {G Z F : Hp} {σ : L2.St} {H : Hp} {ρ : Ro} {i : Nat} {q : Addr} {v r : Val} {ob : HO} (A : Abs X.K X.mg G Z F σ H ρ) (hρ : ρ[i]? = some (.ow v)) (hσ : σ[i]? = some (some (.ref q))) (o : Own X.K X.mg F (upd H q ob) q r) : Abs X.K X.mg G Z F σ (upd H q ob) (ρ.set i (.ow r)) := by
  have hi : i < ρ.length := (List.getElem?_eq_some_iff.mp hρ).1
  obtain ⟨q', h1, hG, o0⟩ := A.ow i v hρ
  rw [hσ] at h1; cases h1
  have hF := o0.no
  refine ⟨fun a u z => ?_, fun a u z => ?_, A.f0, A.nw, by rw [List.length_set]; exact A.len, fun j w z => ?_, fun j w z => ?_, fun j k b w w' hjk z z' s s' => ?_⟩
  · rw [upd_ne (fun y => by rw [y, hF] at z; cases z)]; exact A.sub a u z
  · rw [upd_ne (fun y => by rw [y, hG] at z; cases z)]; exact A.bg a u z
  · rw [set_get hi] at z
    by_cases hj : j = i
    · rw [if_pos hj] at z; cases z
    · rw [if_neg hj] at z; exact A.fz j w z
  · rw [set_get hi] at z
    by_cases hj : j = i
    · rw [if_pos hj] at z; cases z
      rw [hj]; exact ⟨q, hσ, hG, o⟩
    · rw [if_neg hj] at z
      obtain ⟨b, h1, h2, h3⟩ := A.ow j w z
      have hb : b ≠ q := fun y => A.ap i j q v w (Ne.symm hj) hρ z hσ (by rw [← y]; exact h1)
      exact ⟨b, h1, h2, h3.keep (Ex'.refl F) h3.no (upd_ne hb)⟩
  · have old : ∀ {j : Nat} {w : Val}, (ρ.set i (.ow r))[j]? = some (.ow w) → ∃ w, ρ[j]? = some (.ow w) := fun {j w} z => by
      rw [set_get hi] at z
      by_cases hj : j = i
      · rw [hj]; exact ⟨v, hρ⟩
      · rw [if_neg hj] at z; exact ⟨w, z⟩
    obtain ⟨w1, z1⟩ := old z
    obtain ⟨w2, z2⟩ := old z'
    exact A.ap j k b w1 w2 hjk z1 z2 s s'
theorem own_at {ρ : Ro} {i : Nat} {v : Val} (h : ownAt i ρ = some v) : ρ[i]? = some (.ow v) := by
  unfold ownAt at h
  split at h
  · rename_i w hw; cases h; exact hw
  · cases h
theorem own_is {ρ : Ro} {i : Nat} (h : ¬ (!(ownAt i ρ).isSome) = true) : ∃ v, ρ[i]? = some (.ow v) := by
  cases q : ownAt i ρ with
  | none => rw [q] at h; exact absurd rfl h
  | some v => exact ⟨v, own_at q⟩
/-- a store into what stands at a place -/
theorem sub_red {G Z F : Hp} {σ : L2.St} {H : Hp} {ρ : Ro} {i : Nat} {x : Val} {y : V} {Q : L2.St → Hp → Prop} {k : Res Fl} {D : Ends} (A : Abs X.K X.mg G Z F σ H ρ) (rx : Rep X.K X.mg F y x) {f : Val → Ro → Res Fl}
    (h : AftS X W pr σ G Z F (if !(ownAt i ρ).isSome then none else EV.bnd (opnd ek (evE T cal mkc ek) ρ) fun z ρ3 => match (ownAt i ρ3).bind fun u => (z.val ρ3).bind fun w => setF u w x with
      | some v => f v ρ3
      | none => none) D)
    (hk : ∀ F' H' ρ3 v (ob : Addr × HO), Abs X.K X.mg G Z F' σ (upd H' ob.1 ob.2) (ρ3.set i (.ow v)) → Ex' F F' → AftS X W pr σ G Z F' (f v ρ3) D → Q σ (upd H' ob.1 ob.2)) : gSub (tVar i) (tO X.K X.mg W T cal mkc ek) (rSetV X.K X.mg) y σ H Q := by
  split at h
  · exact h.elim
  · rename_i hs
    obtain ⟨v0, hv0⟩ := own_is hs
    obtain ⟨q, hq, hG, o⟩ := A.ow i v0 hv0
    refine ⟨.ref q, hq, G, Z, F, ρ, A, (AftS.bnd h).imp fun F1 H1 ρ1 z A1 e1 h1 vz rz => ?_⟩
    cases hm : ((ownAt i ρ1).bind fun u => (z.val ρ1).bind fun w => setF u w x) with
    | none => rw [hm] at h1; exact h1.elim
    | some r =>
      rw [hm] at h1
      obtain ⟨u, hu, hm⟩ := Option.bind_eq_some_iff.mp hm
      obtain ⟨w, hw, hm⟩ := Option.bind_eq_some_iff.mp hm
      have hu := own_at hu
      obtain ⟨q', hq', _, o1⟩ := A1.ow i u hu
      rw [hq] at hq'; cases hq'
      exact ⟨F1, q, u, w, x, r, rfl, A1.sub, o1, OpdR.read A1 rz hw, rx.mono e1, hm, fun ob o2 => hk F1 H1 ρ1 r (q, ob) (A1.wrO hu hq o2) e1 h1⟩
theorem sS_sub {o i : Expr} {j : Nat} {p2 : Pos} (hr : Room kr X.A) (ho : PE X o (tVar j)) (hi : PE X i (tO X.K X.mg W T cal mkc ek)) (he : PE X e (tE X.K X.mg W T cal mkc ea))
    (ha : ∀ v, assign (.Subscript o i p2) X.env v = (do
      let ov ← holding [v] (eval o X.env)
      let iv ← holding [v, ov] (eval i X.env)
      standAt p2
      holding [v, ov, iv] (setItem ov iv v)
      release [v, ov, iv] []) := by intro _; rfl)
    (hs : swapsWithSole [.Subscript o i p2] e pos.line X.env = pure false := by rfl) (hw : swappedStores [.Subscript o i p2] e X.env = pure none := by rfl) (h1 : (assignEach [.Subscript o i p2] X.env).map (·.2) = [assign (.Subscript o i p2) X.env] := by rfl) :
    PS X (.Assign [.Subscript o i p2] e pos) (tS X W T cal mkc pr (.sub j ek ea)) := by
  refine (ps_asg (pe_fix he) (pg_sub ho hi (set_val hr) ha) hs hw h1).imp fun D σ H q => ?_
  obtain ⟨G, Z, F, ρ, A, q⟩ := q
  have e1 : evS T cal mkc (.sub j ek ea) ρ = EV.bnd (EV.bnd (evE T cal mkc ea ρ) fixv) fun x ρ2 => if !(ownAt j ρ2).isSome then none else EV.bnd (opnd ek (evE T cal mkc ek) ρ2) fun y ρ3 => match (ownAt j ρ3).bind fun u => (y.val ρ3).bind fun w => setF u w x with
      | some v => EV.pur .nx (ρ3.set j (.ow v))
      | none => none := by rw [bnd_assoc]; rfl
  rw [e1] at q
  refine ⟨G, Z, F, ρ, A, (AftS.bnd q).imp fun F1 H1 ρ1 x A1 e1 q1 y ry => ?_⟩
  exact sub_red (k := none) (f := fun v ρ3 => EV.pur .nx (ρ3.set j (.ow v))) A1 ry q1 fun F' H' ρ3 v ob A' e' q' => AftS.nx q' A'
theorem sS_subp {o i : Expr} {j l : Nat} {x : Str} {p2 px pt : Pos} {kt : Nat} (hp : l ∉ pr) (hc : X.calm = true) (hN : X.N.Nodup) (hl : X.N[l]? = some x) (hx : Loc X.env.scope x) (hr : Room kr X.A) (ho : PE X o (tVar j)) (hi : PE X i (tO X.K X.mg W T cal mkc ek)) (he : PE X e (tE X.K X.mg W T cal mkc ea))
    (ha : ∀ v, assign (.Subscript o i p2) X.env v = (do
      let ov ← holding [v] (eval o X.env)
      let iv ← holding [v, ov] (eval i X.env)
      standAt p2
      holding [v, ov, iv] (setItem ov iv v)
      release [v, ov, iv] []) := by intro _; rfl)
    (hf : X.fn x = true ∨ X.env.scope.names.lookup x = some .local := by first | exact .inl rfl | exact .inr rfl | assumption)
    (ht1 : (assignEach [.Subscript o i p2, .Name x px] X.env).map (·.2) = assign (.Subscript o i p2) X.env :: (assignEach [.Name x px] X.env).map (·.2) := by rfl) (ht2 : (assignEach [.Name x px] X.env).map (·.2) = assign (.Name x px) X.env :: (assignEach [] X.env).map (·.2) := by rfl)
    (hn : (assignEach [.Subscript o i p2, .Name x px] X.env).length = 2 := by rfl) (hst : (assignEach [.Subscript o i p2, .Name x px] X.env).findIdx? (·.1) = none := by rfl)
    (hs : swapsWithSole [.Tuple [.Subscript o i p2, .Name x px] kt pt] e pos.line X.env = pure false := by rfl) (hw : swappedStores [.Tuple [.Subscript o i p2, .Name x px] kt pt] e X.env = pure none := by rfl) (h1 : (assignEach [.Tuple [.Subscript o i p2, .Name x px] kt pt] X.env).map (·.2) = [assign (.Tuple [.Subscript o i p2, .Name x px] kt pt) X.env] := by rfl) :
    PS X (.Assign [.Tuple [.Subscript o i p2, .Name x px] kt pt] e pos) (tS X W T cal mkc pr (.subp j ek l ea)) := by
  refine (ps_asg he (pg_tup hc (pgs_cons (pg_sub ho hi (set_val hr) ha) (pgs_cons (pg_name hN hl hx hf) pgs_nil ht2) ht1) hn hst) hs hw h1).imp fun D σ H q => ?_
  obtain ⟨G, Z, F, ρ, A, q⟩ := q
  refine ⟨G, Z, F, ρ, A, (AftS.bnd q).imp fun F1 H1 ρ1 r A1 e1 q1 y ry => ?_⟩
  split at q1
  · rename_i u w
    have ry : Rep X.K X.mg F1 y (.tup [u, w]) := ry
    cases ry with
    | @tup ad xs _ s1 r1 =>
      cases r1 with
      | @cons x1 xs1 _ _ ra r1 =>
        cases r1 with
        | @cons x2 xs2 _ _ rb r1 =>
          cases r1
          refine ⟨ad, _, rfl, .inl (.inl (A1.sub _ _ s1)), rfl, x1, [x2], rfl, ?_⟩
          refine sub_red (k := none) (f := fun v ρ3 => if l < ρ3.length ∧ j ≠ l then EV.pur .nx ((ρ3.set j (.ow v)).set l (.fz w)) else none) A1 ra q1 fun F' H' ρ3 v ob A' e' q' => ?_
          refine ⟨x2, [], rfl, ?_⟩
          split at q'
          · rename_i hc
            exact ⟨rfl, AftS.nxK q' (A'.set (x := x2) (r := .fz w) (rb.mono e') (by rw [List.length_set]; exact hc.1)) (kp_set hp)⟩
          · exact q'.elim
  · exact q1.elim
end
end EV
namespace EV
open PySem PySem.Spec PyProof.Rows L2
section
variable {pr : List Nat} {X : Cx} {W : WX} {T : Tab} {cal mkc : Cal} {a b c e tg : Expr} {ea eb ec ek : Ex} {pos p : Pos} {kr : Nat}
/-! x += e -/
def rAug (K : PySem.W.Frag) (mg : Str → Option Value) : TIp := fun x y H Q => ∃ F u w, Ex' F H ∧ RepB K mg F H x u ∧ RepB K mg F H y w ∧ ((∃ n, binF .add u w = some (.fz (.int n)) ∧ Q (.int n) H) ∨ ∃ l, binF .add u w = some (.fz (.str l)) ∧ Q (.str (toS l)) H)
theorem ip_aug : PIp X .Add (rAug X.K X.mg) := by
  intro pins s σ H x y v u Q I r1 r2 h
  obtain ⟨F, a, b, e, ra, rb, h⟩ := h
  rcases h with ⟨n, hb, q⟩ | ⟨l, hb, q⟩
  · cases ra with
    | int i =>
      cases rb with
      | int j =>
        simp only [binF] at hb
        cases hb
        exact ip_add pins s σ H _ _ v u Q I r1 r2 ⟨i, j, rfl, rfl, q⟩
      | _ => simp only [binF] at hb; cases hb
    | str _ => cases rb <;> simp only [binF] at hb <;> first | cases hb | (split at hb <;> cases hb)
    | lst _ _ => cases rb <;> simp only [binF] at hb <;> first | cases hb | (split at hb <;> cases hb)
    | tup _ _ => cases rb <;> simp only [binF] at hb <;> first | cases hb | (split at hb <;> cases hb)
    | _ => simp only [binF] at hb; cases hb
  · cases ra with
    | str i =>
      cases rb with
      | str j =>
        simp only [binF] at hb
        split at hb
        · rename_i hc
          cases hb
          obtain ⟨t, rfl⟩ := r1
          obtain ⟨t', rfl⟩ := r2
          exact SB.iadd (fun t2 k => ⟨.str (toS (i ++ j)), H, I.tok _, ⟨t2, by rw [toS_app]⟩, q⟩) (by rw [toS_len, toS_len]; exact cap_line hc)
        · cases hb
      | _ => simp only [binF] at hb; cases hb
    | int _ => cases rb <;> simp only [binF] at hb <;> first | cases hb | (split at hb <;> cases hb)
    | lst _ _ => cases rb <;> simp only [binF] at hb <;> first | cases hb | (split at hb <;> cases hb)
    | tup _ _ => cases rb <;> simp only [binF] at hb <;> first | cases hb | (split at hb <;> cases hb)
    | _ => simp only [binF] at hb; cases hb
theorem sS_aug {i : Nat} {x : Str} (hp : i ∉ pr) (hN : X.N.Nodup) (hi : X.N[i]? = some x) (hx : Loc X.env.scope x) (he : PE X e (tO X.K X.mg W T cal mkc ea)) (hf : X.fn x = true ∨ X.env.scope.names.lookup x = some .local := by first | exact .inl rfl | exact .inr rfl | assumption) :
    PS X (.AugAssign (.Name x p) .Add e pos) (tS X W T cal mkc pr (.aug i ea)) := by
  refine (ps_aug hN hi hx he ip_aug hf).imp fun D σ H q => ?_
  obtain ⟨G, Z, F, ρ, A, q⟩ := q
  have q : AftS X W pr σ G Z F (if !((ρ[i]?).bind Slot.val).isSome then none else EV.bnd (opnd ea (evE T cal mkc ea) ρ) fun y ρ1 => match ((ρ1[i]?).bind Slot.val).bind fun u => (y.val ρ1).bind (binF .add u) with
    | some (.fz (.int n)) => EV.pur .nx (ρ1.set i (.fz (.int n)))
    | some (.fz (.str l)) => EV.pur .nx (ρ1.set i (.fz (.str l)))
    | _ => none) D := q
  split at q
  · exact q.elim
  · rename_i hs
    have hv : ∃ y, σ[i]? = some (some y) := by
      cases z : ρ[i]? with
      | none => rw [z] at hs; exact absurd rfl hs
      | some s =>
        cases s with
        | un => rw [z] at hs; exact absurd rfl hs
        | fz v => obtain ⟨y, h, _⟩ := A.fz i v z; exact ⟨y, h⟩
        | ow v => obtain ⟨y, h, _⟩ := A.ow i v z; exact ⟨_, h⟩
    obtain ⟨xv, hxv⟩ := hv
    refine ⟨xv, hxv, G, Z, F, ρ, A, (AftS.bnd q).imp fun F1 H1 ρ1 y A1 e1 q1 vy ry => ?_⟩
    cases hm : (((ρ1[i]?).bind Slot.val).bind fun u => (y.val ρ1).bind (binF .add u)) with
    | none => rw [hm] at q1; exact q1.elim
    | some r =>
      rw [hm] at q1
      obtain ⟨u, hu, hm⟩ := Option.bind_eq_some_iff.mp hm
      obtain ⟨w, hw, hm⟩ := Option.bind_eq_some_iff.mp hm
      have hil : i < ρ1.length := by
        cases z : ρ1[i]? with
        | none => rw [z] at hu; cases hu
        | some s => exact (List.getElem?_eq_some_iff.mp z).1
      have rb : RepB X.K X.mg F1 H1 xv u := OpdR.read (o := .pl i) A1 hxv hu
      refine ⟨F1, u, w, A1.sub, rb, OpdR.read A1 ry hw, ?_⟩
      cases r with
      | un => exact q1.elim
      | ow _ => exact q1.elim
      | fz v =>
        cases v with
        | int n => exact .inl ⟨n, hm, AftS.nxK q1 (A1.set (x := .int n) (r := .fz (.int n)) (Rep.int n) hil) (kp_set hp)⟩
        | str l => exact .inr ⟨l, hm, AftS.nxK q1 (A1.set (x := .str (toS l)) (r := .fz (.str l)) (Rep.str l) hil) (kp_set hp)⟩
        | _ => exact q1.elim
/-! self.f = e -/
theorem RepF.put {K : PySem.W.Frag} {mg : Str → Option Value} {F : Hp} {f : String} {y : V} {v : Val} (ry : Rep K mg F y v) : ∀ {xs : List (Str × V)} {fs : List (String × Val)}, RepF K mg F xs fs → RepF K mg F (putF (Str.ofString f) y xs) (putFs f v fs)
  | _, _, .nil => .cons ry .nil
  | _, _, .cons (f := g) a r => by
    simp only [putF, putFs]
    by_cases h : g = f
    · subst h; rw [if_pos rfl, if_pos rfl]; exact .cons ry r
    · rw [if_neg h, if_neg (fun z => h (ofString_inj z))]; exact .cons a (RepF.put ry r)
theorem RepF.length {K : PySem.W.Frag} {mg : Str → Option Value} {F : Hp} : ∀ {xs : List (Str × V)} {fs : List (String × Val)}, RepF K mg F xs fs → xs.length = fs.length
  | _, _, .nil => rfl
  | _, _, .cons a r => by simp [RepF.length r]
theorem sS_setf {o : Expr} {i : Nat} {f : String} {p2 : Pos} (ho : PE X o (tVar i)) (he : PE X e (tE X.K X.mg W T cal mkc ea)) (hf : ∀ c, T.fld c f = true → Cls X.K (GH.clsA X.mg (Str.ofString c)) ∧ NoAttr X.K (GH.clsA X.mg (Str.ofString c)) (Str.ofString f)) (hs : swapsWith e (some (.Attribute o (Str.ofString f) p2)) pos.line X.env = pure false) :
    PS X (.Assign [.Attribute o (Str.ofString f) p2] e pos) (tS X W T cal mkc pr (.setf i f ea)) := by
  refine (ps_fld ho (pe_fix he) hs).imp fun D σ H q => ?_
  obtain ⟨G, Z, F, ρ, A, q⟩ := q
  have e1 : evS T cal mkc (.setf i f ea) ρ = EV.bnd (EV.bnd (evE T cal mkc ea ρ) fixv) fun x ρ2 => match ownAt i ρ2 with
    | some (.obj c fs) => if fs.length < 20 ∧ T.fld c f = true then EV.pur .nx (ρ2.set i (.ow (.obj c (putFs f x fs)))) else none
    | _ => none := by rw [bnd_assoc]; rfl
  rw [e1] at q
  refine ⟨G, Z, F, ρ, A, (AftS.bnd q).imp fun F1 H1 ρ1 x A1 e1 q1 y ry => ?_⟩
  cases hm : ownAt i ρ1 with
  | none => rw [hm] at q1; exact q1.elim
  | some u =>
    rw [hm] at q1
    cases u with
    | obj c fs =>
      have hρ := own_at hm
      obtain ⟨q, hq, hG, o⟩ := A1.ow i _ hρ
      have q1 : AftS X W pr σ G Z F1 (if fs.length < 20 ∧ T.fld c f = true then EV.pur .nx (ρ1.set i (.ow (.obj c (putFs f x fs)))) else none) D := q1
      split at q1
      · rename_i hc
        obtain ⟨c1, c2⟩ := hf c hc.2
        cases o with
        | @obj dx _ xs _ n h r =>
          refine ⟨_, hq, q, _, dx, xs, rfl, h, c1, c2, by rw [r.length]; omega, ?_⟩
          exact AftS.nx q1 (A1.wrO hρ hq (.obj n upd_same (RepF.put ry r)))
      · exact q1.elim
    | _ => exact q1.elim
/-! try: where nothing is raised -/
theorem sS_try {body : List Stmt} {h₀ : ExceptHandler} {hs : List ExceptHandler} {xa xb : List Sx} {cs : List String} {n : Option Nat} (hb : PSs X.nox body (tSs X W0 T cal mkc pr xa)) : PS X (.Try body (h₀ :: hs) [] [] pos) (tS X W T cal mkc pr (.tri xa cs n xb)) := by
  refine (ps_try_thru0 hb).imp fun D σ H q => ?_
  obtain ⟨G, Z, F, ρ, A, q⟩ := q
  refine ⟨G, Z, F, ρ, A, ?_⟩
  have q : AftS X W pr σ G Z F (quiet (evSs T cal mkc xa ρ)) D := q
  cases hm : evSs T cal mkc xa ρ with
  | none => rw [hm] at q; exact q.elim
  | some o =>
    rw [hm] at q
    cases o with
    | ex e ρ' => exact q.elim
    | ok f ρ' =>
      cases f with
      | nx => exact q
      | rt r => exact q
end
end EV
namespace EV
open PySem PySem.Spec PyProof.Rows L2
section
variable {pr : List Nat} {X : Cx} {W : WX} {T : Tab} {cal mkc : Cal} {a b c e o tg : Expr} {ea eb ec ek : Ex} {pos p : Pos} {kr : Nat}
/-! methods that change what stands at a place -/
def rMut (K : PySem.W.Frag) (mg : Str → Option Value) (m : Mu) : V → List V → Hp → VK → Prop := fun x xs H Q => ∃ F q u ws r, x = .ref q ∧ Ex' F H ∧ Own K mg F H q u ∧ Reps K mg F xs ws ∧ mutF m u ws = some r ∧ ∀ ob, Own K mg F (upd H q ob) q r → Q .non (upd H q ob)
theorem mv_append : MtM X "list.append" (rMut X.K X.mg .append) := by
  intro pins s σ H x vs v us Q I rx rv h
  obtain ⟨F, q, u, ws, r, rfl, e, ow, rws, hm, k⟩ := h
  refine mt_append pins s σ H _ vs v us Q I rx rv ?_
  cases ow with
  | @lst xs zs n h1 r1 =>
    cases rws with
    | nil => simp [mutF] at hm
    | @cons y ys w ws ry rws =>
      cases rws with
      | nil =>
        simp only [mutF] at hm
        split at hm
        · rename_i hc
          cases hm
          refine ⟨q, xs, y, rfl, rfl, h1, ?_, k _ (.lst n upd_same (r1.app (.cons ry .nil)))⟩
          have : sizeLine = 16777216 := rfl
          have := r1.length
          unfold cap at hc
          omega
        · cases hm
      | cons _ _ => simp [mutF] at hm
  | dk n h1 r1 => simp [mutF] at hm
  | dt n h1 r1 => simp [mutF] at hm
  | obj n h1 r1 => simp [mutF] at hm
theorem mv_extend : MtM X "list.extend" (rMut X.K X.mg .extend) := by
  intro pins s σ H x vs v us Q I rx rv h
  obtain ⟨F, q, u, ws, r, rfl, e, ow, rws, hm, k⟩ := h
  refine mt_extend pins s σ H _ vs v us Q I rx rv ?_
  cases ow with
  | @lst xs zs n h1 r1 =>
    cases rws with
    | nil => simp [mutF] at hm
    | @cons y ys w ws ry rws =>
      cases rws with
      | nil =>
        cases ry with
        | @lst b ys ks s2 r2 =>
          simp only [mutF] at hm
          split at hm
          · rename_i hc
            cases hm
            refine ⟨q, b, xs, ys, rfl, rfl, h1, e _ _ s2, ?_, k _ (.lst n upd_same (r1.app r2))⟩
            have : sizeLine = 16777216 := rfl
            have := r1.length
            have := r2.length
            unfold cap at hc
            omega
          · cases hm
        | _ => simp [mutF] at hm
      | cons _ _ => cases ry <;> simp [mutF] at hm
  | dk n h1 r1 => simp [mutF] at hm
  | dt n h1 r1 => simp [mutF] at hm
  | obj n h1 r1 => simp [mutF] at hm
def rUpdR : V → List V → Hp → VK → Prop := fun x xs H Q => ∃ (d o : Addr) (kvs more : List (Key × V)), x = .ref d ∧ xs = [.ref o] ∧ H d = some (.dK kvs) ∧ (Rd H o (.dK more) ∨ (more = [] ∧ Rd H o (.dT []))) ∧ d ≠ o ∧ kvs.length + more.length ≤ 1000 ∧ Q .non (upd H d (.dK (mergeK kvs more)))
theorem mt_updateR : MtR X "dict.update" rUpdR := by
  intro pins s σ H x xs v us Q I rx rxs h
  obtain ⟨d, o, kvs, more, rfl, rfl, e1, e2, hne, hz, q⟩ := h
  obtain rfl : v = Value.ref d := rx
  obtain ⟨u, rfl, ru⟩ := rxs.one
  obtain rfl : u = Value.ref o := ru
  obtain ⟨z1, l1, vs1, r1, d1⟩ := dk_of I.hok e1
  obtain ⟨l2, vs2, r2, d2⟩ : (o == sysModules) = false ∧ ∃ vs2, KV more vs2 ∧ s.heap.DictOf (mixKind X.prog X.w) o vs2 := by
    rcases e2 with e2 | ⟨rfl, e2⟩
    · obtain ⟨_, l2, vs2, r2, d2⟩ := dk_rd I.hok e2
      exact ⟨l2, vs2, r2, d2⟩
    · obtain ⟨_, l2, xs2, r2, d2⟩ := dt_rd I.hok e2
      cases r2
      exact ⟨l2, [], .nil, toK0 d2⟩
  have hl : (mergeK kvs more).length ≤ sizeLine := by
    have := length_mergeK more kvs
    rw [sizeLine_eq]; omega
  refine call_meetsIn PySem.F.slot_dict_update d1.typeIs PySem.F.entry_dict_update (PySem.F.args_dict_update_2 _ _) (meets_dict_update (mixKind X.prog X.w) d o hne l2) ⟨vs1, vs2, d1, d2, ?_, fun h' dd' _ hs => ?_⟩
  · rw [← r1.length, ← r2.length, sizeLine_eq]; omega
  · have he : ∃ q, h'.get? d = some q := let ⟨q, _, _, hq, _⟩ := dd'; ⟨q, hq⟩
    exact ⟨.non, _, d_write (t' := s.toks) I (by rw [e1]; exact True.intro) hs he (dk_new hl l1 (r2.merge r1) dd'), rfl, q⟩
theorem repK_merge {K : PySem.W.Frag} {mg : Str → Option Value} {F : Hp} : ∀ {ms : List (Key × V)} {more : List (Val × Val)}, RepK K mg F ms more → ∀ {ks : List (Key × V)} {kvs : List (Val × Val)}, RepK K mg F ks kvs → RepK K mg F (mergeK ks ms) (more.foldl (fun acc p => EV.put acc p.1 p.2) kvs)
  | _, _, .nil, _, _, r => r
  | _, _, .cons (k := k) a r, _, _, r0 => repK_merge r (RepK.put (k := k) r0 a)
theorem mv_update : MtM X "dict.update" (rMut X.K X.mg .update) := by
  intro pins s σ H x vs v us Q I rx rv h
  obtain ⟨F, q, u, ws, r, rfl, e, ow, rws, hm, k⟩ := h
  have more : ∃ b w, vs = [.ref b] ∧ ws = [.dct w] ∧ ((∃ od ms, F b = some (.frz od (.dK ms)) ∧ RepK X.K X.mg F ms w) ∨ (∃ od ms, F b = some (.frz od (.dT ms)) ∧ RepT X.K X.mg F ms w)) := by
    cases rws with
    | nil => cases u <;> simp [mutF] at hm
    | @cons y ys w ws ry rws =>
      cases rws with
      | nil =>
        cases ry with
        | dk s1 r1 => exact ⟨_, _, rfl, rfl, .inl ⟨_, _, s1, r1⟩⟩
        | dt s1 r1 => exact ⟨_, _, rfl, rfl, .inr ⟨_, _, s1, r1⟩⟩
        | _ => cases u <;> simp [mutF] at hm
      | cons _ _ => cases u <;> cases ry <;> simp [mutF] at hm
  obtain ⟨b, w, rfl, rfl, hb⟩ := more
  have hne : q ≠ b := fun z => by
    have := ow.no
    rcases hb with ⟨od, ms, s1, _⟩ | ⟨od, ms, s1, _⟩ <;> rw [z, s1] at this <;> cases this
  have key : ∀ {kvs : List (Val × Val)}, u = .dct kvs → ∃ r', (kvs.length + w.length ≤ 1000 ∧ (w.all fun p => keyOk p.1) = true ∧ (kvs.all fun p => keyOk p.1) = true) ∧ r = .dct r' ∧ r' = w.foldl (fun a p => put a p.1 p.2) kvs := fun {kvs} z => by
    subst z
    simp only [mutF] at hm
    split at hm
    · rename_i hc
      cases hm
      simp only [Bool.and_eq_true, decide_eq_true_eq] at hc
      exact ⟨_, ⟨hc.1.1, hc.1.2, hc.2⟩, rfl, rfl⟩
    · cases hm
  have mr : ∀ {kvs : List (Val × Val)}, (w.all fun p => keyOk p.1) = true → ∃ ms, (Rd H b (.dK ms) ∨ (ms = [] ∧ Rd H b (.dT []))) ∧ RepK X.K X.mg F ms w := fun {kvs} hk => by
    rcases hb with ⟨od, ms, s1, r1⟩ | ⟨od, ms, s1, r1⟩
    · exact ⟨ms, .inl (.inr ⟨od, e _ _ s1⟩), r1⟩
    · cases r1 with
      | nil => exact ⟨[], .inr ⟨rfl, .inr ⟨od, e _ _ s1⟩⟩, .nil⟩
      | cons _ _ => simp [keyOk] at hk
  cases ow with
  | @dk ks kvs n h1 r1 =>
    obtain ⟨r', ⟨hl, hw, hk⟩, rfl, hr'⟩ := key rfl
    obtain ⟨ms, hms, rms⟩ := mr (kvs := kvs) hw
    refine mt_updateR pins s σ H _ _ v us Q I rx rv ⟨q, b, ks, ms, rfl, rfl, h1, hms, hne, by rw [r1.length, rms.length]; exact hl, k _ (.dk n upd_same (by rw [hr']; exact repK_merge rms r1))⟩
  | @dt ks kvs n h1 r1 =>
    obtain ⟨r', ⟨hl, hw, hk⟩, rfl, hr'⟩ := key rfl
    cases r1 with
    | cons _ _ => simp [keyOk] at hk
    | nil =>
      obtain ⟨ms, hms, rms⟩ := mr (kvs := []) hw
      have I' := seeK I h1
      have hms' : Rd (upd H q (.dK [])) b (.dK ms) ∨ (ms = [] ∧ Rd (upd H q (.dK [])) b (.dT [])) := by
        rcases hms with (z | ⟨od, z⟩) | ⟨z0, (z | ⟨od, z⟩)⟩
        · exact .inl (.inl (by rw [upd_ne (Ne.symm hne)]; exact z))
        · exact .inl (.inr ⟨od, by rw [upd_ne (Ne.symm hne)]; exact z⟩)
        · exact .inr ⟨z0, .inl (by rw [upd_ne (Ne.symm hne)]; exact z)⟩
        · exact .inr ⟨z0, .inr ⟨od, by rw [upd_ne (Ne.symm hne)]; exact z⟩⟩
      refine mt_updateR pins s σ _ _ _ v us Q I' rx rv ⟨q, b, [], ms, rfl, rfl, upd_same, hms', hne, by have := rms.length; simp at hl ⊢; omega, ?_⟩
      rw [upd_upd]
      exact k _ (.dk n upd_same (by rw [hr']; exact repK_merge rms .nil))
  | lst n h1 r1 => simp [mutF] at hm
  | obj n h1 r1 => simp [mutF] at hm
theorem mut_red {TN : String} {m : Mu} {i : Nat} {es : List Ex} {D : Ends} {σ : L2.St} {H : Hp} (hT : ∀ F q u, Own X.K X.mg F H q u → mutK m u = true → tyV X.K TN (.ref q) H) (q : tS X W T cal mkc pr (.mut i m es) D σ H) :
    tDrop (tBM X.K TN (rMut X.K X.mg m) (tVar i) (tAs X.K X.mg W T cal mkc es)) D σ H := by
  obtain ⟨G, Z, F, ρ, A, q⟩ := q
  have q : AftS X W pr σ G Z F (if !((ownAt i ρ).map (mutK m)).getD false then none else EV.bnd (evEs T cal mkc es ρ) fun vs ρ1 => match (ownAt i ρ1).bind fun u => mutF m u vs with
    | some v => EV.pur .nx (ρ1.set i (.ow v))
    | none => none) D := q
  split at q
  · exact q.elim
  · rename_i hs
    cases hm : ownAt i ρ with
    | none => rw [hm] at hs; exact absurd rfl hs
    | some u0 =>
      rw [hm] at hs
      have hs : mutK m u0 = true := by
        cases z : mutK m u0 with
        | true => rfl
        | false => exact absurd (by simp [z]) hs
      obtain ⟨q0, hq, hG, o0⟩ := A.ow i u0 (own_at hm)
      refine ⟨.ref q0, hq, hT F q0 u0 o0 hs, G, Z, F, ρ, A, (AftS.bnd q).imp fun F1 H1 ρ1 vs A1 e1 q1 xs rxs => ?_⟩
      cases hm : ((ownAt i ρ1).bind fun u => mutF m u vs) with
      | none => rw [hm] at q1; exact q1.elim
      | some r =>
        rw [hm] at q1
        obtain ⟨u, hu, hm⟩ := Option.bind_eq_some_iff.mp hm
        have hu := own_at hu
        obtain ⟨q', hq', _, o1⟩ := A1.ow i u hu
        rw [hq] at hq'; cases hq'
        exact ⟨F1, q0, u, vs, r, rfl, A1.sub, o1, rxs, hm, fun ob o2 => AftS.nx q1 (A1.wrO hu hq o2)⟩
theorem ty_lst {m : Mu} {F H : Hp} {q : Addr} {u : Val} (o : Own X.K X.mg F H q u) (h : mutK m u = true) (hm : m = .append ∨ m = .extend) : tyV X.K "list" (.ref q) H := by
  cases o with
  | lst n h1 r => exact .inl ⟨rfl, _, .inl (.inl h1)⟩
  | dk n h1 r => rcases hm with rfl | rfl <;> simp [mutK] at h
  | dt n h1 r => rcases hm with rfl | rfl <;> simp [mutK] at h
  | obj n h1 r => rcases hm with rfl | rfl <;> simp [mutK] at h
theorem ty_dct {m : Mu} {F H : Hp} {q : Addr} {u : Val} (o : Own X.K X.mg F H q u) (h : mutK m u = true) (hm : m = .update ∨ m = .setdefault) : tyV X.K "dict" (.ref q) H := by
  cases o with
  | lst n h1 r => rcases hm with rfl | rfl <;> simp [mutK] at h
  | dk n h1 r => exact .inr (.inr (.inl ⟨rfl, .inl ⟨_, h1⟩⟩))
  | dt n h1 r => exact .inr (.inr (.inl ⟨rfl, .inr ⟨_, h1⟩⟩))
  | obj n h1 r => rcases hm with rfl | rfl <;> simp [mutK] at h
section
variable {i : Nat} {es : List Expr} {xs : List Ex} {apos cpos : Pos}
theorem sS_append (ho : PE X o (tVar i)) (ha : PA X (e :: es) (tAs X.K X.mg W T cal mkc xs)) (hbase : attributeBase o "append" X.env (eval o X.env) = eval o X.env := by rfl)
    (hfew : ((backTo cpos (starEach (e :: es) X.env)).all (fun x => !x.1) && (backToKw cpos (keywordEach [] X.env)).all (fun x => x.1.isSome) && decide ((e :: es).length + ([] : List Keyword).length + (if ([] : List Keyword).isEmpty then 0 else 1) < 30)) = true := by rfl)
    (hline : (apos.endLine == cpos.line) = true := by rfl) (hs : starEach (e :: es) X.env = (false, eval e X.env) :: starEach es X.env := by rfl) (hplain : (backTo cpos (starEach es X.env)).any (·.1) = false := by rfl) (hsw : swapsWith (.Call (.Attribute o "append" apos) (e :: es) [] cpos) none pos.line X.env = pure false := by rfl) :
    PS X (.Expr (.Call (.Attribute o "append" apos) (e :: es) [] cpos) pos) (tS X W T cal mkc pr (.mut i .append xs)) :=
  (ps_expr (pe_bm PySem.F.plainAttrs_list PySem.F.slot_list_append PySem.F.type_list_append mv_append ho ha hbase hfew hline hs hplain) hsw).imp fun _ _ _ q => mut_red (fun _ _ _ o h => ty_lst o h (.inl rfl)) q
theorem sS_extend (ho : PE X o (tVar i)) (ha : PA X (e :: es) (tAs X.K X.mg W T cal mkc xs)) (hbase : attributeBase o "extend" X.env (eval o X.env) = eval o X.env := by rfl)
    (hfew : ((backTo cpos (starEach (e :: es) X.env)).all (fun x => !x.1) && (backToKw cpos (keywordEach [] X.env)).all (fun x => x.1.isSome) && decide ((e :: es).length + ([] : List Keyword).length + (if ([] : List Keyword).isEmpty then 0 else 1) < 30)) = true := by rfl)
    (hline : (apos.endLine == cpos.line) = true := by rfl) (hs : starEach (e :: es) X.env = (false, eval e X.env) :: starEach es X.env := by rfl) (hplain : (backTo cpos (starEach es X.env)).any (·.1) = false := by rfl) (hsw : swapsWith (.Call (.Attribute o "extend" apos) (e :: es) [] cpos) none pos.line X.env = pure false := by rfl) :
    PS X (.Expr (.Call (.Attribute o "extend" apos) (e :: es) [] cpos) pos) (tS X W T cal mkc pr (.mut i .extend xs)) :=
  (ps_expr (pe_bm PySem.F.plainAttrs_list PySem.F.slot_list_extend PySem.F.type_list_extend mv_extend ho ha hbase hfew hline hs hplain) hsw).imp fun _ _ _ q => mut_red (fun _ _ _ o h => ty_lst o h (.inr rfl)) q
theorem sS_update (ho : PE X o (tVar i)) (ha : PA X (e :: es) (tAs X.K X.mg W T cal mkc xs)) (hbase : attributeBase o "update" X.env (eval o X.env) = eval o X.env := by rfl)
    (hfew : ((backTo cpos (starEach (e :: es) X.env)).all (fun x => !x.1) && (backToKw cpos (keywordEach [] X.env)).all (fun x => x.1.isSome) && decide ((e :: es).length + ([] : List Keyword).length + (if ([] : List Keyword).isEmpty then 0 else 1) < 30)) = true := by rfl)
    (hline : (apos.endLine == cpos.line) = true := by rfl) (hs : starEach (e :: es) X.env = (false, eval e X.env) :: starEach es X.env := by rfl) (hplain : (backTo cpos (starEach es X.env)).any (·.1) = false := by rfl) (hsw : swapsWith (.Call (.Attribute o "update" apos) (e :: es) [] cpos) none pos.line X.env = pure false := by rfl) :
    PS X (.Expr (.Call (.Attribute o "update" apos) (e :: es) [] cpos) pos) (tS X W T cal mkc pr (.mut i .update xs)) :=
  (ps_expr (pe_bm PySem.F.plainAttrs_dict PySem.F.slot_dict_update PySem.F.type_dict_update mv_update ho ha hbase hfew hline hs hplain) hsw).imp fun _ _ _ q => mut_red (fun _ _ _ o h => ty_dct o h (.inl rfl)) q
end
end
end EV
namespace EV
open PySem PySem.Spec PyProof.Rows L2
/-- the places of parameters that a def may change -/
def ioIx (io : List Bool) : List Nat := (List.range io.length).filter fun i => io.getD i false
theorem sameKind_get : ∀ {as : List Slot} {io : List Bool} {i : Nat}, sameKind as io = true → (∀ v, as[i]? = some (.ow v) → io.getD i false = true) ∧ as[i]? ≠ some .un
  | [], io, i, _ => ⟨fun v h => by simp at h, by simp⟩
  | .un :: r, io, i, h => by simp [sameKind] at h
  | .fz w :: r, io, 0, h => ⟨fun v z => by simp at z, by simp⟩
  | .ow w :: r, io, 0, h => by
    simp only [sameKind, Bool.and_eq_true] at h
    exact ⟨fun v z => by simpa using h.1, by simp⟩
  | .fz w :: r, io, i + 1, h => by
    simp only [sameKind, Bool.and_eq_true] at h
    have ih := sameKind_get (i := i) h.2
    refine ⟨fun v z => ?_, by simpa using ih.2⟩
    have := ih.1 v (by simpa using z)
    simpa [List.getD, Nat.add_comm] using this
  | .ow w :: r, io, i + 1, h => by
    simp only [sameKind, Bool.and_eq_true] at h
    have ih := sameKind_get (i := i) h.2
    refine ⟨fun v z => ?_, by simpa using ih.2⟩
    have := ih.1 v (by simpa using z)
    simpa [List.getD, Nat.add_comm] using this
theorem ioIx_mem {io : List Bool} {i : Nat} (h : io.getD i false = true) : i ∈ ioIx io := by
  unfold ioIx
  refine List.mem_filter.mpr ⟨List.mem_range.mpr ?_, h⟩
  by_cases hl : i < io.length
  · exact hl
  · simp [List.getD, List.getElem?_eq_none (show io.length ≤ i by omega)] at h
theorem nodup_io : ∀ {vs : List V} {as : List Slot} {i j : Nat} {a : Addr} {v w : Val}, (ioOf vs as).Nodup → i < j → vs[i]? = some (.ref a) → as[i]? = some (.ow v) → as[j]? = some (.ow w) → vs[j]? ≠ some (.ref a)
  | [], _, _, _, _, _, _, _, _, h, _, _ => by simp at h
  | _ :: _, [], _, _, _, _, _, _, _, _, h, _ => by simp at h
  | x :: xs, s :: ss, 0, j + 1, a, v, w, nd, _, h1, h2, h3 => by
    simp at h1 h2
    subst h1; subst h2
    have nd : (a :: ioOf xs ss).Nodup := nd
    intro z
    have : a ∈ ioOf xs ss := abs_setAll.ioOf_at (j := j) (v := w) (by simpa using z) (by simpa using h3)
    exact (List.nodup_cons.mp nd).1 this
  | x :: xs, s :: ss, i + 1, j + 1, a, v, w, nd, hij, h1, h2, h3 => by
    have nd2 : (ioOf xs ss).Nodup := by
      cases x with
      | ref b =>
        cases s with
        | ow u => exact (List.nodup_cons.mp (show (b :: ioOf xs ss).Nodup from nd)).2
        | fz u => exact nd
        | un => exact nd
      | _ => cases s <;> exact nd
    intro z
    exact nodup_io (i := i) (j := j) (v := v) (w := w) nd2 (by omega) (by simpa using h1) (by simpa using h2) (by simpa using h3) (by simpa using z)
section
variable {P : Program} {w : World} {K : PySem.W.Frag} {mg : Str → Option Value} {base : Heap} {T : Tab} {cal mkc : Cal} {N ps : List Str}
/-- the state at a def's entry -/
theorem abs_start {F H : Hp} {vs : List V} {as : List Slot} {n : Nat} (e : Ex' F H) (pr : Paired (ArgR K mg F H) vs as) (nd : (ioOf vs as).Nodup) (hl : N.length - vs.length = n) :
    Abs K mg (fun a => if a ∈ ioOf vs as then none else H a) F F (L2.start N vs) H (as ++ List.replicate n .un) := by
  have len := pr.length
  have get : ∀ {i : Nat} {s : Slot}, (as ++ List.replicate n .un)[i]? = some s → s ≠ .un → as[i]? = some s := fun {i s} h hs => by
    by_cases hi : i < as.length
    · rwa [List.getElem?_append_left hi] at h
    · rw [List.getElem?_append_right (by omega)] at h
      have := (List.getElem?_eq_some_iff.mp h)
      obtain ⟨h1, h2⟩ := this
      rw [List.getElem_replicate] at h2
      exact absurd h2.symm hs
  have st : ∀ {i : Nat} {x : V}, vs[i]? = some x → (L2.start N vs)[i]? = some (some x) := fun {i x} h => by
    unfold L2.start
    have hi := (List.getElem?_eq_some_iff.mp h).1
    rw [List.getElem?_append_left (by rw [List.length_map]; exact hi), List.getElem?_map, h]; rfl
  have at_ : ∀ {i : Nat} {s : Slot}, as[i]? = some s → ∃ x, vs[i]? = some x ∧ ArgR K mg F H x s := fun {i s} h => by
    have hi := (List.getElem?_eq_some_iff.mp h).1
    have hv : vs[i]? = some vs[i] := List.getElem?_eq_getElem (by omega)
    exact ⟨_, hv, paired_at pr hv h⟩
  refine ⟨e, fun a o h => ?_, Ex'.refl F, fun a o h => .inl h, ?_, fun i v h => ?_, fun i v h => ?_, fun i j a v v' hij h1 h2 s1 s2 => ?_⟩
  · split at h
    · cases h
    · exact h
  · unfold L2.start; simp only [List.length_append, List.length_map, List.length_replicate]; omega
  · obtain ⟨x, h1, h2⟩ := at_ (get h (by intro z; cases z))
    exact ⟨x, st h1, h2⟩
  · have h := get h (by intro z; cases z)
    obtain ⟨x, h1, a, rfl, o⟩ := at_ h
    refine ⟨a, st h1, ?_, o⟩
    rw [if_pos (abs_setAll.ioOf_at h1 h)]
  · have h1 := get h1 (by intro z; cases z)
    have h2 := get h2 (by intro z; cases z)
    obtain ⟨x, x1, b, rfl, _⟩ := at_ h1
    obtain ⟨y, y1, c, rfl, _⟩ := at_ h2
    rw [st x1] at s1; cases s1
    rw [st y1] at s2; cases s2
    rcases Nat.lt_or_ge i j with h | h
    · exact nodup_io nd h x1 h1 h2 y1
    · exact nodup_io nd (by omega) y1 h2 h1 x1
theorem end_of {F F' H H' : Hp} {σ' : L2.St} {ρ' : Ro} {vs : List V} {as : List Slot} {io : List Bool} (pr : Paired (ArgR K mg F H) vs as) (sk : sameKind as io = true) (A : Abs K mg (fun a => if a ∈ ioOf vs as then none else H a) F F' σ' H' ρ') (e : Ex' F F') (k : Kp (ioIx io) (L2.start N vs) σ') :
    EndR K mg F H vs as F' H' (ρ'.take as.length) := by
  have st : ∀ {i : Nat} {x : V}, vs[i]? = some x → (L2.start N vs)[i]? = some (some x) := fun {i x} h => by
    unfold L2.start
    have hi := (List.getElem?_eq_some_iff.mp h).1
    rw [List.getElem?_append_left (by rw [List.length_map]; exact hi), List.getElem?_map, h]; rfl
  refine ⟨e, A.sub, fun a o h hn => A.bg a o ?_, fun a o h => ?_, fun i a v v' h1 h2 h3 => ?_⟩
  · rw [if_neg hn]; exact h
  · rcases A.nw a o h with q | q | q
    · exact .inl q
    · split at q
      · rename_i hm; exact .inr (.inr (.inl hm))
      · exact .inr (.inl q)
    · exact .inr (.inr (.inr q))
  · have hi : i < as.length := (List.getElem?_eq_some_iff.mp h1).1
    rw [List.getElem?_take_of_lt hi] at h3
    obtain ⟨b, hb, _, o⟩ := A.ow i v' h3
    rw [k i (ioIx_mem ((sameKind_get sk).1 v h1)), st h2] at hb
    cases hb
    exact o
theorem kept_get : ∀ {as fin : List Slot} {i : Nat} {v : Val}, keptIo as fin = true → as[i]? = some (.ow v) → ∃ v', fin[i]? = some (.ow v')
  | [], _, _, _, _, h => by simp at h
  | .un :: r, fin, i, v, h, _ => by simp [keptIo] at h
  | .ow w :: r, [], i, v, h, _ => by simp [keptIo] at h
  | .fz w :: r, [], i, v, h, _ => by simp [keptIo] at h
  | .ow w :: r, .un :: s, i, v, h, _ => by simp [keptIo] at h
  | .ow w :: r, .fz _ :: s, i, v, h, _ => by simp [keptIo] at h
  | .ow w :: r, .ow z :: s, 0, v, h, _ => ⟨z, rfl⟩
  | .fz w :: r, q :: s, 0, v, h, z => by simp at z
  | .ow w :: r, .ow z :: s, i + 1, v, h, q => by
    simp only [keptIo] at h
    simpa using kept_get (i := i) (v := v) h (by simpa using q)
  | .fz w :: r, q :: s, i + 1, v, h, z => by
    simp only [keptIo] at h
    simpa using kept_get (i := i) (v := v) h (by simpa using z)
theorem fnE_of {x qual : Str} {st : Stmt} {f : Addr} {fd : FuncData} {k : Nat} {nm : String} {d : Def} (F1 : Fun K x qual st f fd) (S : FnScope N ps (defScope st)) (hd : T.fn nm = some d) (hx : T.ext nm = none) (hps : d.ps.length = ps.length) (hN : d.n = N.length)
    (body : ∀ (cdv : Value) (A : Around) (outer : List Env) (s : Shared) (H : Hp) (E : XK), A.guards = some [] → Room k (A.deeper (envOfC qual (defScope st) s.heap.objs.size f cdv)) →
      PSs (cxOf (L2.CX P w) P w K mg base N qual (defScope st) f cdv A outer s H E) (defBody st) (tSs (cxOf (L2.CX P w) P w K mg base N qual (defScope st) f cdv A outer s H E) (fun c d _ H' => E c d H') T cal mkc (ioIx d.io) d.body)) :
    FnE P w K mg base (k + 1) f fd ps (spF K mg (evB T cal mkc) ps.length nm) := by
  obtain ⟨oc, od, kV, doc, pm, an, cdv, ct, osl, rfl, lk, hcd⟩ := F1.ex
  have len : ∀ vs H Q E, spF K mg (evB T cal mkc) ps.length nm vs H Q E → vs.length = ps.length := fun vs H Q E h => by
    obtain ⟨F, as, h1, _, h2, _⟩ := h
    rw [h2.length, h1]
  refine ⟨len, fun A ou s H args us vs Q E gd hr ev bt rl hs => ?_⟩
  have hv := len _ _ _ _ hs
  have inH : K.In s.heap := ev.mod.kin.keeps fun b o e => (ev.bs b o e).1
  have nlm : s.heap.NoLimit := ev.mod.nolimit.keeps fun b o e => (ev.bs b o e).1
  have knd : ∀ y ∈ ps.zip us, (defScope st).names.lookup y.1 = some .local ∨ ((defScope st).names.lookup y.1 = some .cell ∧ ((cellsFrom (s.heap.objs.size + 1) (defScope st).names []).lookup y.1).isSome = true) := fun ⟨n, v⟩ hy => by
    rcases S.par n (List.of_mem_zip hy).1 with z | z
    · exact .inl z
    · exact .inr ⟨z, PySem.W.cellsFrom_some _ _ _ (.inl z)⟩
  refine codeAny_call_function hr.depth (inH _ _ lk) rfl S.co S.gen rfl (PySem.W.codeRec_of inH hcd) (bt _ _ _ _ ?_)
  refine wpAny_newFunctionEnv_cells S.kind knd fun env he s1 fr => ?_
  subst he
  refine ⟨nlm.keeps fr.toInCall.keep, codeAny_func ?_⟩
  have ht := body cdv A ou s H E gd (hr.deeper _)
  have I : Inv (cxOf (L2.CX P w) P w K mg base N qual (defScope st) f cdv A ou s H E) [] (L2.start N vs) H s1 := inv_start S hr.hd ev hv rl fr
  obtain ⟨F, as, ha, e, pr, nd, hq⟩ := hs
  have key : tSs (cxOf (L2.CX P w) P w K mg base N qual (defScope st) f cdv A ou s H E) (fun c d _ H' => E c d H') T cal mkc (ioIx d.io) d.body { nx := fun _ H' => Q .non H', rt := Q } (L2.start N vs) H := by
    simp only [evB, hx, hd] at hq
    split at hq
    · rename_i hc
      obtain ⟨c1, c2, c3⟩ := hc
      refine ⟨_, F, F, _, abs_start (n := d.n - d.ps.length) e pr nd (by rw [hN, hps, hv]), ?_⟩
      cases hm : evSs T cal mkc d.body (as ++ List.replicate (d.n - d.ps.length) .un) with
      | none => rw [hm] at hq; exact hq.elim
      | some o =>
        rw [hm] at hq
        have hl : d.ps.length = as.length := by rw [hps, ha]
        rw [hl] at hq
        cases o with
        | ex x ρ' =>
          intro F' σ' H' dd A' e' k' rd
          simp only [endF] at hq
          split at hq
          · exact hq F' H' dd (end_of pr c3 A' e' k') rd
          · exact hq.elim
        | ok fl ρ' =>
          cases fl with
          | nx =>
            intro F' σ' H' A' e' k'
            simp only [endF] at hq
            split at hq
            · exact hq F' H' .non (end_of pr c3 A' e' k') Rep.non
            · exact hq.elim
          | rt r =>
            intro F' σ' H' y A' e' k' ry
            simp only [endF] at hq
            split at hq
            · rename_i hkp
              refine hq F' H' y (end_of pr c3 A' e' k') ?_
              cases r with
              | un => exact ry.elim
              | fz v => exact ry
              | ow v =>
                obtain ⟨q, rfl, g, o, l⟩ := ry
                refine ⟨q, rfl, ?_, o⟩
                by_cases hq' : q ∈ ioOf vs as
                · obtain ⟨i, v0, h1, h2⟩ := ioOf_mem hq'
                  obtain ⟨v1, h3⟩ := kept_get hkp h2
                  have hi : i < as.length := (List.getElem?_eq_some_iff.mp h2).1
                  rw [List.getElem?_take_of_lt hi] at h3
                  refine absurd ?_ (l i v1 h3)
                  rw [k' i (ioIx_mem ((sameKind_get c3).1 v0 h2))]
                  unfold L2.start
                  have hi := (List.getElem?_eq_some_iff.mp h1).1
                  rw [List.getElem?_append_left (by rw [List.length_map]; exact hi), List.getElem?_map, h1]; rfl
                · have g : (if q ∈ ioOf vs as then none else H q) = none := g
                  rw [if_neg hq'] at g; exact g
            · exact hq.elim
    · exact hq.elim
  refine wpAny_mono (ht.run [] s1 (L2.start N vs) H _ I key) (fun fl s' hz => ?_) fun e s' hz => hz
  cases fl with
  | ret u =>
    obtain ⟨v, σ', H', J, rv, q⟩ := hz
    exact ⟨v, H', J.os, J.bare, J.base, J.hok, rv, q⟩
  | next =>
    obtain ⟨σ', H', J, q⟩ := hz
    exact ⟨.non, H', J.os, J.bare, J.base, J.hok, rfl, q⟩
  | brk => obtain ⟨_, _, _, q⟩ := hz; exact False.elim q
  | cont => obtain ⟨_, _, _, q⟩ := hz; exact False.elim q
end
end EV
namespace EV
open PySem PySem.Spec PyProof.Rows L2
/-! ### promises by name -/
structure OkE (P : Program) (w : World) (K : PySem.W.Frag) (mg : Str → Option Value) (base : Heap) (k : Nat) (x : Str) (nm : String) (ps : List Str) (cal : Cal) : Prop where
  ex : ∃ f fd, FnE P w K mg base k f fd ps (spF K mg cal ps.length nm) ∧ (∀ (s : Shared) (us : List Value), us.length = ps.length → BindsTo s fd ⟨us, []⟩ (ps.zip us)) ∧ mg x = some (.ref f) ∧ PySem.W.keepIn K (.ref f) = true ∧ ∃ oc od osl, K.lookup f = some ⟨oc, od, .func fd, osl⟩
  ln : ∀ ss o, cal nm ss = some o → ss.length = ps.length
structure OkME (P : Program) (w : World) (K : PySem.W.Frag) (mg : Str → Option Value) (base : Heap) (k : Nat) (c m nm : String) (ps : List Str) (cal : Cal) : Prop where
  ex : ∃ f fd, FnE P w K mg base k f fd ps (spF K mg cal ps.length nm) ∧ (∀ (s : Shared) (us : List Value), us.length = ps.length → BindsTo s fd ⟨us, []⟩ (ps.zip us)) ∧ Cls K (GH.clsA mg (Str.ofString c)) ∧ Meth K (GH.clsA mg (Str.ofString c)) (Str.ofString m) f
  ln : ∀ ss o, cal nm ss = some o → ss.length = ps.length
structure OkNE (P : Program) (w : World) (K : PySem.W.Frag) (mg : Str → Option Value) (base : Heap) (k : Nat) (c nm : String) (ps : List Str) (cal : Cal) : Prop where
  ex : ∃ f fd, FnE P w K mg base k f fd ps (spF K mg cal ps.length nm) ∧ (∀ (s : Shared) (us : List Value), us.length = ps.length → BindsTo s fd ⟨us, []⟩ (ps.zip us)) ∧ mg (Str.ofString c) = some (.ref (GH.clsA mg (Str.ofString c))) ∧ Mk K (GH.clsA mg (Str.ofString c)) f
  ln : ∀ ss o, cal nm ss = some o → ss.length = ps.length
theorem evB_len {T : Tab} {cal mkc : Cal} {nm : String} {d : Def} (hd : T.fn nm = some d) (hx : T.ext nm = none) (ss : List Slot) (o : Out Slot) (h : evB T cal mkc nm ss = some o) : ss.length = d.ps.length := by
  simp only [evB, hx, hd] at h
  split at h
  · rename_i hc; exact hc.1
  · cases h
/-- what never answers promises all -/
def none2 : Cal := fun _ _ => none
theorem fnE_none {P : Program} {w : World} {K : PySem.W.Frag} {mg : Str → Option Value} {base : Heap} {k n : Nat} {f : Addr} {fd : FuncData} {ps : List Str} {nm : String} : FnE P w K mg base k f fd ps (spF K mg none2 n nm) :=
  ⟨fun vs H Q E h => by obtain ⟨F, as, _, _, _, _, h⟩ := h; exact h.elim, fun A ou s H args us vs Q E _ _ _ _ _ h => by obtain ⟨F, as, _, _, _, _, h⟩ := h; exact h.elim⟩
section
variable {P : Program} {w : World} {K : PySem.W.Frag} {mg : Str → Option Value} {base : Heap} {T : Tab} {cal mkc : Cal} {N ps : List Str} {k : Nat} {nm : String} {d : Def} {st : Stmt}
theorem okE_def {x : Str} (D : GH.Def K mg x st) (S : FnScope N ps (defScope st)) (hd : T.fn nm = some d) (hx : T.ext nm = none) (hps : d.ps.length = ps.length) (hN : d.n = N.length)
    (hb : ∀ (kV doc pm : Value) (an : Option Addr) (cdv ct : Value) (us : List Value), us.length = ps.length → bindArgs (PySem.W.fnOf x x (defArgs st) (defBody st) (defScope st) .none kV doc pm an cdv ct) ⟨us, []⟩ = pure (ps.zip us))
    (body : ∀ (f : Addr) (cdv : Value) (A : Around) (outer : List Env) (s : Shared) (H : Hp) (E : XK), A.guards = some [] → Room k (A.deeper (envOfC x (defScope st) s.heap.objs.size f cdv)) →
      PSs (cxOf (L2.CX P w) P w K mg base N x (defScope st) f cdv A outer s H E) (defBody st) (tSs (cxOf (L2.CX P w) P w K mg base N x (defScope st) f cdv A outer s H E) (fun c d _ H' => E c d H') T cal mkc (ioIx d.io) d.body)) :
    OkE P w K mg base (k + 1) x nm ps (evB T cal mkc) := by
  obtain ⟨f, fd, F1, m⟩ := D
  have F2 := fnE_of (T := T) (cal := cal) (mkc := mkc) (P := P) (w := w) (base := base) (mg := mg) (k := k) F1 S hd hx hps hN (body f)
  have kp := F1.kp
  obtain ⟨oc, od, kV, doc, pm, an, cdv, ct, osl, rfl, lk, hcd⟩ := F1.ex
  exact ⟨⟨f, _, F2, fun s us hl => .of_eq (hb kV doc pm an cdv ct us hl), m, kp, oc, od, osl, lk⟩, fun ss o h => by rw [evB_len hd hx ss o h, hps]⟩
theorem okE_none {x : Str} (D : GH.Def K mg x st) (hb : ∀ (kV doc pm : Value) (an : Option Addr) (cdv ct : Value) (us : List Value), us.length = ps.length → bindArgs (PySem.W.fnOf x x (defArgs st) (defBody st) (defScope st) .none kV doc pm an cdv ct) ⟨us, []⟩ = pure (ps.zip us)) : OkE P w K mg base k x nm ps none2 := by
  obtain ⟨f, fd, F1, m⟩ := D
  have kp := F1.kp
  obtain ⟨oc, od, kV, doc, pm, an, cdv, ct, osl, rfl, lk, hcd⟩ := F1.ex
  exact ⟨⟨f, _, fnE_none, fun s us hl => .of_eq (hb kV doc pm an cdv ct us hl), m, kp, oc, od, osl, lk⟩, fun ss o h => by cases h⟩
theorem okME_def {c m : String} {qual : Str} (D : GH.MethAt K mg (Str.ofString c) (Str.ofString m) qual st) (S : FnScope N ps (defScope st)) (hd : T.fn nm = some d) (hx : T.ext nm = none) (hps : d.ps.length = ps.length) (hN : d.n = N.length)
    (hb : ∀ (kV doc pm : Value) (an : Option Addr) (cdv ct : Value) (us : List Value), us.length = ps.length → bindArgs (PySem.W.fnOf (Str.ofString m) qual (defArgs st) (defBody st) (defScope st) .none kV doc pm an cdv ct) ⟨us, []⟩ = pure (ps.zip us))
    (body : ∀ (f : Addr) (cdv : Value) (A : Around) (outer : List Env) (s : Shared) (H : Hp) (E : XK), A.guards = some [] → Room k (A.deeper (envOfC qual (defScope st) s.heap.objs.size f cdv)) →
      PSs (cxOf (L2.CX P w) P w K mg base N qual (defScope st) f cdv A outer s H E) (defBody st) (tSs (cxOf (L2.CX P w) P w K mg base N qual (defScope st) f cdv A outer s H E) (fun c d _ H' => E c d H') T cal mkc (ioIx d.io) d.body)) :
    OkME P w K mg base (k + 1) c m nm ps (evB T cal mkc) := by
  obtain ⟨f, fd, cl, me, F1⟩ := D.ex
  have F2 := fnE_of (T := T) (cal := cal) (mkc := mkc) (P := P) (w := w) (base := base) (mg := mg) (k := k) F1 S hd hx hps hN (body f)
  obtain ⟨oc, od, kV, doc, pm, an, cdv, ct, osl, rfl, lk, hcd⟩ := F1.ex
  exact ⟨⟨f, _, F2, fun s us hl => .of_eq (hb kV doc pm an cdv ct us hl), cl, me⟩, fun ss o h => by rw [evB_len hd hx ss o h, hps]⟩
theorem okME_none {c m : String} {qual : Str} (D : GH.MethAt K mg (Str.ofString c) (Str.ofString m) qual st) (hb : ∀ (kV doc pm : Value) (an : Option Addr) (cdv ct : Value) (us : List Value), us.length = ps.length → bindArgs (PySem.W.fnOf (Str.ofString m) qual (defArgs st) (defBody st) (defScope st) .none kV doc pm an cdv ct) ⟨us, []⟩ = pure (ps.zip us)) : OkME P w K mg base k c m nm ps none2 := by
  obtain ⟨f, fd, cl, me, F1⟩ := D.ex
  obtain ⟨oc, od, kV, doc, pm, an, cdv, ct, osl, rfl, lk, hcd⟩ := F1.ex
  exact ⟨⟨f, _, fnE_none, fun s us hl => .of_eq (hb kV doc pm an cdv ct us hl), cl, me⟩, fun ss o h => by cases h⟩
theorem okNE_def {c : String} {qual : Str} (D : GH.NewAt K mg (Str.ofString c) qual st) (S : FnScope N ps (defScope st)) (hd : T.fn nm = some d) (hx : T.ext nm = none) (hps : d.ps.length = ps.length) (hN : d.n = N.length)
    (hb : ∀ (kV doc pm : Value) (an : Option Addr) (cdv ct : Value) (us : List Value), us.length = ps.length → bindArgs (PySem.W.fnOf "__init__" qual (defArgs st) (defBody st) (defScope st) .none kV doc pm an cdv ct) ⟨us, []⟩ = pure (ps.zip us))
    (body : ∀ (f : Addr) (cdv : Value) (A : Around) (outer : List Env) (s : Shared) (H : Hp) (E : XK), A.guards = some [] → Room k (A.deeper (envOfC qual (defScope st) s.heap.objs.size f cdv)) →
      PSs (cxOf (L2.CX P w) P w K mg base N qual (defScope st) f cdv A outer s H E) (defBody st) (tSs (cxOf (L2.CX P w) P w K mg base N qual (defScope st) f cdv A outer s H E) (fun c d _ H' => E c d H') T cal mkc (ioIx d.io) d.body)) :
    OkNE P w K mg base (k + 1) c nm ps (evB T cal mkc) := by
  obtain ⟨f, fd, hg, cl, me, F1⟩ := D.ex
  have F2 := fnE_of (T := T) (cal := cal) (mkc := mkc) (P := P) (w := w) (base := base) (mg := mg) (k := k) F1 S hd hx hps hN (body f)
  obtain ⟨oc, od, kV, doc, pm, an, cdv, ct, osl, rfl, lk, hcd⟩ := F1.ex
  exact ⟨⟨f, _, F2, fun s us hl => .of_eq (hb kV doc pm an cdv ct us hl), hg, me⟩, fun ss o h => by rw [evB_len hd hx ss o h, hps]⟩
theorem okNE_none {c : String} {qual : Str} (D : GH.NewAt K mg (Str.ofString c) qual st) (hb : ∀ (kV doc pm : Value) (an : Option Addr) (cdv ct : Value) (us : List Value), us.length = ps.length → bindArgs (PySem.W.fnOf "__init__" qual (defArgs st) (defBody st) (defScope st) .none kV doc pm an cdv ct) ⟨us, []⟩ = pure (ps.zip us)) : OkNE P w K mg base k c nm ps none2 := by
  obtain ⟨f, fd, hg, cl, me, F1⟩ := D.ex
  obtain ⟨oc, od, kV, doc, pm, an, cdv, ct, osl, rfl, lk, hcd⟩ := F1.ex
  exact ⟨⟨f, _, fnE_none, fun s us hl => .of_eq (hb kV doc pm an cdv ct us hl), hg, me⟩, fun ss o h => by cases h⟩
end
/-! ### short rules -/
section
variable {X : Cx} {W : WX} {T : Tab} {cal mkc : Cal} {a b c e o : Expr} {ea eb ec : Ex} {pos p : Pos} {k : Nat}
theorem takesW0 : Takes X W0 := fun _ _ ⟨_, _, _, _, _, _, _, _, _, _, _, _, _, _, _, _, w⟩ => w.elim
theorem oE (h : PE X e (tE X.K X.mg W T cal mkc ea)) (hn : ∀ i, ea ≠ .v i := by nofun) : PE X e (tO X.K X.mg W T cal mkc ea) := pe_opd h hn
theorem aV {io : Bool} {i : Nat} (h : PE X e (tVar i)) : PE X e (tArg X W T cal mkc io (.v i)) := sArg (pe_name h) fun j z => by cases z; exact h
theorem aE {io : Bool} (h : PE X e (tE X.K X.mg W T cal mkc ea)) (hn : ∀ i, ea ≠ .v i := by nofun) : PE X e (tArg X W T cal mkc io ea) := sArg h fun j z => absurd z (hn j)
theorem cI {i : Int} {j : Nat} : PE X (.Constant (.int i) j pos) (tE X.K X.mg W T cal mkc (.int i)) := sE_const pe_int (fun F => .int i) fun _ => rfl
theorem cB {i : Bool} {j : Nat} : PE X (.Constant (.bool i) j pos) (tE X.K X.mg W T cal mkc (.bl i)) := sE_const pe_bl (fun F => .bl i) fun _ => rfl
theorem cN {j : Nat} : PE X (.Constant .none j pos) (tE X.K X.mg W T cal mkc .non) := sE_const pe_non (fun F => .non) fun _ => rfl
theorem toS_as (s : String) : toS (asStr s) = Str.ofString s := by unfold toS asStr; simp
theorem cS {s : String} {j : Nat} : PE X (.Constant (.str (Str.ofString s)) j pos) (tE X.K X.mg W T cal mkc (.str s)) := sE_const pe_str (fun F => by rw [← toS_as]; exact .str (asStr s)) fun _ => rfl
theorem cG {x : Str} {s : String} {v : V} {w : Val} (h : GH.Cst X.mg x v) (r : ∀ F, Rep X.K X.mg F v w) (hT : T.cst s = some w) (hg : Gl X x := by rfl) (hd : (x == ("__debug__" : Str)) = false := by decide) : PE X (.Name x pos) (tE X.K X.mg W T cal mkc (.g s)) :=
  sE_const (GH.pe_cst h hg hd) r fun ρ => by simp only [evE, hT]
theorem never (h : T.cst "?" = none) : PE X e (tE X.K X.mg W T cal mkc (.g "?")) := ⟨fun pins s σ H Q I q => by
  obtain ⟨G, Z, F, ρ, A, q⟩ := q
  have e1 : evE T cal mkc (.g "?") ρ = none := by simp only [evE, h]
  rw [e1] at q
  exact q.elim⟩
theorem sS_never {pr : List Nat} {st : Stmt} {cl : String} {es : List Ex} {hot : Bool} : PS X st (tS X W T cal mkc pr (.rai cl es hot)) := ⟨fun pins s σ H D I q => by
  obtain ⟨G, Z, F, ρ, A, q⟩ := q
  exact q.elim⟩
theorem neverT (h : T.cst "?" = none) : PT X e (EV.tB X.K X.mg W T cal mkc (.g "?")) := ⟨fun pins s σ H Q I q => by
  obtain ⟨G, Z, F, ρ, A, q⟩ := q
  have e1 : evE T cal mkc (.g "?") ρ = none := by simp only [evE, h]
  rw [e1] at q
  exact q.elim⟩
theorem neverI {tg : Expr} (h : T.cst "?" = none) : PI X tg e (tIt X W T cal mkc (.seq (.g "?"))) := ⟨fun pins s σ H Q I q => by
  obtain ⟨G, Z, F, ρ, A, q⟩ := q
  have e1 : evIt T cal mkc (.seq (.g "?")) ρ = none := by simp only [evIt, evE, h, bnd_none]
  rw [e1] at q
  exact q.elim⟩
/-! built-ins -/
theorem b1 {x : Str} {id : String} {bl : Bl} (hc : CallR X (.builtin id) (rBlt X.K X.mg bl)) (hm : X.mg x = none) (hv : bootBuiltins x = some (.builtin id)) (ha : PE X a (tO X.K X.mg W T cal mkc ea)) (hg : Gl X x := by rfl) (hn : x ≠ "__name__" := by decide) (hdb : (x == ("__debug__" : Str)) = false := by decide)
    (he : starEach [a] X.env = (false, eval a X.env) :: starEach [] X.env := by rfl) (hpl : (backTo pos (starEach [] X.env)).any (·.1) = false := by rfl) : PE X (.Call (.Name x p) [a] [] pos) (tE X.K X.mg W T cal mkc (.blt bl [ea])) :=
  (pe_callB hc hg hm hv (pa_cons ha pa_nil he) hn hdb he hpl).imp fun _ _ _ q => blt1 q
theorem t1 {x : Str} {id : String} {bl : Bl} (hc : CallR X (.type id) (rBlt X.K X.mg bl)) (hm : X.mg x = none) (hv : bootBuiltins x = some (.type id)) (ha : PE X a (tO X.K X.mg W T cal mkc ea)) (hg : Gl X x := by rfl) (hn : x ≠ "__name__" := by decide) (hdb : (x == ("__debug__" : Str)) = false := by decide)
    (he : starEach [a] X.env = (false, eval a X.env) :: starEach [] X.env := by rfl) (hpl : (backTo pos (starEach [] X.env)).any (·.1) = false := by rfl) : PE X (.Call (.Name x p) [a] [] pos) (tE X.K X.mg W T cal mkc (.blt bl [ea])) :=
  (pe_callTy hc hg hm hv (pa_cons ha pa_nil he) hn hdb he hpl).imp fun _ _ _ q => blt1 q
theorem b2 {x : Str} {id : String} {bl : Bl} {es : List Expr} {xs : List Ex} (hc : CallR X (.builtin id) (rBlt X.K X.mg bl)) (hm : X.mg x = none) (hv : bootBuiltins x = some (.builtin id)) (ha : PA X (a :: es) (tAs X.K X.mg W T cal mkc xs)) (hx : ∀ z, xs ≠ [z] := by nofun) (hg : Gl X x := by rfl) (hn : x ≠ "__name__" := by decide) (hdb : (x == ("__debug__" : Str)) = false := by decide)
    (he : starEach (a :: es) X.env = (false, eval a X.env) :: starEach es X.env := by rfl) (hpl : (backTo pos (starEach es X.env)).any (·.1) = false := by rfl) : PE X (.Call (.Name x p) (a :: es) [] pos) (tE X.K X.mg W T cal mkc (.blt bl xs)) :=
  (pe_callB hc hg hm hv ha hn hdb he hpl).imp fun _ _ _ q => blt2 hx q
/-! calls -/
theorem cE {d : Def} {x : Str} {nm : String} {ps : List Str} {es : List Expr} {xs : List Ex} (O : OkE X.prog X.w X.K X.mg X.base k x nm ps cal) (gd : X.A.guards = some []) (hr : Room k X.A) (tk : Takes X W) (hd : T.fn nm = some d) (ha : PA X (e :: es) (tArgs X W T cal mkc d.io xs)) (hg : Gl X x := by rfl) (hdb : (x == ("__debug__" : Str)) = false := by decide)
    (he : starEach (e :: es) X.env = (false, eval e X.env) :: starEach es X.env := by rfl) (hpl : (backTo pos (starEach es X.env)).any (·.1) = false := by rfl) : PE X (.Call (.Name x p) (e :: es) [] pos) (tE X.K X.mg W T cal mkc (.call nm xs [])) := by
  obtain ⟨f, fd, F, hb, hm, hk, _⟩ := O.ex
  exact sE_call F gd hr tk hb hg hm hk hd O.ln ha hdb he hpl
theorem mE {d : Def} {c m nm : String} {ps : List Str} {apos : Pos} {es : List Expr} {eo : Ex} {xs : List Ex} {pl : Sem Bool} (O : OkME X.prog X.w X.K X.mg X.base k c m nm ps cal) (gd : X.A.guards = some []) (hr : Room k X.A) (tk : Takes X W) (hd : T.fn nm = some d) (ho : PE X o (tArg X W T cal mkc (d.io.getD 0 false) eo)) (ha : PA X (e :: es) (tArgs X W T cal mkc (d.io.drop 1) xs))
    (hst : starEach (e :: es) X.env = (false, eval e X.env) :: starEach es X.env := by rfl) (hpl : (backTo pos (starEach es X.env)).any (·.1) = false := by rfl)
    (ht : eval (.Call (.Attribute o (Str.ofString m) apos) (e :: es) [] pos) X.env = (do
      let ov ← eval o X.env
      standAt apos.atName
      let (f, first) ← holding [ov] (getMethod ov (Str.ofString m) pl)
      callWith pos f first (backTo pos (starEach (e :: es) X.env)) (backToKw pos (keywordEach [] X.env))) := by rfl) :
    PE X (.Call (.Attribute o (Str.ofString m) apos) (e :: es) [] pos) (tE X.K X.mg W T cal mkc (.mth nm c m eo xs)) := by
  obtain ⟨f, fd, F, hb, cl, hme⟩ := O.ex
  exact sE_mth F gd hr tk hb cl hme hd O.ln ho ha hst hpl ht
theorem nE {d : Def} {c nm : String} {ps : List Str} {es : List Expr} {xs : List Ex} (O : OkNE X.prog X.w X.K X.mg X.base k c nm ps mkc) (hf : nm = c ++ ".__init__") (gd : X.A.guards = some []) (hr : Room (k + 1) X.A) (tk : Takes X W) (hd : T.fn nm = some d) (ha : PA X (e :: es) (tAs X.K X.mg W T cal mkc xs)) (hg : Gl X (Str.ofString c) := by rfl)
    (hdb : (Str.ofString c == ("__debug__" : Str)) = false := by decide +kernel) (he : starEach (e :: es) X.env = (false, eval e X.env) :: starEach es X.env := by rfl) (hpl : (backTo pos (starEach es X.env)).any (·.1) = false := by rfl) : PE X (.Call (.Name (Str.ofString c) p) (e :: es) [] pos) (tE X.K X.mg W T cal mkc (.mk c xs [])) := by
  obtain ⟨f, fd, F, hb, hm, M⟩ := O.ex
  exact sE_mk M F gd hr tk hf hb hg hm hd O.ln ha hdb he hpl
end
end EV
namespace EV
open PySem PySem.Spec PyProof.Rows L2
section
variable {K : PySem.W.Frag} {mg : Str → Option Value} {sI sL sS : Stmt}
theorem mach_new (M : GH.MachCls K mg sI sL sS) : GH.NewAt K mg (Str.ofString "Machine") "Machine.__init__" sI := by
  obtain ⟨fI, pL, gL, pS, gS, fdI, fdL, fdS, m, h1, h2, h3, h4, h5, _⟩ := M.c
  exact ⟨fI, fdI, m, h1, h2, h5⟩
theorem mach_prop (M : GH.MachCls K mg sI sL sS) (s1 : FnScope ["self"] ["self"] (defScope sL)) (b1 : ∃ p1 p2 p3, defBody sL = [.Return (some (.Attribute (.Name "self" p1) "held_letters" p2)) p3]) (s2 : FnScope ["self"] ["self"] (defScope sS)) (b2 : ∃ p1 p2 p3, defBody sS = [.Return (some (.Attribute (.Name "self" p1) "held_states" p2)) p3])
    (hb : ∀ (st : Stmt) (fa : Addr) (fd : FuncData) (nm : Str) (q : Str), Fun K nm q st fa fd → (st = sL ∨ st = sS) → Binds K fd ["self"] []) : PropAt K mg "Machine" "letters" "held_letters" ∧ PropAt K mg "Machine" "states" "held_states" := by
  obtain ⟨fI, pL, gL, pS, gS, fdI, fdL, fdS, m, h1, h2, h3, h4, h5, h6, h7, h8, h9⟩ := M.c
  exact ⟨⟨pL, gL, fdL, h1, h6, fun P w base => GH.fn_get h7 s1 b1 h1 h3, hb _ _ _ _ _ h7 (.inl rfl)⟩, ⟨pS, gS, fdS, h1, h8, fun P w base => GH.fn_get h9 s2 b2 h1 h4, hb _ _ _ _ _ h9 (.inr rfl)⟩⟩
theorem mach_isc (M : GH.MachCls K mg sI sL sS) (H : Hp) (a dx : Addr) (fs : List (Str × V)) (h : H a = some (.ins (GH.clsA mg (Str.ofString "Machine")) dx fs)) : TyX K H (.ref a) (.ref (GH.clsA mg (Str.ofString "Machine"))) ∧ PySem.W.kitOne K (.ref (GH.clsA mg (Str.ofString "Machine"))) (.ref (GH.clsA mg (Str.ofString "Machine"))) = some true := M.ty h
theorem binds_of {st : Stmt} {fa : Addr} {fd : FuncData} {nm q : Str} (F : Fun K nm q st fa fd) (hb : ∀ (kV doc pm : Value) (an : Option Addr) (cdv ct : Value) (us : List Value), us.length = 1 → bindArgs (PySem.W.fnOf nm q (defArgs st) (defBody st) (defScope st) .none kV doc pm an cdv ct) ⟨us, []⟩ = pure ((["self"] : List Str).zip us)) : Binds K fd ["self"] [] := F.binds hb
end
end EV
namespace EV
open PySem PySem.Spec PyProof.Rows L2
section
variable {X : Cx} {W : WX} {T : Tab} {cal mkc : Cal} {a b c e o : Expr} {ea eb ec ek : Ex} {pos p p2 : Pos} {k : Nat}
theorem kit_tab (a t : String) (ha : a ∈ ["NoneType", "bool", "int", "str", "list", "tuple"]) (ht : t ∈ ["bool", "int", "str", "tuple", "list"]) : kitB a t = some (a == t || (t == "int" && a == "bool")) := by
  simp only [List.mem_cons, List.not_mem_nil, or_false] at ha ht
  rcases ha with rfl | rfl | rfl | rfl | rfl | rfl <;> rcases ht with rfl | rfl | rfl | rfl | rfl <;> decide +kernel
/-- a value's type -/
theorem ty_of {F H : Hp} {x : V} {v : Val} (e : Ex' F H) (r : RepB X.K X.mg F H x v) (hn : typ v ∈ ["NoneType", "bool", "int", "str", "list", "tuple"]) (hs : ∀ ns, v ≠ .scr ns) (ho : ∀ c fs, v ≠ .obj c fs) : TyX X.K H x (.type (typ v)) := by
  cases r with
  | non => exact .base .non
  | bl b => exact .base (.bl b)
  | int i => exact .base (.int i)
  | str l => exact .base (.str _)
  | lst h r => exact .base (.lst h)
  | scr s => exact absurd rfl (hs _)
  | tup h r => exact .base (.tup (e _ _ h))
  | wtp s => exact GH.ty_tup (e.sqT s)
  | dk h r => simp [typ] at hn
  | dt h r => simp [typ] at hn
  | obj h r => exact absurd rfl (ho _ _)
def IsC (K : PySem.W.Frag) (mg : Str → Option Value) (t : String) : Prop := ∀ (H : Hp) (a dx : Addr) (fs : List (Str × V)), H a = some (.ins (GH.clsA mg (Str.ofString t)) dx fs) → TyX K H (.ref a) (.ref (GH.clsA mg (Str.ofString t))) ∧ PySem.W.kitOne K (.ref (GH.clsA mg (Str.ofString t))) (.ref (GH.clsA mg (Str.ofString t))) = some true
/-- the class, as it is written: a built-in type, or a class of the text -/
theorem sE_isi {t : String} {cv : V} {ct : Value} (hcl : (cv = .ty t ∧ ct = .type t) ∨ (cv = .ref (GH.clsA X.mg (Str.ofString t)) ∧ ct = .ref (GH.clsA X.mg (Str.ofString t)) ∧ IsC X.K X.mg t ∧ ["bool", "int", "str", "tuple", "list"].contains t = false)) (hno : ct = .type t → T.isc t = false) (hm : X.mg "isinstance" = none) (ha : PE X a (tO X.K X.mg W T cal mkc ea)) (hb : PE X b (tC cv))
    (hg : Gl X "isinstance" := by rfl) (he : starEach [a, b] X.env = (false, eval a X.env) :: starEach [b] X.env := by rfl) (he2 : starEach [b] X.env = (false, eval b X.env) :: starEach [] X.env := by rfl) (hpl : (backTo pos (starEach [b] X.env)).any (·.1) = false := by rfl) :
    PE X (.Call (.Name "isinstance" p) [a, b] [] pos) (tE X.K X.mg W T cal mkc (.isi ea t)) := by
  refine (pe_callB call_isi hg hm PyProof.Rows.boot_isinstance (pa_cons ha (pa_cons hb pa_nil he2) he) (by decide) (by decide) he hpl).imp fun σ H Q q => ?_
  obtain ⟨G, Z, F, ρ, A, q⟩ := q
  refine ⟨G, Z, F, ρ, A, q.bnd.imp fun F1 H1 ρ1 x A1 e1 q1 vx rx => ?_⟩
  obtain ⟨r, hr, q3⟩ := q1.lift
  obtain ⟨d, hr1, rfl⟩ := Option.map_eq_some_iff.mp hr
  obtain ⟨u, hu, hr2⟩ := Option.bind_eq_some_iff.mp hr1
  have rb := OpdR.read A1 rx hu
  have fin := Aft.pur q3 A1 _ (Rep.bl d)
  have plain : (∀ ns, u ≠ .scr ns) → (∀ c fs, u ≠ .obj c fs) → typ u ∈ ["NoneType", "bool", "int", "str", "list", "tuple"] → (if ["bool", "int", "str", "tuple", "list"].contains t then some (isiF u t) else none) = some d → rIsi X.K [vx, cv] H1 Q := fun h1 h2 h3 h4 => by
    split at h4
    · rename_i hc
      cases h4
      have ht : t ∈ ["bool", "int", "str", "tuple", "list"] := by simpa using hc
      rcases hcl with ⟨rfl, rfl⟩ | ⟨rfl, rfl, _, hz⟩
      · exact ⟨vx, _, _, _, _, rfl, .ty t, ty_of A1.sub rb h3 h1 h2, kit_ty (kit_tab _ _ h3 ht), fin⟩
      · rw [hc] at hz; cases hz
    · cases h4
  cases u with
  | dct kvs => cases hr2
  | scr ns => cases hr2
  | obj c' fs =>
    simp only [isiV] at hr2
    split at hr2
    · rename_i hc
      cases hr2
      obtain ⟨h1, h2⟩ := Bool.and_eq_true_iff.mp hc
      have h1 : c' = t := by simpa using h1
      subst h1
      cases rb with
      | obj s1 r1 =>
        rcases hcl with ⟨rfl, rfl⟩ | ⟨rfl, rfl, hI, _⟩
        · rw [hno rfl] at h2; cases h2
        · obtain ⟨t1, t2⟩ := hI H1 _ _ _ s1
          exact ⟨_, _, _, _, _, rfl, .own _, t1, t2, fin⟩
    · cases hr2
  | non => exact plain nofun nofun (by simp [typ]) hr2
  | bl z => exact plain nofun nofun (by simp [typ]) hr2
  | int z => exact plain nofun nofun (by simp [typ]) hr2
  | str z => exact plain nofun nofun (by simp [typ]) hr2
  | lst z => exact plain nofun nofun (by simp [typ]) hr2
  | tup z => exact plain nofun nofun (by simp [typ]) hr2
  | wtp z => exact plain nofun nofun (by simp [typ]) hr2
/-! dicts -/
theorem sE_dnew : PE X (.Dict [] [] pos) (tE X.K X.mg W T cal mkc (.dct [] [])) := by
  refine pe_dnewK.imp fun σ H Q q p hp => ?_
  obtain ⟨G, Z, F, ρ, A, q⟩ := q
  obtain ⟨A1, hF, hG, hl⟩ := A.newO (o := .dK []) hp
  exact q F _ A1 (Ex'.refl F) _ ⟨p, rfl, hG, .dk hF upd_same .nil, hl⟩
theorem sE_disp (hk : PE X a (tE X.K X.mg W T cal mkc ek)) (hv : PE X b (tE X.K X.mg W T cal mkc ea)) : PE X (.Dict [some a] [b] pos) (tE X.K X.mg W T cal mkc (.dct [ek] [ea])) := by
  refine (pe_disp (pps_cons (pe_fix hk) (pe_fix hv) pps_nil) rfl rfl (by simp) (by simp)).imp fun σ H Q q p hp => ?_
  obtain ⟨G, Z, F, ρ, A, q⟩ := q
  have e1 : evE T cal mkc (.dct [ek] [ea]) ρ = EV.bnd (EV.bnd (evE T cal mkc ek ρ) fixv) fun a ρ2 => EV.bnd (EV.bnd (evE T cal mkc ea ρ2) fixv) fun v ρ4 => if keyOk a then EV.pur (.ow (.dct [(a, v)])) ρ4 else none := by
    simp only [bnd_assoc]; rfl
  rw [e1] at q
  obtain ⟨A1, hF, hG, hl⟩ := A.newO (o := .dK []) hp
  have hZ : Z p = none := by
    cases z : Z p with
    | none => rfl
    | some u => rw [A.f0 p u z] at hF; cases hF
  have nt : ∀ xs, (HO.dK [] : HO) ≠ .tup xs := fun _ z => by cases z
  have A2 := A1.hold (o := .dK []) upd_same hF hl
  refine ⟨upd G p (.dK []), Z, F, ρ, A2, ((Aft.bnd q).hold hG hZ nt).imp fun F3 H3 ρ3 ka A3 e3 q3 ky rk => ?_⟩
  obtain ⟨q3, _, _, _⟩ := q3
  refine ⟨upd G p (.dK []), Z, F3, ρ3, A3, ((Aft.bnd q3).hold hG hZ nt).imp fun F4 H4 ρ4 v A4 e4 q4 vy rv => ?_⟩
  obtain ⟨q4, h1, h2, h3⟩ := q4
  have A5 := (A4.free hG hZ nt).1
  split at q4
  · rename_i hko
    obtain ⟨ky', rfl, rfl⟩ := key_repX (rk.mono e4) hko
    refine ⟨h1, [(ky', vy)], rfl, by simp, ?_⟩
    exact q4 F4 _ (A5.wr h2 hG h3) (Ex'.refl F4) _ ⟨p, rfl, hG, .dk h2 upd_same (RepK.put (ks := []) (kvs := []) (k := ky') .nil rv), h3⟩
  · exact q4.elim
theorem reps_rng {F : Hp} (a b : Int) : Reps X.K X.mg F (rgV a b) (rng a b) := by
  unfold rgV rng
  generalize List.range (b - a).toNat = l
  induction l with
  | nil => exact .nil
  | cons i r ih => exact .cons (.int _) ih
/-! list(range(n)) -/
theorem sE_lrg {p3 : Pos} (hc : X.calm = true) (hm : X.mg "list" = none) (hm2 : X.mg "range" = none) (ha : PE X a (tE X.K X.mg W T cal mkc ea)) (hg : Gl X "list" := by rfl) (hg2 : Gl X "range" := by rfl) (na : starEach [.Call (.Name "range" p2) [a] [] p3] X.env = (false, eval (.Call (.Name "range" p2) [a] [] p3) X.env) :: starEach [] X.env := by rfl) (nb : starEach [a] X.env = (false, eval a X.env) :: starEach [] X.env := by rfl) :
    PE X (.Call (.Name "list" p) [.Call (.Name "range" p2) [a] [] p3] [] pos) (tE X.K X.mg W T cal mkc (.lrg ea)) := by
  refine (pe_listRg hc hg hm (prg_1 hg2 hm2 (pe_fix ha) nb) na).imp fun σ H Q q => ?_
  obtain ⟨G, Z, F, ρ, A, q⟩ := q
  have e1 : evE T cal mkc (.lrg ea) ρ = EV.bnd (EV.bnd (evE T cal mkc ea ρ) fixv) fun v ρ2 => EV.lift ((rngF [v]).map fun xs => .ow (.lst xs)) ρ2 := by
    rw [bnd_assoc]; rfl
  rw [e1] at q
  refine ⟨G, Z, F, ρ, A, (Aft.bnd q).imp fun F1 H1 ρ1 v A1 e1 q1 x rx => ?_⟩
  obtain ⟨r, hr, q2⟩ := q1.lift
  obtain ⟨xs, hr1, rfl⟩ := Option.map_eq_some_iff.mp hr
  cases rx with
  | int n =>
    simp only [rngF] at hr1
    split at hr1
    · rename_i hc
      cases hr1
      unfold cap at hc
      refine ⟨n, rfl, ?_, fun p hp => ?_⟩
      · exact ⟨by omega, by omega, by omega, by omega, by omega⟩
      · obtain ⟨A2, hF, hG, hl⟩ := A1.newO (o := .lst (rgV 0 n)) hp
        refine q2 F1 _ A2 (Ex'.refl F1) _ ⟨p, rfl, hG, .lst hF upd_same ?_, hl⟩
        exact reps_rng 0 n
    · cases hr1
  | _ => simp only [rngF] at hr1; cases hr1
end
end EV
namespace EV
open PySem PySem.Spec PyProof.Rows L2
section
variable {X : Cx} {W : WX} {T : Tab} {cal mkc : Cal} {a b c e o : Expr} {ea eb ec ek : Ex} {pos p p2 : Pos} {k : Nat}
/-! repr of data -/
mutual
theorem okB_ok : ∀ {d : PyData}, okB d = true → GH.okD d
  | .none, _ => trivial
  | .bool _, _ => trivial
  | .int i, h => by simp only [okB] at h; simp only [GH.okD]; simpa using h
  | .str x, h => by
    simp only [okB] at h; simp only [GH.okD]
    intro c hc
    have := List.all_eq_true.mp h c hc
    simpa using this
  | .list xs, h => by simp only [okB] at h; simp only [GH.okD]; exact okBs_ok h
  | .tuple xs, h => by simp only [okB] at h; simp only [GH.okD]; exact okBs_ok h
  | .dict _, h => by simp [okB] at h
theorem okBs_ok : ∀ {xs : List PyData}, okBs xs = true → GH.okAll xs
  | [], _ => trivial
  | x :: xs, h => by
    simp only [okBs, Bool.and_eq_true] at h
    simp only [GH.okAll]
    exact ⟨okB_ok h.1, okBs_ok h.2⟩
end
theorem cr_reprF (gd : X.A.guards = some []) (hr : Room k X.A) : CallR X (.builtin "repr") (rBlt X.K X.mg .repr) := by
  intro pins s σ H xs us Q I r h
  obtain ⟨F, ws, q, e, rs, hb, k⟩ := h
  refine GH.call_reprD gd hr pins s σ H xs us Q I r ?_
  cases rs with
  | nil => simp only [bltF] at hb; cases hb
  | @cons x v xs vs rx t =>
    cases t with
    | nil =>
      simp only [bltF] at hb
      split at hb
      · rename_i d hd
        split at hb
        · rename_i hc
          cases hb
          simp only [reprOk, Bool.and_eq_true, decide_eq_true_eq] at hc
          refine ⟨x, d, rfl, rx.dp e hd, okB_ok hc.1.1, hc.1.2, hc.2, ?_⟩
          have := k (.str d.shown) H ?_
          · exact this
          · have z := newS (K := X.K) (mg := X.mg) (F := F) (H := H) d.shown.cps.toList
            have e2 : toS d.shown.cps.toList = d.shown := by simp [toS]
            rw [e2] at z
            exact z
        · cases hb
      · cases hb
    | cons _ _ => simp only [bltF] at hb; cases hb
/-! calls by names -/
theorem sK_nil : PK X [] (tAs X.K X.mg W T cal mkc []) := by
  refine ⟨fun pos pins s σ H Q I q => pk_nil.run pos pins s σ H Q I ?_⟩
  obtain ⟨G, Z, F, ρ, A, q⟩ := q
  exact Aft.pur q A [] .nil
theorem sK_cons {nm : Option Str} {kpos : Pos} {kws : List Keyword} {xs : List Ex} (ha : PE X e (tE X.K X.mg W T cal mkc ea)) (hr : PK X kws (tAs X.K X.mg W T cal mkc xs)) (hn : ∀ z, ea ≠ .star z) : PK X (⟨nm, e, kpos⟩ :: kws) (tAs X.K X.mg W T cal mkc (ea :: xs)) := by
  refine ⟨fun pos pins s σ H Q I q => (pk_cons (pe_fix ha) hr).run pos pins s σ H Q I ?_⟩
  obtain ⟨G, Z, F, ρ, A, q⟩ := q
  have e1 : evEs T cal mkc (ea :: xs) ρ = EV.bnd (EV.bnd (evE T cal mkc ea ρ) fixv) fun v ρ2 => EV.bnd (evEs T cal mkc xs ρ2) fun vs ρ3 => EV.pur (v :: vs) ρ3 := by
    rw [bnd_assoc]
    cases ea with
    | star z => exact absurd rfl (hn z)
    | _ => rfl
  rw [e1] at q
  refine ⟨G, Z, F, ρ, A, q.bnd.imp fun F1 H1 ρ1 v A1 e1 q1 x rx => ⟨G, Z, F1, ρ1, A1, q1.bnd.imp fun F2 H2 ρ2 vs A2 e2 q2 ys rys => ?_⟩⟩
  exact Aft.pur q2 A2 _ (.cons (rx.mono e2) rys)
theorem kw_at {G Z F : Hp} {σ : L2.St} {H : Hp} {ρ : Ro} {xs : List V} {vs : List Val} {n : Nat} {f : String} {Q : VK} {C : Hp → Hp → Ro → Slot → Prop} (A : Abs X.K X.mg G Z F σ H ρ) (P : Reps X.K X.mg F xs vs) (hC : ∀ F' H' ρ' r, C F' H' ρ' r → ∀ x, ResR X.K X.mg G F' σ H' ρ' x r → Q x H') (hn : ∀ ss o, cal f ss = some o → ss.length = n)
    (h : Aft X.K X.mg W G Z F σ (kwEnd (cal f (vs.map .fz)) ρ) C) : spF X.K X.mg cal n f xs H Q fun c d H' => W c d σ H' := by
  obtain ⟨q1, q2⟩ := args_fz (H := H) P
  cases hm : cal f (vs.map .fz) with
  | none => rw [hm] at h; exact h.elim
  | some o =>
    refine ⟨F, vs.map .fz, hn _ _ hm, A.sub, q1, by rw [q2]; simp, ?_⟩
    rw [hm] at h ⊢
    have gr : ∀ {F' H' : Hp} {fin : List Slot}, EndR X.K X.mg F H xs (vs.map .fz) F' H' fin → Abs X.K X.mg G Z F' σ H' ρ := fun {F' H' fin} E => by
      refine A.grow E.up E.sub (fun a o h => E.kp a o h (by rw [q2]; simp)) fun a o h => ?_
      rcases E.nw a o h with q | q | q | q
      · exact .inl q
      · exact .inr (.inl q)
      · rw [q2] at q; simp at q
      · exact .inr (.inr q)
    cases o with
    | ex e fin =>
      intro F' H' d E rd
      exact h F' H' d (gr E) E.up rd
    | ok r fin =>
      intro F' H' y E ry
      refine hC F' H' ρ r (h F' H' (gr E) E.up) y ?_
      cases r with
      | un => exact ry.elim
      | fz v => exact ry
      | ow v =>
        obtain ⟨q, rfl, hq, o⟩ := ry
        obtain ⟨_, g, l⟩ := A.fresh hq
        exact ⟨q, rfl, g, o, l⟩
theorem sE_callK {g : {α : Type} → List α → List α} {d : Def} {st : Stmt} {x : Str} {nm : String} {ps ks : List Str} {kn : List String} {kws : List Keyword} {xs : List Ex} (D : GH.Def X.K X.mg x st) (O : OkE X.prog X.w X.K X.mg X.base k x nm ps cal) (gd : X.A.guards = some []) (hr : Room k X.A) (tk : Takes X W) (hd : T.fn nm = some d)
    (hkn : kn ≠ []) (hord : ∀ (vs ws : List Val), vs.length = kn.length → byName d.ps kn vs = some ws → ws = g vs) (hV : ∀ {zs : List V} {ws : List Value}, Vals zs ws → Vals (g zs) (g ws)) (hR : ∀ {F : Hp} {zs : List V} {vs : List Val}, Reps X.K X.mg F zs vs → Reps X.K X.mg F (g zs) (g vs)) (hkw : PK X kws (tAs X.K X.mg W T cal mkc xs))
    (hb : ∀ (kV doc pm : Value) (an : Option Addr) (cdv ct : Value) (ws : List Value), (g ws).length = ps.length → bindArgs (PySem.W.fnOf x x (defArgs st) (defBody st) (defScope st) .none kV doc pm an cdv ct) ⟨[], ks.zip ws⟩ = pure (ps.zip (g ws))) (hg : Gl X x := by rfl)
    (hall : (backToKw pos (keywordEach kws X.env)).all (·.1.isSome) = true := by rfl) (hks : (backToKw pos (keywordEach kws X.env)).filterMap (·.1) = ks := by rfl) (hdb : (x == ("__debug__" : Str)) = false := by decide)
    (hpl : ((backTo pos (starEach [] X.env)).any (·.1) || (backToKw pos (keywordEach kws X.env)).any (·.1.isNone)) = false := by rfl) :
    PE X (.Call (.Name x p) [] kws pos) (tE X.K X.mg W T cal mkc (.call nm xs kn)) := by
  obtain ⟨f, fd, F, _, m, kp, oc, od, osl, lk⟩ := O.ex
  obtain ⟨f1, fd1, F1, m1⟩ := D
  rw [m] at m1
  cases m1
  obtain ⟨oc1, od1, kV, doc, pm, an, cdv, ct, osl1, rfl, lk1, hcd⟩ := F1.ex
  rw [lk] at lk1
  cases lk1
  refine ⟨fun pins s σ H Q I h => ?_⟩
  obtain ⟨G, Z, F0, ρ, A, q⟩ := h
  have e1 : evE T cal mkc (.call nm xs kn) ρ = EV.bnd (evEs T cal mkc xs ρ) fun vs ρ1 => if vs.length = kn.length then (match byName d.ps kn vs with
        | some ws => kwEnd (cal nm (ws.map .fz)) ρ1
        | none => none) else none := by
    cases kn with
    | nil => exact absurd rfl hkn
    | cons z zs =>
      (simp only [evE, hd]) <;> rfl
  rw [e1] at q
  refine wpAny_Call_Name_kw (ld_glob I hg m ?_ hdb)
  refine PySem.W.callWith_KW0 (h₀ := X.base) I.ok.mod.kin kp hall (thn (hkw.run pos pins s σ H (fun zs H1 => spF X.K X.mg cal ps.length nm (g zs) H1 Q fun c d H' => W c d σ H') I ⟨G, Z, F0, ρ, A, q.bnd.imp fun F1 H1 ρ1 vs A1 e1 q1 ys rys => ?_⟩) fun ws s2 ⟨zs, H2, I2, rz, q2⟩ => ⟨I2.kIn, ?_⟩) hpl
  · split at q1
    · rename_i hl
      cases hm : byName d.ps kn vs with
      | none => rw [hm] at q1; exact q1.elim
      | some ws =>
        rw [hm] at q1
        have := hord vs ws hl hm
        subst this
        exact kw_at A1 (hR rys) (fun _ _ _ _ c => c) O.ln q1
    · exact q1.elim
  · rw [hks]
    exact run_fnE (args := ⟨[], ks.zip ws⟩) F gd hr tk (fun hl => .of_eq (hb kV doc pm an cdv ct ws hl)) I2 (hV rz) q2
def gI {α : Type} (l : List α) : List α := l
theorem gI_V {zs : List V} {ws : List Value} (h : Vals zs ws) : Vals (gI zs) (gI ws) := h
theorem gI_R {K : PySem.W.Frag} {mg : Str → Option Value} {F : Hp} {zs : List V} {vs : List Val} (h : Reps K mg F zs vs) : Reps K mg F (gI zs) (gI vs) := h
theorem sw_R {K : PySem.W.Frag} {mg : Str → Option Value} {F : Hp} : ∀ {zs : List V} {vs : List Val}, Reps K mg F zs vs → Reps K mg F (GH.swp zs) (GH.swp vs)
  | _, _, .nil => .nil
  | _, _, .cons _ .nil => .nil
  | _, _, .cons a (.cons b .nil) => .cons b (.cons a .nil)
  | _, _, .cons _ (.cons _ (.cons _ _)) => .nil
end
end EV
namespace EV
open PySem PySem.Spec PyProof.Rows L2
section
variable {pr : List Nat} {X : Cx} {W : WX} {T : Tab} {cal mkc : Cal} {a b c e o : Expr} {ea eb ec ek : Ex} {pos p p2 : Pos} {k : Nat}
theorem sS_par3 {i j l : Nat} {x y z : Str} {xs : List Ex} {px py pz pt pt2 : Pos} {kt k2} (hp : ∀ n ∈ [i, j, l], n ∉ pr) (hc : X.calm = true) (hN : X.N.Nodup) (hi : X.N[i]? = some x) (hj : X.N[j]? = some y) (hl : X.N[l]? = some z) (hij : i ≠ j) (hil : i ≠ l) (hjl : j ≠ l) (hx : X.env.scope.names.lookup x = some .local) (hy : X.env.scope.names.lookup y = some .local) (hz : X.env.scope.names.lookup z = some .local) (ha : PA X [a, b, c] (tSl X W T cal mkc xs))
    (hw : swappedStores [.Tuple [.Name x px, .Name y py, .Name z pz] kt pt] (.Tuple [a, b, c] k2 pt2) X.env = pure (some [x, y, z])) (hs : swapsWithSole [.Tuple [.Name x px, .Name y py, .Name z pz] kt pt] (.Tuple [a, b, c] k2 pt2) pos.line X.env = pure false := by rfl) :
    PS X (.Assign [.Tuple [.Name x px, .Name y py, .Name z pz] kt pt] (.Tuple [a, b, c] k2 pt2) pos) (tS X W T cal mkc pr (.par [i, j, l] xs)) := by
  refine (ps_par3 hc hN hi hj hl hij hil hjl hx hy hz ha hw hs).imp fun D σ H q => ?_
  obtain ⟨G, Z, F, ρ, A, q⟩ := par_red hp q
  refine ⟨G, Z, F, ρ, A, q.imp fun F1 H1 ρ1 rs A1 e1 q1 xs rx => ?_⟩
  obtain ⟨hl, q1⟩ := q1 xs rx
  match xs, hl, q1 with
  | [u, v, w], _, q1 => exact ⟨u, v, w, rfl, q1⟩
/-! by way of a tuple -/
def gNs : List Nat → TGs
  | [] => gNil
  | i :: is => gCons (gName i) (gNs is)
theorem gNs_of : ∀ {is : List Nat} {xs : List V} {σ : L2.St} {H : Hp} {Q : L2.St → Hp → Prop}, xs.length = is.length → Q (setV is xs σ) H → gNs is xs σ H Q
  | [], [], σ, H, Q, _, q => ⟨rfl, q⟩
  | [], _ :: _, _, _, _, h, _ => nomatch h
  | _ :: _, [], _, _, _, h, _ => nomatch h
  | i :: is, x :: xs, σ, H, Q, h, q => ⟨x, xs, rfl, gNs_of (is := is) (xs := xs) (by simpa using h) q⟩
theorem sN_nil : PGs X [] (gNs []) := pgs_nil
theorem sN_cons {es : List Expr} {is : List Nat} {i : Nat} {x : Str} {px : Pos} (hN : X.N.Nodup) (hi : X.N[i]? = some x) (hx : Loc X.env.scope x) (h : PGs X es (gNs is)) (hf : X.fn x = true ∨ X.env.scope.names.lookup x = some .local := by first | exact .inl rfl | exact .inr rfl | assumption)
    (hs : (assignEach (.Name x px :: es) X.env).map (·.2) = assign (.Name x px) X.env :: (assignEach es X.env).map (·.2) := by rfl) : PGs X (.Name x px :: es) (gNs (i :: is)) := pgs_cons (pg_name hN hi hx hf) h hs
theorem sS_parT {is : List Nat} {xs : List Ex} {ts es : List Expr} {pt pt2 : Pos} {kt k2} (hp : ∀ n ∈ is, n ∉ pr) (hc : X.calm = true) (ha : PA X es (tSl X W T cal mkc xs)) (hg : PGs X ts (gNs is)) (hcap : is.length ≤ 100)
    (hn : (assignEach ts X.env).length = is.length := by rfl) (hst : (assignEach ts X.env).findIdx? (·.1) = none := by rfl)
    (hs : swapsWithSole [.Tuple ts kt pt] (.Tuple es k2 pt2) pos.line X.env = pure false := by rfl) (hw : swappedStores [.Tuple ts kt pt] (.Tuple es k2 pt2) X.env = pure none := by rfl) (h1 : (assignEach [.Tuple ts kt pt] X.env).map (·.2) = [assign (.Tuple ts kt pt) X.env] := by rfl) :
    PS X (.Assign [.Tuple ts kt pt] (.Tuple es k2 pt2) pos) (tS X W T cal mkc pr (.par is xs)) := by
  refine (ps_asg (pe_tup ha) (pg_tup hc hg hn hst) hs hw h1).imp fun D σ H q => ?_
  obtain ⟨G, Z, F, ρ, A, q⟩ := q
  refine ⟨G, Z, F, ρ, A, (AftS.bnd q).imp fun F1 H1 ρ1 rs A1 e1 q1 ys ry => ?_⟩
  cases hm : setAll is rs ρ1 with
  | none => rw [hm] at q1; exact q1.elim
  | some ρ2 =>
    rw [hm] at q1
    have l1 := ry.all.length
    have l2 := setAll_len hm
    refine ⟨?_, fun p hp2 => ?_⟩
    · rw [sizeLine_eq]; omega
    · obtain ⟨A2, hF, hG, hl⟩ := A1.newO (o := .tup ys) hp2
      refine ⟨p, ys, rfl, .inl (.inl upd_same), by omega, gNs_of (by omega) ?_⟩
      refine AftS.nxK q1 (abs_setAll A2 (paired_imp (fun x r h => ?_) ry.all) ry.ap hm) (kp_setV hp)
      cases r with
      | un => exact h.elim
      | fz v => exact h
      | ow v =>
        obtain ⟨q, rfl, g, o, l⟩ := h
        obtain ⟨u, hu, _⟩ := o.at
        have hne : q ≠ p := fun z => by rw [z, hp2] at hu; cases hu
        exact ⟨q, rfl, g, o.keep (Ex'.refl _) o.no (upd_ne hne), l⟩
  where
    setAll_len : ∀ {is : List Nat} {rs : List Slot} {ρ ρ2 : Ro}, setAll is rs ρ = some ρ2 → rs.length = is.length := by
      intro is
      induction is with
      | nil => intro rs ρ ρ2 h; cases rs <;> simp [setAll] at h ⊢
      | cons i is ih =>
        intro rs ρ ρ2 h
        cases rs with
        | nil => simp [setAll] at h
        | cons r rs =>
          simp only [setAll] at h
          split at h
          · simp [ih h]
          · cases h
end
end EV
namespace EV
open PySem PySem.Spec PyProof.Rows L2
section
variable {X : Cx} {W : WX} {k : Nat} {f : Addr} {fd : FuncData} {ps : List Str} {sp : Sp}
/-- a def that a built-in calls -/
theorem run_fnE1 {pins : List (Addr × Obj)} {σ : L2.St} {H : Hp} {s : Shared} {Q : VK} {us : List Value} {vs : List V} {args : Args} (F : FnE X.prog X.w X.K X.mg X.base k f fd ps sp) (gd : X.A.guards = some []) (hr : Room (k + 1) X.A) (tk : Takes X W)
    (hb : us.length = ps.length → BindsTo s fd args (ps.zip us)) (I : Inv X pins σ H s) (r : Vals vs us) (h : sp vs H Q fun c d H' => W c d σ H') : wpAny (model X.prog X.w) X.A.in1 (call (.ref f) args.pos args.kw) (EP X pins σ Q) X.xe s := by
  have hl : us.length = ps.length := by rw [← r.length]; exact F.ln _ _ _ _ h
  have e0 : Env0 X.prog X.w X.K X.mg X.base X.A.in1 X.stack s H := by
    have e := I.env0
    exact ⟨e.frames, e.mod, e.bs, e.bsz, e.funs, e.frf, e.hok, e.bare⟩
  refine wpAny_call (codeAny_mono (F.go X.A.in1 X.stack s H args us vs Q _ gd hr.in1 e0 (hb hl) r h) fun o s' hq => ?_)
  cases o with
  | error e => exact tk e s' (XE.of_call I (fun _ _ _ h => h) hq)
  | ok fl => cases fl with
    | ret u => exact I.after hq
    | next => exact False.elim hq
    | brk => exact False.elim hq
    | cont => exact False.elim hq
end
section
variable {X : Cx} {W : WX} {T : Tab} {cal mkc : Cal} {a b c e o : Expr} {ea eb ec ek : Ex} {pos p p2 : Pos} {k : Nat}
theorem sE_ln {d : Def} {fa : Addr} {fd : FuncData} {pS : List Str} {n : Nat} {cn f : String} {xs : List Ex} {k : Nat} (F : FnE X.prog X.w X.K X.mg X.base k fa fd pS (spF X.K X.mg mkc n f)) (gd : X.A.guards = some []) (hr : Room (k + 1) X.A) (tk : Takes X W)
    (hb : ∀ (s : Shared) (us : List Value), us.length = pS.length → BindsTo s fd ⟨us, []⟩ (pS.zip us)) (hme : Meth X.K (GH.clsA X.mg (Str.ofString cn)) "__len__" fa) (hp1 : pS.length = 1) (hd : T.fn f = some d) (hn : ∀ ss o, mkc f ss = some o → ss.length = n)
    (hg : Gl X "len") (hm : X.mg "len" = none) (ha : PA X [e] (tArgs X W T cal mkc d.io xs))
    (he : starEach [e] X.env = (false, eval e X.env) :: starEach [] X.env) (hpl : (backTo pos (starEach [] X.env)).any (·.1) = false) :
    PE X (.Call (.Name "len" p) [e] [] pos) (tE X.K X.mg W T cal mkc (.ln f cn xs)) := by
  refine ⟨fun pins s σ H Q I h => ?_⟩
  obtain ⟨G, Z, F0, ρ, A, q⟩ := h
  have e1 : evE T cal mkc (.ln f cn xs) ρ = EV.bnd (evAs T cal mkc d.io xs ρ) fun as ρ1 => if !(as.all (Arg.isObj ρ1 cn "__len__")) then none else EV.bnd (callF mkc d.ps f [] as ρ1) lenEnd := by
    simp only [evE, hd]
  rw [e1] at q
  refine wpAny_Call_Name_kw (ld_blt I hg hm PySem.boot_len ?_ (by decide) (by decide))
  refine PyProof.Rows.callWith_builtin1 (thn (ha.run pos pins s σ H (fun vs H1 => (∃ a dx fs, vs = [.ref a] ∧ H1 a = some (.ins (GH.clsA X.mg (Str.ofString cn)) dx fs)) ∧ spF X.K X.mg mkc n f vs H1 (fun v H' => ∃ m : Int, v = .int m ∧ 0 ≤ m ∧ m < 2 ^ 63 ∧ Q (.int m) H') fun c d H' => W c d σ H') I
    ⟨G, Z, F0, ρ, A, q.bnd.imp fun F1 H1 ρ1 as A1 e1 q1 ys rys => ?_⟩) fun us s1 ⟨vs, H1, I1, r, ⟨a, dx, fs, ev, ea⟩, q⟩ => ?_) he hpl
  · split at q1
    · exact q1.elim
    · rename_i hc
      have hc : as.all (Arg.isObj ρ1 cn "__len__") = true := by simpa using hc
      have sp : spF X.K X.mg mkc n f ys H1 (fun v H' => ∃ m : Int, v = .int m ∧ 0 ≤ m ∧ m < 2 ^ 63 ∧ Q (.int m) H') fun c d H' => W c d σ H' := by
        refine call_at A1 rys (C := fun F2 H2 ρ2 r => ∀ x, ResR X.K X.mg G F2 σ H2 ρ2 x r → ∃ m : Int, x = .int m ∧ 0 ≤ m ∧ m < 2 ^ 63 ∧ Q (.int m) H2) (fun _ _ _ _ c => c) hn (q1.bnd.imp fun F2 H2 ρ2 r A2 e2 q2 x rx => ?_)
        unfold lenEnd at q2
        split at q2
        · split at q2
          · rename_i m hm
            have rx' : Rep X.K X.mg F2 x (.int m) := rx
            have hx : x = .int m := by cases rx'; rfl
            exact ⟨m, hx, hm.1, hm.2, q2.pur A2 _ (by subst hx; exact rx')⟩
          · exact q2.elim
        · exact q2.elim
      have hl := F.ln _ _ _ _ sp
      rw [hp1] at hl
      match ys, as, rys, hl with
      | [y], [r], .cons ry .nil, _ =>
        have hr1 : r.isObj ρ1 cn "__len__" = true := by simpa using hc
        obtain ⟨a, dx, fs, rfl, h1, _⟩ := isObj_at A1 ry hr1
        exact ⟨⟨a, dx, fs, rfl, h1⟩, sp⟩
  · subst ev
    obtain ⟨u, rfl, ru⟩ := vals1 r
    obtain rfl : u = Value.ref a := ru
    obtain ⟨mA, J, _⟩ := ins_get I1.hok ea
    obtain ⟨od, J, _⟩ := J.look
    obtain ⟨m, hF⟩ := I1.fr
    refine PySem.W.len_K hF I1.ok.mod.kin J hme.at_ hme.fn ?_
    refine wpAny_mono (run_fnE1 (us := [.ref a]) (vs := [.ref a]) (args := ⟨[.ref a], []⟩) F gd hr tk (hb s1 [.ref a]) I1 (.cons rfl .nil) q) (fun v s2 hv => ?_) fun _ _ x => x
    obtain ⟨z, H2, I2, rz, i, rfl, h0, h1, hq⟩ := hv
    obtain ⟨t, rfl⟩ := rz
    exact ⟨⟨h0, h1⟩, .int i, H2, I2.tok _, ⟨_, rfl⟩, hq⟩
theorem lE {d : Def} {cn nm : String} {ps : List Str} {xs : List Ex} (O : OkME X.prog X.w X.K X.mg X.base k cn "__len__" nm ps mkc) (gd : X.A.guards = some []) (hr : Room (k + 1) X.A) (tk : Takes X W) (hp1 : ps.length = 1) (hd : T.fn nm = some d) (hm : X.mg "len" = none) (ha : PA X [e] (tArgs X W T cal mkc d.io xs)) (hg : Gl X "len" := by rfl)
    (he : starEach [e] X.env = (false, eval e X.env) :: starEach [] X.env := by rfl) (hpl : (backTo pos (starEach [] X.env)).any (·.1) = false := by rfl) :
    PE X (.Call (.Name "len" p) [e] [] pos) (tE X.K X.mg W T cal mkc (.ln nm cn xs)) := by
  obtain ⟨f, fd, F, hb, cl, hme⟩ := O.ex
  exact sE_ln F gd hr tk hb hme hp1 hd O.ln hg hm ha he hpl
end
end EV
namespace EV
open PySem PySem.Spec PyProof.Rows L2
def spL (K : PySem.W.Frag) (mg : Str → Option Value) (cal : Cal) (nm : String) : Sp := fun vs H Q _ => spF K mg cal 1 nm vs H Q fun _ _ _ => False
theorem okG_of {P : Program} {w : World} {K : PySem.W.Frag} {mg : Str → Option Value} {base : Heap} {k : Nat} {x p : Str} {nm : String} {cal : Cal} (O : OkE P w K mg base k x nm [p] cal) : GH.OkG P w K mg base k x [p] (spL K mg cal nm) := by
  obtain ⟨f, fd, F, hb, m, kp, lk⟩ := O.ex
  refine ⟨f, fd, ⟨fun vs H Q E h => F.ln vs H Q _ h, fun A ou s H args us vs Q E gd hr ev bt rl hs => ?_⟩, fun s us _ hl => ?_, m, kp, hb, lk⟩
  · refine codeAny_mono (F.go A ou s H args us vs Q _ gd hr ev bt rl hs) fun o s' h => ?_
    cases o with
    | error e =>
      obtain ⟨a, B, H', cls, d, _, _, _, _, _, _, _, z⟩ := h
      exact z.elim
    | ok fl => cases fl <;> exact h
  · rw [List.append_nil] at hl ⊢
    exact hb s us hl
/-- the law holds where the evaluator says so -/
theorem law_sp {K : PySem.W.Frag} {mg : Str → Option Value} {cal : Cal} {nm : String} {ns : List Int} {fin : List Slot} (h : cal nm [.fz (.scr ns)] = some (.ok (.fz (.bl true)) fin)) {H : Hp} {a : Addr} (s : SqL K H a (ns.map V.int)) (E : XK) : spL K mg cal nm [.ref a] H (fun v _ => v = .bl true) E := by
  refine ⟨H, [.fz (.scr ns)], rfl, Ex'.refl H, .cons (Rep.scr s) .nil, by simp [ioOf], ?_⟩
  rw [h]
  intro F' H' x E' rx
  cases rx
  rfl
end EV
namespace EV
/-! ### how to compute with the evaluator -/
theorem evF_succ (T : Tab) (k : Nat) : evF T (k + 1) = evB T (evF T k) (ev2 T k).2 := rfl
theorem mkc_succ (T : Tab) (k : Nat) : (ev2 T (k + 1)).2 = evF T k := rfl
theorem run_def {T : Tab} {cal mkc : Cal} {f : String} {d : Def} {args : List Slot} (hd : T.fn f = some d) (hx : T.ext f = none) (h : (args.length == d.ps.length && decide (d.ps.length ≤ d.n) && sameKind args d.io) = true) : evB T cal mkc f args = endF args d.ps.length (evSs T cal mkc d.body (args ++ List.replicate (d.n - d.ps.length) .un)) := by
  simp only [Bool.and_eq_true, beq_iff_eq, decide_eq_true_eq] at h
  simp only [evB, hx, hd]
  rw [if_pos ⟨h.1.1, h.1.2, h.2⟩]
theorem set_id {α : Type} {l : List α} {i : Nat} {x : α} (h : l[i]? = some x) : l.set i x = l := by
  apply List.ext_getElem?
  intro j
  have hi := (List.getElem?_eq_some_iff.mp h).1
  rw [set_get hi]
  by_cases hj : j = i
  · rw [if_pos hj, hj, h]
  · rw [if_neg hj]
/-! comprehensions whose turns change nothing -/
theorem lc_one {f : Ro → Res (Option Val)} {i : Nat} {g : Val → Option Val} {ρ : Ro} (hi : ρ[i]? = some .un) : ∀ {xs : List Val}, (∀ x ∈ xs, f (ρ.set i (.fz x)) = some (.ok (g x) (ρ.set i (.fz x)))) → lcLoop f (.nm i) [i] xs ρ = some (.ok (xs.filterMap g) ρ)
  | [], _ => rfl
  | x :: xs, h => by
    have hl := (List.getElem?_eq_some_iff.mp hi).1
    have ih := lc_one (f := f) (g := g) hi (xs := xs) fun y hy => h y (List.mem_cons_of_mem _ hy)
    have hw : wipeR (ρ.set i (.fz x)) [i] = ρ := by
      simp only [wipeR]
      rw [List.set_set, set_id hi]
    simp only [lcLoop, assn]
    rw [if_pos hl]
    simp only [h x List.mem_cons_self, bnd_ok, hw, ih, pur]
    rw [List.filterMap_cons]
    cases g x <;> rfl
section
variable {T : Tab} {cal mkc : Cal}
theorem ev_lc1 {i : Nat} {it : Iter} {c : Option Ex} {e : Ex} {ρ ρ1 : Ro} {xs : List Val} {s : Slot} {g : Val → Option Val} (hit : evIt T cal mkc it ρ = some (.ok xs ρ1)) (hl : xs.length ≤ cap) (hi : ρ1[i]? = some s) (hs : ∀ v, s ≠ .ow v)
    (h : ∀ x ∈ xs, lcF T cal mkc c e (ρ1.set i (.fz x)) = some (.ok (g x) (ρ1.set i (.fz x)))) : evE T cal mkc (.lc [i] (.nm i) it c e) ρ = some (.ok (.ow (.lst (xs.filterMap g))) ρ1) := by
  have hil := (List.getElem?_eq_some_iff.mp hi).1
  have hcl : clean [i] ρ1 = true := by
    cases s with
    | ow v => exact absurd rfl (hs v)
    | fz v => simp [clean, hi]
    | un => simp [clean, hi]
  have hu : (wipeR ρ1 [i])[i]? = some .un := by simp only [wipeR]; exact List.getElem?_set_self hil
  have hlp : lcLoop (lcF T cal mkc c e) (.nm i) [i] xs (wipeR ρ1 [i]) = some (.ok (xs.filterMap g) (wipeR ρ1 [i])) := by
    refine lc_one hu fun x hx => ?_
    have e1 : (wipeR ρ1 [i]).set i (.fz x) = ρ1.set i (.fz x) := by simp only [wipeR]; rw [List.set_set]
    rw [e1]; exact h x hx
  have hun : unwipe [i] ρ1 (wipeR ρ1 [i]) = ρ1 := by
    simp only [unwipe, wipeR, hi, Option.getD_some]
    first | done | (rw [List.set_set, set_id hi])
  simp only [evE, hit, bnd_ok]
  rw [if_pos ⟨hl, hcl⟩]
  have hlp' := hlp
  unfold lcF at hlp'
  rw [hlp']
  simp only [quiet, bnd_ok, pur, hun]
theorem ev_lcG {ns : List Nat} {t : Tg} {it : Iter} {c : Option Ex} {e : Ex} {ρ ρ1 ρ2 : Ro} {xs ys : List Val} (hit : evIt T cal mkc it ρ = some (.ok xs ρ1)) (hl : xs.length ≤ cap) (hc : clean ns ρ1 = true) (h : lcLoop (lcF T cal mkc c e) t ns xs (wipeR ρ1 ns) = some (.ok ys ρ2)) : evE T cal mkc (.lc ns t it c e) ρ = some (.ok (.ow (.lst ys)) (unwipe ns ρ1 ρ2)) := by
  simp only [evE, hit, bnd_ok]
  rw [if_pos ⟨hl, hc⟩]
  have h' := h
  unfold lcF at h'
  rw [h']
  simp only [quiet, bnd_ok, pur]
/-! loops -/
theorem forF_inv {body : Ro → Res Fl} {t : Tg} (I : Nat → Ro → Prop) : ∀ (xs : List Val) (n : Nat) (ρ : Ro), I n ρ → (∀ (m : Nat) (x : Val) (ρ : Ro), xs[m]? = some x → I (n + m) ρ → ∃ ρ1 ρ2, assn t (.fz x) ρ = some ρ1 ∧ body ρ1 = some (.ok .nx ρ2) ∧ I (n + m + 1) ρ2) → ∃ ρ', forF body t xs ρ = some (.ok .nx ρ') ∧ I (n + xs.length) ρ'
  | [], n, ρ, h0, _ => ⟨ρ, rfl, h0⟩
  | x :: xs, n, ρ, h0, hs => by
    obtain ⟨ρ1, ρ2, h1, h2, h3⟩ := hs 0 x ρ rfl h0
    obtain ⟨ρ', h4, h5⟩ := forF_inv I xs (n + 1) ρ2 h3 fun m y ρ hy hI => by
      have := hs (m + 1) y ρ (by simpa using hy) (by rw [show n + (m + 1) = n + 1 + m by omega]; exact hI)
      rw [show n + (m + 1) + 1 = n + 1 + m + 1 by omega] at this
      exact this
    refine ⟨ρ', ?_, by rw [List.length_cons, show n + (xs.length + 1) = n + 1 + xs.length by omega]; exact h5⟩
    simp only [forF, h1, h2, bnd_ok, h4]
theorem lc_inv {f : Ro → Res (Option Val)} {t : Tg} {ns : List Nat} (I : Nat → Ro → List Val → Prop) : ∀ (xs : List Val) (n : Nat) (ρ : Ro) (acc : List Val), I n ρ acc → (∀ (m : Nat) (x : Val) (ρ : Ro) (acc : List Val), xs[m]? = some x → I (n + m) ρ acc → ∃ ρ1 y ρ2, assn t (.fz x) ρ = some ρ1 ∧ f ρ1 = some (.ok y ρ2) ∧ I (n + m + 1) (wipeR ρ2 ns) (acc ++ y.toList)) → ∃ ys ρ', lcLoop f t ns xs ρ = some (.ok ys ρ') ∧ I (n + xs.length) ρ' (acc ++ ys)
  | [], n, ρ, acc, h0, _ => ⟨[], ρ, rfl, by simpa using h0⟩
  | x :: xs, n, ρ, acc, h0, hs => by
    obtain ⟨ρ1, y, ρ2, h1, h2, h3⟩ := hs 0 x ρ acc rfl h0
    obtain ⟨ys, ρ', h4, h5⟩ := lc_inv I xs (n + 1) (wipeR ρ2 ns) (acc ++ y.toList) h3 fun m z ρ acc hz hI => by
      have := hs (m + 1) z ρ acc (by simpa using hz) (by rw [show n + (m + 1) = n + 1 + m by omega]; exact hI)
      rw [show n + (m + 1) + 1 = n + 1 + m + 1 by omega] at this
      exact this
    refine ⟨y.toList ++ ys, ρ', ?_, by rw [List.length_cons, show n + (xs.length + 1) = n + 1 + xs.length by omega, ← List.append_assoc]; exact h5⟩
    simp only [lcLoop, h1, h2, bnd_ok, h4, pur]
    cases y <;> rfl
theorem whlF_inv {test : Ro → Res Bool} {body : Ro → Res Fl} (I J : Ro → Prop) (μ : Ro → Nat)
    (hs : ∀ ρ, I ρ → (∃ ρ1 ρ2, test ρ = some (.ok true ρ1) ∧ body ρ1 = some (.ok .nx ρ2) ∧ I ρ2 ∧ μ ρ2 < μ ρ) ∨ ∃ ρ1, test ρ = some (.ok false ρ1) ∧ J ρ1) : ∀ (n : Nat) (ρ : Ro), I ρ → μ ρ < n → ∃ ρ', whlF test body n ρ = some (.ok .nx ρ') ∧ J ρ'
  | 0, ρ, _, h => by omega
  | n + 1, ρ, hI, h => by
    rcases hs ρ hI with ⟨ρ1, ρ2, h1, h2, h3, h4⟩ | ⟨ρ1, h1, h2⟩
    · obtain ⟨ρ', h5, h6⟩ := whlF_inv I J μ hs n ρ2 h3 (by omega)
      refine ⟨ρ', ?_, h6⟩
      simp only [whlF, h1, bnd_ok, if_true, h2, h5]
    · refine ⟨ρ1, ?_, h2⟩
      simp only [whlF, h1, bnd_ok, Bool.false_eq_true, if_false, pur]
end
end EV
namespace EV
open PySem GH
/-! ### data of a small depth -/
def Sh (m : Nat) (v : Val) : Prop := ∃ d, toD v = some d ∧ d.canLay0 = true ∧ d.depth ≤ m
theorem Sh.shp {m : Nat} {v : Val} (h : Sh m v) (hm : m ≤ 64) : shp v = true := by
  obtain ⟨d, h1, h2, h3⟩ := h
  unfold EV.shp
  rw [h1]
  show (d.canLay0 && decide (d.depth ≤ 64)) = true
  rw [h2, decide_eq_true (by omega)]; rfl
theorem Sh.mono {m n : Nat} {v : Val} (h : Sh m v) (hm : m ≤ n) : Sh n v := by
  obtain ⟨d, h1, h2, h3⟩ := h
  exact ⟨d, h1, h2, by omega⟩
theorem Sh.int (i : Int) : Sh 0 (.int i) := ⟨_, rfl, rfl, by simp [PyData.depth]⟩
theorem Sh.all {m : Nat} : ∀ {xs : List Val}, (∀ x ∈ xs, Sh m x) → ∃ ds, toDs xs = some ds ∧ PyData.canLayAll0 ds = true ∧ PyData.depthAll ds ≤ m
  | [], _ => ⟨[], by simp [toDs], rfl, by simp [PyData.depthAll]⟩
  | x :: xs, h => by
    obtain ⟨d, h1, h2, h3⟩ := h x List.mem_cons_self
    obtain ⟨ds, g1, g2, g3⟩ := Sh.all (xs := xs) fun y hy => h y (List.mem_cons_of_mem _ hy)
    refine ⟨d :: ds, by simp [toDs, h1, g1], by simp [PyData.canLayAll0, h2, g2], ?_⟩
    simp only [PyData.depthAll]
    omega
theorem Sh.lst {m : Nat} {xs : List Val} (h : ∀ x ∈ xs, Sh m x) : Sh (m + 1) (.lst xs) := by
  obtain ⟨ds, g1, g2, g3⟩ := Sh.all h
  refine ⟨.list ds, by simp [toD, g1], by simp [PyData.canLay0, g2], ?_⟩
  simp only [PyData.depth]
  omega
theorem Sh.tup {m : Nat} {xs : List Val} (h : ∀ x ∈ xs, Sh m x) : Sh (m + 1) (.tup xs) := by
  obtain ⟨ds, g1, g2, g3⟩ := Sh.all h
  refine ⟨.tuple ds, by simp [toD, g1], by simp [PyData.canLay0, g2], ?_⟩
  simp only [PyData.depth]
  omega
/-! ### places as values -/
class Pl (α : Type) [DecidableEq α] where
  pv : α → Val
  tp : Bool
  eq' : ∀ a b, eqv (pv a) (pv b) = decide (a = b)
  sh : ∀ a, Sh 2 (pv a)
  key : ∀ a, keyOk (pv a) = true
  dk : ∀ a, dkey (pv a) = true
  tu : ∀ a, isTup (pv a) = tp
open Pl
instance : Pl Int where
  pv := .int
  tp := false
  eq' := fun a b => by simp [eqv]; rfl
  sh := fun a => (Sh.int a).mono (by omega)
  key := fun _ => rfl
  dk := fun _ => rfl
  tu := fun _ => rfl
section
variable {α β : Type} [DecidableEq α] [Pl α]
theorem look_dct (D : List β) (f : β → α) (g : β → Val) (a : α) : look (D.map fun b => (pv (f b), g b)) (pv a) = (D.find? fun b => decide (f b = a)).map g := by
  unfold look
  rw [List.find?_map, Option.map_map]
  simp only [Function.comp_def, eq']
theorem look_some (D : List β) (f : β → α) (g : β → Val) (a : α) : (look (D.map fun b => (pv (f b), g b)) (pv a)).isSome = decide (a ∈ D.map f) := by
  rw [look_dct, Option.isSome_map, Bool.eq_iff_iff, List.find?_isSome, decide_eq_true_iff, List.mem_map]
  simp only [decide_eq_true_iff]
theorem look_at {D : List α} {a : α} (h : a ∈ D) (g : α → Val) : look (D.map fun b => (pv b, g b)) (pv a) = some (g a) := by
  have := look_dct D id g a
  simp only [id] at this
  rw [this]
  cases e : D.find? fun b => decide (b = a) with
  | none => exact absurd (by simpa using List.find?_eq_none.mp e a h) id
  | some b =>
    have := List.find?_some e
    rw [decide_eq_true_iff] at this
    rw [this]; rfl
theorem put_new {D : List β} {f : β → α} {g : β → Val} {a : α} (h : a ∉ D.map f) (v : Val) : put (D.map fun b => (pv (f b), g b)) (pv a) v = (D.map fun b => (pv (f b), g b)) ++ [(pv a, v)] := by
  unfold put
  rw [if_neg]
  intro z
  rw [List.any_map, List.any_eq_true] at z
  obtain ⟨b, hb, e⟩ := z
  simp only [Function.comp_def, eq', decide_eq_true_iff] at e
  exact h (List.mem_map.mpr ⟨b, hb, e⟩)
theorem fits_dct (D : List β) (f : β → α) (g : β → Val) (a : α) : fits (D.map fun b => (pv (f b), g b)) (pv a) = true := by
  unfold fits
  rw [List.all_map, List.all_eq_true]
  intro b _
  simp [tu]
theorem any_pv (l : List α) (x : α) : ((l.map pv).any fun y => eqv y (pv x)) = decide (x ∈ l) := by
  rw [List.any_map, Bool.eq_iff_iff, List.any_eq_true, decide_eq_true_iff]
  simp only [Function.comp_def, eq', decide_eq_true_iff]
  exact ⟨fun ⟨y, hy, e⟩ => e ▸ hy, fun h => ⟨x, h, rfl⟩⟩
theorem shp_pv (a : α) : shp (pv a) = true := (sh a).shp (by omega)
theorem shp_pvs (l : List α) : shp (.lst (l.map pv)) = true := (Sh.lst (m := 2) fun x hx => by
  obtain ⟨a, _, rfl⟩ := List.mem_map.mp hx
  exact sh a).shp (by omega)
theorem shp_pvt (l : List α) : shp (.tup (l.map pv)) = true := (Sh.tup (m := 2) fun x hx => by
  obtain ⟨a, _, rfl⟩ := List.mem_map.mp hx
  exact sh a).shp (by omega)
theorem in_lst (x : α) (l : List α) : inF (pv x) (.lst (l.map pv)) = some (decide (x ∈ l)) := by
  show (if shp (pv x) && shp (.lst (l.map pv)) then _ else _) = _
  rw [shp_pv, shp_pvs, any_pv]; rfl
theorem in_tup (x : α) (l : List α) : inF (pv x) (.tup (l.map pv)) = some (decide (x ∈ l)) := by
  show (if shp (pv x) && shp (.tup (l.map pv)) then _ else _) = _
  rw [shp_pv, shp_pvt, any_pv]; rfl
theorem in_dct (x : α) (D : List β) (f : β → α) (g : β → Val) : inF (pv x) (.dct (D.map fun b => (pv (f b), g b))) = some (decide (x ∈ D.map f)) := by
  show (if dkey (pv x) && fits _ (pv x) then _ else _) = _
  rw [dk, fits_dct, look_some]; rfl
theorem idx_dct {D : List α} {a : α} (h : a ∈ D) (g : α → Val) : idxF (.dct (D.map fun b => (pv b, g b))) (pv a) = some (g a) := by
  have e : idxF (.dct (D.map fun b => (pv b, g b))) (pv a) = if dkey (pv a) && fits (D.map fun b => (pv b, g b)) (pv a) then look (D.map fun b => (pv b, g b)) (pv a) else none := rfl
  have hf : fits (D.map fun b => (pv b, g b)) (pv a) = true := fits_dct D id g a
  rw [e, dk, hf, look_at h]; rfl
/-- some places, told as a list or as a dict -/
structure InsV (iv : Val) (ins : List α) : Prop where
  is : ∀ x : α, inF (pv x) iv = some (decide (x ∈ ins))
  items : itemsF iv = some (ins.map pv)
theorem insV_lst (l : List α) : InsV (.lst (l.map pv)) l := ⟨fun x => in_lst x l, rfl⟩
theorem insV_dct (D : List α) (g : α → Val) : InsV (.dct (D.map fun a => (pv a, g a))) D :=
  ⟨fun x => by have := in_dct x D id g; simpa using this, by simp [itemsF, Function.comp_def]⟩
/-- keys that are done -/
theorem put_true (l : List α) (a : α) : put (l.map fun a => (pv a, .bl true)) (pv a) (.bl true) = (if a ∈ l then l else l ++ [a]).map fun a => (pv a, .bl true) := by
  by_cases h : a ∈ l
  · rw [if_pos h]
    unfold put
    rw [if_pos]
    · rw [List.map_map]
      apply List.map_congr_left
      intro b _
      simp only [Function.comp_def]
      split <;> rfl
    · rw [List.any_map, List.any_eq_true]
      exact ⟨a, h, by simp [eq']⟩
  · rw [if_neg h, List.map_append]
    exact put_new (f := id) (by simpa using h) _
theorem put_trues : ∀ (r l : List α), r.Nodup → (r.map fun a => (pv a, Val.bl true)).foldl (fun a p => put a p.1 p.2) (l.map fun a => (pv a, .bl true)) = (l ++ r.filter fun x => decide (x ∉ l)).map fun a => (pv a, .bl true)
  | [], l, _ => by simp
  | x :: r, l, h => by
    rw [List.nodup_cons] at h
    rw [List.map_cons, List.foldl_cons, put_true]
    by_cases hx : x ∈ l
    · rw [if_pos hx, put_trues r l h.2, List.filter_cons_of_neg (by simpa using hx)]
    · rw [if_neg hx, put_trues r (l ++ [x]) h.2, List.filter_cons_of_pos (by simpa using hx), List.append_assoc]
      congr 2
      rw [List.singleton_append]
      congr 1
      apply List.filter_congr
      intro y hy
      have : y ≠ x := fun e => h.1 (e ▸ hy)
      simp [this]
/-! ### comprehensions whose turns change nothing -/
theorem lc_gen {f : Ro → Res (Option Val)} {t : Tg} {ns : List Nat} {ρ : Ro} (val : β → Val) (g : β → Option Val) : ∀ {xs : List β}, (∀ x ∈ xs, ∃ ρ1 ρ2, assn t (.fz (val x)) ρ = some ρ1 ∧ f ρ1 = some (.ok (g x) ρ2) ∧ wipeR ρ2 ns = ρ) → lcLoop f t ns (xs.map val) ρ = some (.ok (xs.filterMap g) ρ)
  | [], _ => rfl
  | x :: xs, h => by
    obtain ⟨ρ1, ρ2, h1, h2, h3⟩ := h x List.mem_cons_self
    have ih := lc_gen (f := f) val g (xs := xs) fun y hy => h y (List.mem_cons_of_mem _ hy)
    rw [List.map_cons]
    simp only [lcLoop, h1, h2, bnd_ok, h3, ih, pur]
    rw [List.filterMap_cons]
    cases g x <;> rfl
theorem dc_new {f : Ro → Res (Val × Val)} {t : Tg} {ns : List Nat} {ρ : Ro} (val : β → Val) (ky : β → α) (w : β → Val) : ∀ (xs ys : List β), ((ys ++ xs).map ky).Nodup → (∀ x ∈ xs, ∃ ρ1 ρ2, assn t (.fz (val x)) ρ = some ρ1 ∧ f ρ1 = some (.ok (pv (ky x), w x) ρ2) ∧ wipeR ρ2 ns = ρ) → dcLoop f t ns (xs.map val) ρ (ys.map fun b => (pv (ky b), w b)) = some (.ok ((ys ++ xs).map fun b => (pv (ky b), w b)) ρ)
  | [], ys, _, _ => by simp [dcLoop, pur]
  | x :: xs, ys, hn, h => by
    obtain ⟨ρ1, ρ2, h1, h2, h3⟩ := h x List.mem_cons_self
    have hx : ky x ∉ ys.map ky := by
      intro z
      rw [List.map_append, List.nodup_append] at hn
      exact hn.2.2 _ z _ (by simp) rfl
    have ih := dc_new (f := f) (t := t) (ns := ns) (ρ := ρ) val ky w xs (ys ++ [x]) (by simpa using hn) fun y hy => h y (List.mem_cons_of_mem _ hy)
    rw [List.map_cons]
    simp only [dcLoop, h1, h2, bnd_ok, h3]
    rw [if_pos (by rw [key, fits_dct]; rfl), put_new hx]
    rw [List.map_append, List.map_cons, List.map_nil] at ih
    rw [ih]
    simp
variable {T : Tab} {cal mkc : Cal}
theorem ev_lcB {ns : List Nat} {t : Tg} {it : Iter} {c : Option Ex} {e : Ex} {ρ ρ1 : Ro} {xs : List β} (val : β → Val) (g : β → Option Val) (hit : evIt T cal mkc it ρ = some (.ok (xs.map val) ρ1)) (hl : xs.length ≤ cap) (hc : clean ns ρ1 = true) (hu : unwipe ns ρ1 (wipeR ρ1 ns) = ρ1)
    (h : ∀ x ∈ xs, ∃ ρ2 ρ3, assn t (.fz (val x)) (wipeR ρ1 ns) = some ρ2 ∧ lcF T cal mkc c e ρ2 = some (.ok (g x) ρ3) ∧ wipeR ρ3 ns = wipeR ρ1 ns) : evE T cal mkc (.lc ns t it c e) ρ = some (.ok (.ow (.lst (xs.filterMap g))) ρ1) := by
  have := ev_lcG hit (by rw [List.length_map]; exact hl) hc (lc_gen val g h)
  rw [this, hu]
theorem ev_dcB {ns : List Nat} {t : Tg} {it : Iter} {k e : Ex} {ρ ρ1 : Ro} {xs : List β} (val : β → Val) (ky : β → α) (w : β → Val) (hn : (xs.map ky).Nodup) (hit : evIt T cal mkc it ρ = some (.ok (xs.map val) ρ1)) (hl : xs.length ≤ cap) (hc : clean ns ρ1 = true) (hu : unwipe ns ρ1 (wipeR ρ1 ns) = ρ1)
    (h : ∀ x ∈ xs, ∃ ρ2 ρ3, assn t (.fz (val x)) (wipeR ρ1 ns) = some ρ2 ∧ dcF T cal mkc k e ρ2 = some (.ok (pv (ky x), w x) ρ3) ∧ wipeR ρ3 ns = wipeR ρ1 ns) : evE T cal mkc (.dc ns t it k e) ρ = some (.ok (.ow (.dct (xs.map fun b => (pv (ky b), w b)))) ρ1) := by
  simp only [evE, hit, bnd_ok]
  rw [if_pos ⟨by rw [List.length_map]; exact hl, hc⟩]
  have := dc_new (f := dcF T cal mkc k e) (t := t) (ns := ns) (ρ := wipeR ρ1 ns) val ky w xs [] (by simpa using hn) h
  unfold dcF at this
  rw [List.map_nil] at this
  rw [this]
  simp only [quiet, bnd_ok, pur, hu, List.nil_append]
end
theorem evSs_app {T : Tab} {cal mkc : Cal} : ∀ (a b : List Sx) (ρ : Ro), evSs T cal mkc (a ++ b) ρ = bnd (evSs T cal mkc a ρ) fun f ρ1 => match f with
    | .nx => evSs T cal mkc b ρ1
    | .rt q => pur (.rt q) ρ1
  | [], b, ρ => rfl
  | s :: a, b, ρ => by
    rw [List.cons_append]
    simp only [evSs]
    cases evS T cal mkc s ρ with
    | none => rfl
    | some o => cases o with
      | ex e ρ1 => rfl
      | ok f ρ1 => cases f with
        | nx => simp only [bnd_ok]; exact evSs_app a b ρ1
        | rt q => rfl
/-- a call with plain values alone -/
theorem evAs_vals {T : Tab} {cal mkc : Cal} : ∀ (es : List Ex) (io : List Bool) (vs : List Val) (ρ ρ1 : Ro), (io.all (! ·)) = true → (∀ a, .star a ∉ es) → evEs T cal mkc es ρ = some (.ok vs ρ1) → evAs T cal mkc io es ρ = some (.ok (vs.map .va) ρ1)
  | [], io, vs, ρ, ρ1, _, _, h => by
    simp only [evEs, pur, Option.some.injEq, Out.ok.injEq] at h
    rw [← h.1, ← h.2]
    simp [evAs, pur]
  | e :: es, io, vs, ρ, ρ1, hio, hs, h => by
    have h0 : io.getD 0 false = false := by
      cases io with
      | nil => rfl
      | cons b r => simp at hio; simpa using hio.1
    have hd : ((io.drop 1).all (! ·)) = true := by
      cases io with
      | nil => rfl
      | cons b r => simp only [List.all_cons, Bool.and_eq_true] at hio; simpa using hio.2
    have he : evEs T cal mkc (e :: es) ρ = bnd (evE T cal mkc e ρ) fun q ρ1 => bnd (fixv q ρ1) fun v ρ2 => bnd (evEs T cal mkc es ρ2) fun vs ρ3 => pur (v :: vs) ρ3 := by
      cases e with
      | star a => exact absurd List.mem_cons_self (hs a)
      | _ => simp only [evEs]
    rw [he] at h
    simp only [evAs, argOf, h0]
    cases h1 : evE T cal mkc e ρ with
    | none => rw [h1] at h; cases h
    | some o => cases o with
      | ex x ρ2 => rw [h1] at h; cases h
      | ok q ρ2 =>
        rw [h1] at h
        simp only [bnd_ok] at h
        cases h2 : fixv q ρ2 with
        | none => rw [h2] at h; cases h
        | some o => cases o with
          | ex x ρ3 => rw [h2] at h; cases h
          | ok v ρ3 =>
            rw [h2] at h
            simp only [bnd_ok] at h
            cases h3 : evEs T cal mkc es ρ3 with
            | none => rw [h3] at h; cases h
            | some o => cases o with
              | ex x ρ4 => rw [h3] at h; cases h
              | ok ws ρ4 =>
                rw [h3] at h
                simp only [bnd_ok, pur, Option.some.injEq, Out.ok.injEq] at h
                have ih := evAs_vals es (io.drop 1) ws ρ3 ρ4 hd (fun a ha => hs a (List.mem_cons_of_mem _ ha)) h3
                rw [← h.1, ← h.2]
                simp only [Bool.false_eq_true, if_false, bnd_ok, h2, pur, Arg.isN, Bool.false_and, ih, List.map_cons]
theorem ioNd_vals : ∀ vs : List Val, ioNd (vs.map .va) = true
  | [] => rfl
  | _ :: r => by simp [ioNd, ioNd_vals r]
theorem slot_vals (ρ : Ro) : ∀ vs : List Val, (vs.map Arg.va).mapM (Arg.slot ρ) = some (vs.map .fz)
  | [] => rfl
  | v :: r => by
    rw [List.map_cons, List.mapM_cons, slot_vals ρ r]
    rfl
theorem putBack_vals : ∀ (vs : List Val) (fin : List Slot) (ρ : Ro), vs.length ≤ fin.length → putBack (vs.map .va) fin ρ = some ρ
  | [], _, _, _ => rfl
  | _ :: r, [], _, h => by simp at h
  | _ :: r, _ :: s, ρ, h => by
    rw [List.map_cons]
    simp only [putBack]
    exact putBack_vals r s ρ (by simpa using h)
theorem ev_callV {T : Tab} {cal mkc : Cal} {f : String} {d : Def} {es : List Ex} {ρ ρ1 : Ro} {vs : List Val} {r : Slot} (hd : T.fn f = some d) (hio : d.io.all (! ·) = true) (he : evEs T cal mkc es ρ = some (.ok vs ρ1)) (hs : ∀ a, .star a ∉ es) (hc : cal f (vs.map .fz) = some (.ok r (vs.map .fz))) : evE T cal mkc (.call f es []) ρ = some (.ok r ρ1) := by
  simp only [evE, hd, evAs_vals es d.io vs ρ ρ1 hio hs he, bnd_ok, callF, ioNd_vals, slot_vals, Option.bind_some, order, List.isEmpty_nil, Bool.true_or, Bool.and_true, if_true, hc, finish, putBack_vals vs (vs.map .fz) ρ1 (by simp)]
theorem lk2 (a b c : Val) : List.lookup "arrows" [("signs", a), ("arrows", b), ("colours", c)] = some b := rfl
theorem lk3 (a b c : Val) : List.lookup "colours" [("signs", a), ("arrows", b), ("colours", c)] = some c := rfl
theorem lkM (a b : Val) : List.lookup "held_states" [("held_letters", a), ("held_states", b)] = some b := rfl
theorem dct1 {T : Tab} {cal mkc : Cal} (k e : Ex) (ρ : Ro) : evE T cal mkc (.dct [k] [e]) ρ = bnd (evE T cal mkc k ρ) fun r ρ1 => bnd (fixv r ρ1) fun a ρ2 => bnd (evE T cal mkc e ρ2) fun q ρ3 => bnd (fixv q ρ3) fun v ρ4 => if keyOk a then pur (.ow (.dct [(a, v)])) ρ4 else none := by
  simp only [evE]
theorem dct0 {T : Tab} {cal mkc : Cal} (ρ : Ro) : evE T cal mkc (.dct [] []) ρ = pur (.ow (.dct [])) ρ := by
  simp only [evE]
section
variable {T : Tab} {cal mkc : Cal}
theorem evSs_1 {s : Sx} {ρ ρ' : Ro} (h : evS T cal mkc s ρ = some (.ok .nx ρ')) : evSs T cal mkc [s] ρ = some (.ok .nx ρ') := by
  simp only [evSs, h, bnd_ok, pur]
theorem evSs_2 {s : Sx} {r : List Sx} {ρ ρ1 : Ro} {x : Res Fl} (h : evS T cal mkc s ρ = some (.ok .nx ρ1)) (h2 : evSs T cal mkc r ρ1 = x) : evSs T cal mkc (s :: r) ρ = x := by
  simp only [evSs, h, bnd_ok]
  exact h2
theorem evSs_r {s : Sx} {r : List Sx} {ρ ρ1 : Ro} {q : Slot} (h : evS T cal mkc s ρ = some (.ok (.rt q) ρ1)) : evSs T cal mkc (s :: r) ρ = some (.ok (.rt q) ρ1) := by
  simp only [evSs, h, bnd_ok, pur]
theorem evS_ife (c : Ex) (a b : List Sx) (ρ : Ro) : evS T cal mkc (.ife c a b) ρ = bnd (evE T cal mkc c ρ) fun r ρ1 => bnd (asBool r ρ1) fun d ρ2 => if d then evSs T cal mkc a ρ2 else evSs T cal mkc b ρ2 := by simp only [evS]
theorem evS_for (t : Tg) (it : Iter) (a : List Sx) (ρ : Ro) : evS T cal mkc (.for_ t it a) ρ = bnd (evIt T cal mkc it ρ) fun xs ρ1 => if xs.length ≤ cap then forF (evSs T cal mkc a) t xs ρ1 else none := by simp only [evS]
theorem evE_idx (a i : Ex) (ρ : Ro) : evE T cal mkc (.idx a i) ρ = bnd (opnd a (evE T cal mkc a) ρ) fun x ρ1 => bnd (opnd i (evE T cal mkc i) ρ1) fun y ρ2 => lift (((x.val ρ2).bind fun u => (y.val ρ2).bind (idxF u)).map .fz) ρ2 := by simp only [evE]
theorem evE_int (i : Int) (ρ : Ro) : evE T cal mkc (.int i) ρ = pur (.fz (.int i)) ρ := by simp only [evE]
theorem evE_tup (es : List Ex) (ρ : Ro) : evE T cal mkc (.tup es) ρ = bnd (evEs T cal mkc es ρ) fun vs ρ' => if vs.length ≤ cap then pur (.fz (.tup vs)) ρ' else none := by simp only [evE]
theorem evE_lst (es : List Ex) (ρ : Ro) : evE T cal mkc (.lst es) ρ = bnd (evEs T cal mkc es ρ) fun vs ρ' => if vs.length ≤ cap then pur (.ow (.lst vs)) ρ' else none := by simp only [evE]
theorem evE_blt1 (b : Bl) (a : Ex) (ρ : Ro) : evE T cal mkc (.blt b [a]) ρ = bnd (opnd a (evE T cal mkc a) ρ) fun x ρ1 => lift ((x.val ρ1).bind fun u => bltF b [u]) ρ1 := by simp only [evE]
theorem evE_cmp (o : Cmp) (a b : Ex) (ρ : Ro) : evE T cal mkc (.cmp o a b) ρ = bnd (opnd a (evE T cal mkc a) ρ) fun x ρ1 => bnd (opnd b (evE T cal mkc b) ρ1) fun y ρ2 => lift (((x.val ρ2).bind fun u => (y.val ρ2).bind (cmpF o u)).map fun c => .fz (.bl c)) ρ2 := by simp only [evE]
theorem evE_bin (o : Bin) (a b : Ex) (ρ : Ro) : evE T cal mkc (.bin o a b) ρ = bnd (opnd a (evE T cal mkc a) ρ) fun x ρ1 => bnd (opnd b (evE T cal mkc b) ρ1) fun y ρ2 => lift ((x.val ρ2).bind fun u => (y.val ρ2).bind (binF o u)) ρ2 := by simp only [evE]
theorem evE_lrg (e : Ex) (ρ : Ro) : evE T cal mkc (.lrg e) ρ = bnd (evE T cal mkc e ρ) fun r ρ1 => bnd (fixv r ρ1) fun v ρ2 => lift ((rngF [v]).map fun xs => .ow (.lst xs)) ρ2 := by simp only [evE]
theorem evE_ln {f c : String} {d : Def} (hd : T.fn f = some d) (es : List Ex) (ρ : Ro) : evE T cal mkc (.ln f c es) ρ = bnd (evAs T cal mkc d.io es ρ) fun as ρ1 => if !(as.all (Arg.isObj ρ1 c "__len__")) then none else bnd (callF mkc d.ps f [] as ρ1) lenEnd := by simp only [evE, hd]
theorem evE_or (a b : Ex) (ρ : Ro) : evE T cal mkc (.or a b) ρ = bnd (evE T cal mkc a ρ) fun r ρ1 => bnd (asBool r ρ1) fun c ρ2 => if c then pur (.fz (.bl true)) ρ2 else evE T cal mkc b ρ2 := by simp only [evE]
theorem evE_mk {c : String} {d : Def} (hd : T.fn (c ++ ".__init__") = some d) (es : List Ex) (ρ : Ro) : evE T cal mkc (.mk c es []) ρ = bnd (evEs T cal mkc es ρ) fun vs ρ1 => mkEnd (mkc (c ++ ".__init__") (.ow (.obj c []) :: vs.map .fz)) ρ1 := by simp only [evE, hd]
end
theorem lenEnd_ok (n : Nat) (h : n ≤ 1000) (ρ : Ro) : lenEnd (.fz (.int (n : Nat))) ρ = some (.ok (.fz (.int (n : Nat))) ρ) := by
  unfold lenEnd
  have h1 : ((n : Nat) : Int) ≤ 1000 := by omega
  have h2 : (1000 : Int) < 2 ^ 63 := by decide
  exact if_pos ⟨Int.natCast_nonneg n, Int.lt_of_le_of_lt h1 h2⟩
theorem zipL_map {α β : Type} (f : α → Val) (g : β → Val) : ∀ (xs : List α) (ys : List β), zipL (xs.map f) (ys.map g) = (xs.zip ys).map fun p => .tup [f p.1, g p.2]
  | [], _ => by simp [zipL]
  | _ :: _, [] => by simp [zipL]
  | x :: xs, y :: ys => by simp [zipL, zipL_map f g xs ys]
theorem enumL_map {α : Type} (f : α → Val) : ∀ (xs : List α) (n : Nat), enumL n (xs.map f) = (xs.zipIdx n).map fun p => .tup [.int (p.2 : Nat), f p.1]
  | [], _ => rfl
  | x :: xs, n => by simp [enumL, enumL_map f xs (n + 1)]
end EV
namespace GH
open PySem PySem.Spec PyProof.Rows L2
def top (i : Nat) : Stmt := PySem.Challenge.pw_guardhopes_k15_whole_watchable.main.body.getD i (.Pass ⟨0, 0, 0, 0⟩)
abbrev s_InvalidText___init__ : Stmt := inClass (top 5) 0
theorem sc_InvalidText___init__ : FnScope ["self", "given"] ["self", "given"] (defScope s_InvalidText___init__) := ⟨rfl, rfl, rfl, by decide +kernel, rfl, by decide +kernel, by decide +kernel⟩
abbrev s_InvalidLetters___init__ : Stmt := inClass (top 6) 0
theorem sc_InvalidLetters___init__ : FnScope ["self", "given"] ["self", "given"] (defScope s_InvalidLetters___init__) := ⟨rfl, rfl, rfl, by decide +kernel, rfl, by decide +kernel, by decide +kernel⟩
abbrev s_NotAMachine___init__ : Stmt := inClass (top 7) 0
theorem sc_NotAMachine___init__ : FnScope ["self", "given"] ["self", "given"] (defScope s_NotAMachine___init__) := ⟨rfl, rfl, rfl, by decide +kernel, rfl, by decide +kernel, by decide +kernel⟩
abbrev s_InvalidStates___init__ : Stmt := inClass (top 8) 0
theorem sc_InvalidStates___init__ : FnScope ["self", "index"] ["self", "index"] (defScope s_InvalidStates___init__) := ⟨rfl, rfl, rfl, by decide +kernel, rfl, by decide +kernel, by decide +kernel⟩
abbrev s_Graph___init__ : Stmt := inClass (top 10) 0
theorem sc_Graph___init__ : FnScope ["self", "signs", "arrows", "colours"] ["self", "signs", "arrows", "colours"] (defScope s_Graph___init__) := ⟨rfl, rfl, rfl, by decide +kernel, rfl, by decide +kernel, by decide +kernel⟩
abbrev s_Graph_ways : Stmt := inClass (top 10) 1
theorem sc_Graph_ways : FnScope ["self", "first", "inside", "found", "waiting", "spot", "place", "letter", "target"] ["self", "first", "inside"] (defScope s_Graph_ways) := ⟨rfl, rfl, rfl, by decide +kernel, rfl, by decide +kernel, by decide +kernel⟩
abbrev s_Graph_part : Stmt := inClass (top 10) 2
theorem sc_Graph_part : FnScope ["self", "first", "inside", "place"] ["self", "first", "inside"] (defScope s_Graph_part) := ⟨rfl, rfl, rfl, by decide +kernel, rfl, by decide +kernel, by decide +kernel⟩
abbrev s_Graph_parts : Stmt := inClass (top 10) 3
theorem sc_Graph_parts : FnScope ["self", "inside", "found", "done", "place", "part", "each"] ["self", "inside"] (defScope s_Graph_parts) := ⟨rfl, rfl, rfl, by decide +kernel, rfl, by decide +kernel, by decide +kernel⟩
abbrev s_Graph_up_to : Stmt := inClass (top 10) 4
theorem sc_Graph_up_to : FnScope ["self", "inside", "column", "colour", "place"] ["self", "inside", "column", "colour"] (defScope s_Graph_up_to) := ⟨rfl, rfl, rfl, by decide +kernel, rfl, by decide +kernel, by decide +kernel⟩
abbrev s_Graph_has : Stmt := inClass (top 10) 5
theorem sc_Graph_has : FnScope ["self", "inside", "column", "colour", "place"] ["self", "inside", "column", "colour"] (defScope s_Graph_has) := ⟨rfl, rfl, rfl, by decide +kernel, rfl, by decide +kernel, by decide +kernel⟩
abbrev s_Graph_around : Stmt := inClass (top 10) 6
theorem sc_Graph_around : FnScope ["self", "first", "inside", "stops"] ["self", "first", "inside", "stops"] (defScope s_Graph_around) := ⟨rfl, rfl, rfl, by decide +kernel, rfl, by decide +kernel, by decide +kernel⟩
abbrev s_all_of : Stmt := top 11
theorem sc_all_of : FnScope ["graph"] ["graph"] (defScope s_all_of) := ⟨rfl, rfl, rfl, by decide +kernel, rfl, by decide +kernel, by decide +kernel⟩
abbrev s_graph_of : Stmt := top 12
theorem sc_graph_of : FnScope ["machine", "arrows", "number", "colour", "targets"] ["machine"] (defScope s_graph_of) := ⟨rfl, rfl, rfl, by decide +kernel, rfl, by decide +kernel, by decide +kernel⟩
abbrev s_loops_of : Stmt := top 13
theorem sc_loops_of : FnScope ["graph", "inside", "evenness", "found", "colour", "part"] ["graph", "inside", "evenness"] (defScope s_loops_of) := ⟨rfl, rfl, rfl, by decide +kernel, rfl, by decide +kernel, by decide +kernel⟩
abbrev s_leading_to : Stmt := top 14
theorem sc_leading_to : FnScope ["graph", "inside", "ends", "place", "end"] ["graph", "inside", "ends"] (defScope s_leading_to) := ⟨rfl, rfl, rfl, by decide +kernel, rfl, by decide +kernel, by decide +kernel⟩
abbrev s_is_integer : Stmt := top 21
theorem sc_is_integer : FnScope ["value", "least", "greatest"] ["value", "least", "greatest"] (defScope s_is_integer) := ⟨rfl, rfl, rfl, by decide +kernel, rfl, by decide +kernel, by decide +kernel⟩
abbrev s_is_word_of : Stmt := top 22
theorem sc_is_word_of : FnScope ["value", "signs", "most", "sign"] ["value", "signs", "most"] (defScope s_is_word_of) := ⟨rfl, rfl, rfl, by decide +kernel, rfl, by decide +kernel, by decide +kernel⟩
abbrev s_is_tuple_of : Stmt := top 23
theorem sc_is_tuple_of : FnScope ["value", "many"] ["value", "many"] (defScope s_is_tuple_of) := ⟨rfl, rfl, rfl, by decide +kernel, rfl, by decide +kernel, by decide +kernel⟩
abbrev s_are_letters : Stmt := top 25
theorem sc_are_letters : FnScope ["value", "one", "other"] ["value"] (defScope s_are_letters) := ⟨rfl, rfl, rfl, by decide +kernel, rfl, by decide +kernel, by decide +kernel⟩
abbrev s_is_state : Stmt := top 26
theorem sc_is_state : FnScope ["value", "letters", "many", "target"] ["value", "letters", "many"] (defScope s_is_state) := ⟨rfl, rfl, rfl, by decide +kernel, rfl, by decide +kernel, by decide +kernel⟩
abbrev s_digit_of : Stmt := top 27
theorem sc_digit_of : FnScope ["text"] ["text"] (defScope s_digit_of) := ⟨rfl, rfl, rfl, by decide +kernel, rfl, by decide +kernel, by decide +kernel⟩
abbrev s_state_of : Stmt := top 28
theorem sc_state_of : FnScope ["row", "words", "word"] ["row"] (defScope s_state_of) := ⟨rfl, rfl, rfl, by decide +kernel, rfl, by decide +kernel, by decide +kernel⟩
abbrev s_Machine___init__ : Stmt := inClass (top 29) 0
theorem sc_Machine___init__ : FnScope ["self", "letters", "states", "index", "state"] ["self", "letters", "states"] (defScope s_Machine___init__) := ⟨rfl, rfl, rfl, by decide +kernel, rfl, by decide +kernel, by decide +kernel⟩
abbrev s_Machine_read : Stmt := inClass (top 29) 1
theorem sc_Machine_read : FnScope ["cls", "text", "head", "rows", "words", "machine", "row"] ["cls", "text"] (defScope s_Machine_read) := ⟨rfl, rfl, rfl, by decide +kernel, rfl, by decide +kernel, by decide +kernel⟩
abbrev s_Machine_letters : Stmt := inClass (top 29) 2
theorem sc_Machine_letters : FnScope ["self"] ["self"] (defScope s_Machine_letters) := ⟨rfl, rfl, rfl, by decide +kernel, rfl, by decide +kernel, by decide +kernel⟩
abbrev s_Machine_states : Stmt := inClass (top 29) 3
theorem sc_Machine_states : FnScope ["self"] ["self"] (defScope s_Machine_states) := ⟨rfl, rfl, rfl, by decide +kernel, rfl, by decide +kernel, by decide +kernel⟩
abbrev s_Machine___len__ : Stmt := inClass (top 29) 4
theorem sc_Machine___len__ : FnScope ["self"] ["self"] (defScope s_Machine___len__) := ⟨rfl, rfl, rfl, by decide +kernel, rfl, by decide +kernel, by decide +kernel⟩
abbrev s_Machine___bool__ : Stmt := inClass (top 29) 5
theorem sc_Machine___bool__ : FnScope ["self"] ["self"] (defScope s_Machine___bool__) := ⟨rfl, rfl, rfl, by decide +kernel, rfl, by decide +kernel, by decide +kernel⟩
abbrev s_Machine___iter__ : Stmt := inClass (top 29) 6
theorem sc_Machine___iter__ : FnScope ["self"] ["self"] (defScope s_Machine___iter__) := ⟨rfl, rfl, rfl, by decide +kernel, rfl, by decide +kernel, by decide +kernel⟩
abbrev s_Machine___str__ : Stmt := inClass (top 29) 7
theorem sc_Machine___str__ : FnScope ["self", "rows", "target", "colour", "targets"] ["self"] (defScope s_Machine___str__) := ⟨rfl, rfl, rfl, by decide +kernel, rfl, by decide +kernel, by decide +kernel⟩
abbrev s_Machine___eq__ : Stmt := inClass (top 29) 8
theorem sc_Machine___eq__ : FnScope ["self", "other"] ["self", "other"] (defScope s_Machine___eq__) := ⟨rfl, rfl, rfl, by decide +kernel, rfl, by decide +kernel, by decide +kernel⟩
abbrev s_Machine_changed : Stmt := inClass (top 29) 9
theorem sc_Machine_changed : FnScope ["self", "change"] ["self", "change"] (defScope s_Machine_changed) := ⟨rfl, rfl, rfl, by decide +kernel, rfl, by decide +kernel, by decide +kernel⟩
abbrev s_check_machine : Stmt := top 30
theorem sc_check_machine : FnScope ["value"] ["value"] (defScope s_check_machine) := ⟨rfl, rfl, rfl, by decide +kernel, rfl, by decide +kernel, by decide +kernel⟩
abbrev s_with_loops : Stmt := top 32
theorem sc_with_loops : FnScope ["machine", "evenness", "graph", "tops", "part", "top"] ["machine", "evenness"] (defScope s_with_loops) := ⟨rfl, rfl, rfl, by decide +kernel, rfl, by decide +kernel, by decide +kernel⟩
abbrev s_live_of : Stmt := top 33
theorem sc_live_of : FnScope ["machine"] ["machine"] (defScope s_live_of) := ⟨rfl, rfl, rfl, by decide +kernel, rfl, by decide +kernel, by decide +kernel⟩
abbrev s_sure_of : Stmt := top 34
theorem sc_sure_of : FnScope ["machine", "odd", "number"] ["machine"] (defScope s_sure_of) := ⟨rfl, rfl, rfl, by decide +kernel, rfl, by decide +kernel, by decide +kernel⟩
abbrev s_ends_for : Stmt := top 35
theorem sc_ends_for : FnScope ["machine", "wanted", "alive", "number"] ["machine", "wanted"] (defScope s_ends_for) := ⟨rfl, rfl, rfl, by decide +kernel, rfl, by decide +kernel, by decide +kernel⟩
abbrev s_is_watched : Stmt := top 36
theorem sc_is_watched : FnScope ["machine", "graph", "ends", "end", "place"] ["machine"] (defScope s_is_watched) := ⟨rfl, rfl, rfl, by decide +kernel, rfl, by decide +kernel, by decide +kernel⟩
abbrev s_is_watchable : Stmt := top 37
theorem sc_is_watchable : FnScope ["machine"] ["machine"] (defScope s_is_watchable) := ⟨rfl, rfl, rfl, by decide +kernel, rfl, by decide +kernel, by decide +kernel⟩
abbrev s__law_bag : Stmt := top 39
theorem sc__law_bag : FnScope ["_law_script", "_law_turn", "_law_figure", "_law_seed", "_law_each"] ["_law_script", "_law_turn"] (defScope s__law_bag) := ⟨rfl, rfl, rfl, by decide +kernel, rfl, by decide +kernel, by decide +kernel⟩
abbrev s__law_take : Stmt := top 40
theorem sc__law_take : FnScope ["_law_bag_here", "_law_many", "_law_digit"] ["_law_bag_here", "_law_many"] (defScope s__law_take) := ⟨rfl, rfl, rfl, by decide +kernel, rfl, by decide +kernel, by decide +kernel⟩
abbrev s__law_signs : Stmt := top 41
theorem sc__law_signs : FnScope ["_law_bag_here"] ["_law_bag_here"] (defScope s__law_signs) := ⟨rfl, rfl, rfl, by decide +kernel, rfl, by decide +kernel, by decide +kernel⟩
abbrev s__law_rows : Stmt := top 42
theorem sc__law_rows : FnScope ["_law_bag_here", "_law_signs_here", "_law_most", "_law_many", "_law_found", "_law_top", "_law_at", "_law_way", "_law_colour", "_law_goals", "_law_sign"] ["_law_bag_here", "_law_signs_here", "_law_most"] (defScope s__law_rows) := ⟨rfl, rfl, rfl, by decide +kernel, rfl, by decide +kernel, by decide +kernel⟩
abbrev s__law_from : Stmt := top 43
theorem sc__law_from : FnScope ["_law_rows_here", "_law_at", "_law_inside", "_law_found", "_law_spot", "_law_here", "_law_goal"] ["_law_rows_here", "_law_at", "_law_inside"] (defScope s__law_from) := ⟨rfl, rfl, rfl, by decide +kernel, rfl, by decide +kernel, by decide +kernel⟩
abbrev s__law_loops : Stmt := top 44
theorem sc__law_loops : FnScope ["_law_rows_here", "_law_lots", "_law_found", "_law_at", "_law_lot"] ["_law_rows_here"] (defScope s__law_loops) := ⟨rfl, rfl, rfl, by decide +kernel, rfl, by decide +kernel, by decide +kernel⟩
abbrev s__law_ends_in : Stmt := top 45
theorem sc__law_ends_in : FnScope ["_law_rows_here", "_law_odd", "_law_every", "_law_goals", "_law_lot", "_law_oddness", "_law_at", "_law_goal"] ["_law_rows_here", "_law_odd"] (defScope s__law_ends_in) := ⟨rfl, rfl, rfl, by decide +kernel, rfl, by decide +kernel, by decide +kernel⟩
abbrev s__law_reached : Stmt := top 46
theorem sc__law_reached : FnScope ["_law_rows_here", "_law_found", "_law_at"] ["_law_rows_here"] (defScope s__law_reached) := ⟨rfl, rfl, rfl, by decide +kernel, rfl, by decide +kernel, by decide +kernel⟩
abbrev s__law_right : Stmt := top 47
theorem sc__law_right : FnScope ["_law_bag_here", "_law_turn", "_law_signs_here", "_law_rows_here", "_law_mine", "_law_every", "_law_even", "_law_odd", "_law_sealed", "_law_due", "_law_at", "_law_ways", "_law_wide", "_law_goal"] ["_law_bag_here"] (defScope s__law_right) := ⟨rfl, rfl, rfl, by decide +kernel, rfl, by decide +kernel, by decide +kernel⟩
abbrev s__law_quiet : Stmt := top 48
theorem sc__law_quiet : FnScope ["_law_bag_here", "_law_is_right"] ["_law_bag_here"] (defScope s__law_quiet) := ⟨rfl, rfl, rfl, by decide +kernel, rfl, by decide +kernel, by decide +kernel⟩
abbrev s_law : Stmt := top 49
theorem sc_law : FnScope ["_law_script", "_law_turn"] ["_law_script"] (defScope s_law) := ⟨rfl, rfl, rfl, by decide +kernel, rfl, by decide +kernel, by decide +kernel⟩
structure Txt (K : PySem.W.Frag) (mg : Str → Option Value) : Prop where
  B : Blt mg
  d_all_of : Def K mg "all_of" s_all_of
  d_graph_of : Def K mg "graph_of" s_graph_of
  d_loops_of : Def K mg "loops_of" s_loops_of
  d_leading_to : Def K mg "leading_to" s_leading_to
  d_is_integer : Def K mg "is_integer" s_is_integer
  d_is_word_of : Def K mg "is_word_of" s_is_word_of
  d_is_tuple_of : Def K mg "is_tuple_of" s_is_tuple_of
  d_are_letters : Def K mg "are_letters" s_are_letters
  d_is_state : Def K mg "is_state" s_is_state
  d_digit_of : Def K mg "digit_of" s_digit_of
  d_state_of : Def K mg "state_of" s_state_of
  d_check_machine : Def K mg "check_machine" s_check_machine
  d_with_loops : Def K mg "with_loops" s_with_loops
  d_live_of : Def K mg "live_of" s_live_of
  d_sure_of : Def K mg "sure_of" s_sure_of
  d_ends_for : Def K mg "ends_for" s_ends_for
  d_is_watched : Def K mg "is_watched" s_is_watched
  d_is_watchable : Def K mg "is_watchable" s_is_watchable
  d__law_bag : Def K mg "_law_bag" s__law_bag
  d__law_take : Def K mg "_law_take" s__law_take
  d__law_signs : Def K mg "_law_signs" s__law_signs
  d__law_rows : Def K mg "_law_rows" s__law_rows
  d__law_from : Def K mg "_law_from" s__law_from
  d__law_loops : Def K mg "_law_loops" s__law_loops
  d__law_ends_in : Def K mg "_law_ends_in" s__law_ends_in
  d__law_reached : Def K mg "_law_reached" s__law_reached
  d__law_right : Def K mg "_law_right" s__law_right
  d__law_quiet : Def K mg "_law_quiet" s__law_quiet
  d_law : Def K mg "law" s_law
  c_MOST_LETTERS : Cst mg "MOST_LETTERS" (.int 3)
  c_MOST_STATES : Cst mg "MOST_STATES" (.int 6)
  c_MOST_COLOUR : Cst mg "MOST_COLOUR" (.int 6)
  c_LETTERS : Cst mg "LETTERS" (.str (Str.ofString "abcdefghijklmnopqrstuvwxyz"))
  c_DIGITS : Cst mg "DIGITS" (.str (Str.ofString "0123456789"))
  M : MachCls K mg s_Machine___init__ s_Machine_letters s_Machine_states
  m_Machine___len__ : MethAt K mg "Machine" "__len__" "Machine.__len__" s_Machine___len__
  k_Graph : ClsAt K mg "Graph"
  i_Graph : NewAt K mg "Graph" "Graph.__init__" s_Graph___init__
  n_Graph_signs : NoAttr K (clsA mg "Graph") "signs"
  n_Graph_arrows : NoAttr K (clsA mg "Graph") "arrows"
  n_Graph_colours : NoAttr K (clsA mg "Graph") "colours"
  m_Graph_ways : MethAt K mg "Graph" "ways" "Graph.ways" s_Graph_ways
  m_Graph_part : MethAt K mg "Graph" "part" "Graph.part" s_Graph_part
  m_Graph_parts : MethAt K mg "Graph" "parts" "Graph.parts" s_Graph_parts
  m_Graph_up_to : MethAt K mg "Graph" "up_to" "Graph.up_to" s_Graph_up_to
  m_Graph_has : MethAt K mg "Graph" "has" "Graph.has" s_Graph_has
end GH
namespace EV
open PySem PySem.Spec PyProof.Rows L2 GH
def ir_all_of : EV.Def := ⟨["graph"], 1, [false], [(.ret (.blt .list [(.mth "Graph.ways" "Graph" "ways" (.v 0) [(.idx (.blt .list [(.fld (.v 0) "arrows")]) (.int 0)), (.fld (.v 0) "arrows")])]))]⟩
def ir_graph_of : EV.Def := ⟨["machine"], 5, [false], [(.asg (.nm 1) (.dc [2, 3, 4] (.tp [(.nm 2), (.tp [(.nm 3), (.nm 4)])]) (.enum (.prp "Machine" "states" "held_states" (.v 0))) (.v 2) (.v 4))), (.ret (.mk "Graph" [(.prp "Machine" "letters" "held_letters" (.v 0)), (.v 1), (.dc [2] (.nm 2) (.seq (.v 1)) (.v 2) (.tup [(.idx (.idx (.prp "Machine" "states" "held_states" (.v 0)) (.v 2)) (.int 0))]))] []))]⟩
def ir_loops_of : EV.Def := ⟨["graph", "inside", "evenness"], 6, [false, false, false], [(.asg (.nm 3) (.lst [])), (.for_ (.nm 4) (.rng3 (.v 2) (.int 8) (.int 2)) [(.for_ (.nm 5) (.seq (.mth "Graph.parts" "Graph" "parts" (.v 0) [(.mth "Graph.up_to" "Graph" "up_to" (.v 0) [(.v 1), (.int 0), (.v 4)])])) [(.ife (.cmp .gt (.blt .len [(.mth "Graph.has" "Graph" "has" (.v 0) [(.v 5), (.int 0), (.v 4)])]) (.int 0)) [(.mut 3 .append [(.tup [(.v 5), (.idx (.mth "Graph.has" "Graph" "has" (.v 0) [(.v 5), (.int 0), (.v 4)]) (.int 0))])])] [])])]), (.ret (.v 3))]⟩
def ir_leading_to : EV.Def := ⟨["graph", "inside", "ends"], 5, [false, false, false], [(.ret (.lc [3] (.nm 3) (.seq (.v 1)) (some (.blt .any [(.lc [4] (.nm 4) (.seq (.v 2)) none (.cmp .isin (.v 4) (.mth "Graph.ways" "Graph" "ways" (.v 0) [(.v 3), (.v 1)])))])) (.v 3)))]⟩
def ir_is_integer : EV.Def := ⟨["value", "least", "greatest"], 3, [false, false, false], [(.ret (.and (.isi (.v 0) "int") (.and (.nt (.isi (.v 0) "bool")) (.chain .le .le (.v 1) (.v 0) (.v 2)))))]⟩
def ir_is_word_of : EV.Def := ⟨["value", "signs", "most"], 4, [false, false, false], [(.ret (.and (.isi (.v 0) "str") (.and (.cmp .le (.blt .len [(.v 0)]) (.v 2)) (.blt .all [(.lc [3] (.nm 3) (.seq (.v 0)) none (.cmp .isin (.v 3) (.v 1)))]))))]⟩
def ir_is_tuple_of : EV.Def := ⟨["value", "many"], 2, [false, false], [(.ret (.and (.isi (.v 0) "tuple") (.cmp .eq (.blt .len [(.v 0)]) (.v 1))))]⟩
def ir_are_letters : EV.Def := ⟨["value"], 3, [false], [(.ife (.or (.nt (.call "is_word_of" [(.v 0), (.g "LETTERS"), (.g "MOST_LETTERS")] [])) (.cmp .eq (.v 0) (.str ""))) [(.ret (.bl false))] []), (.ret (.blt .all [(.lc [1, 2] (.tp [(.nm 1), (.nm 2)]) (.zip (.v 0) (.slc (.v 0) (some (.int 1)) none)) none (.cmp .lt (.v 1) (.v 2)))]))]⟩
def ir_is_state : EV.Def := ⟨["value", "letters", "many"], 4, [false, false, false], [(.ife (.or (.nt (.call "is_tuple_of" [(.v 0), (.int 2)] [])) (.nt (.call "is_integer" [(.idx (.v 0) (.int 0)), (.int 0), (.g "MOST_COLOUR")] []))) [(.ret (.bl false))] []), (.ret (.and (.call "is_tuple_of" [(.idx (.v 0) (.int 1)), (.blt .len [(.v 1)])] []) (.blt .all [(.lc [3] (.nm 3) (.seq (.idx (.v 0) (.int 1))) none (.call "is_integer" [(.v 3), (.int 0), (.bin .sub (.v 2) (.int 1))] []))])))]⟩
def ir_digit_of : EV.Def := ⟨["text"], 1, [false], [(.ret (.ite (.and (.cmp .eq (.blt .len [(.v 0)]) (.int 1)) (.cmp .isin (.v 0) (.g "DIGITS"))) (.blt .int [(.v 0)]) .non))]⟩
def ir_state_of : EV.Def := ⟨["row"], 3, [false], [(.asg (.nm 1) (.g "?")), (.ife (.or (.cmp .lt (.blt .len [(.v 1)]) (.int 2)) (.cmp .ne (.idx (.v 1) (.int 0)) (.str "state"))) [(.ret .non)] []), (.ret (.tup [(.call "digit_of" [(.idx (.v 1) (.int 1))] []), (.blt .tuple [(.lc [2] (.nm 2) (.seq (.slc (.v 1) (some (.int 2)) none)) none (.call "digit_of" [(.v 2)] []))])]))]⟩
def ir_check_machine : EV.Def := ⟨["value"], 1, [false], [(.ife (.nt (.isi (.v 0) "Machine")) [(.rai "" [] false)] [])]⟩
def ir_with_loops : EV.Def := ⟨["machine", "evenness"], 6, [false, false], [(.asg (.nm 2) (.call "graph_of" [(.v 0)] [])), (.asg (.nm 3) (.lc [4, 5] (.tp [(.nm 4), (.nm 5)]) (.seq (.call "loops_of" [(.v 2), (.fld (.v 2) "arrows"), (.v 1)] [])) none (.v 5))), (.ret (.call "leading_to" [(.v 2), (.fld (.v 2) "arrows"), (.v 3)] []))]⟩
def ir_live_of : EV.Def := ⟨["machine"], 1, [false], [(.ret (.call "with_loops" [(.v 0), (.int 0)] []))]⟩
def ir_sure_of : EV.Def := ⟨["machine"], 3, [false], [(.asg (.nm 1) (.call "with_loops" [(.v 0), (.int 1)] [])), (.ret (.lc [2] (.nm 2) (.rng (.ln "Machine.__len__" "Machine" [(.v 0)])) (some (.cmp .notin (.v 2) (.v 1))) (.v 2)))]⟩
def ir_ends_for : EV.Def := ⟨["machine", "wanted"], 4, [false, false], [(.ife (.cmp .eq (.v 1) (.str "good")) [(.ret (.call "sure_of" [(.v 0)] []))] []), (.asg (.nm 2) (.call "live_of" [(.v 0)] [])), (.ret (.lc [3] (.nm 3) (.rng (.ln "Machine.__len__" "Machine" [(.v 0)])) (some (.cmp .notin (.v 3) (.v 2))) (.v 3)))]⟩
def ir_is_watched : EV.Def := ⟨["machine"], 5, [false], [(.asg (.nm 1) (.call "graph_of" [(.v 0)] [])), (.asg (.nm 2) (.lst [(.star (.call "ends_for" [(.v 0), (.str "bad")] [])), (.star (.call "ends_for" [(.v 0), (.str "good")] []))])), (.ret (.blt .all [(.lc [4] (.nm 4) (.seq (.call "all_of" [(.v 1)] [])) none (.blt .any [(.lc [3] (.nm 3) (.seq (.v 2)) none (.cmp .isin (.v 3) (.mth "Graph.ways" "Graph" "ways" (.v 1) [(.v 4), (.fld (.v 1) "arrows")])))]))]))]⟩
def ir_is_watchable : EV.Def := ⟨["machine"], 1, [false], [(.expr (.call "check_machine" [(.v 0)] [])), (.ret (.call "is_watched" [(.v 0)] []))]⟩
def ir__law_bag : EV.Def := ⟨["_law_script", "_law_turn"], 5, [false, false], [(.asg (.nm 2) (.ite (.cmp .lt (.v 1) (.blt .len [(.v 0)])) (.idx (.v 0) (.v 1)) (.bin .add (.bin .mul (.int 29) (.v 1)) (.int 8)))), (.asg (.nm 3) (.bin .add (.int 86028121) (.bin .mul (.int 34019) (.v 1)))), (.for_ (.nm 4) (.seq (.bin .add (.lst [(.v 2)]) (.slc (.v 0) none (some (.int 6))))) [(.asg (.nm 3) (.bin .mod (.blt .int [(.bin .add (.bin .mul (.v 3) (.int 43051)) (.v 4))]) (.int 2147483489)))]), (.ret (.lst [(.ite (.cmp .ge (.blt .abs [(.v 2)]) (.bin .pow (.int 10) (.int 18))) (.blt .abs [(.v 2)]) (.int 0)), (.v 3), (.int 0)]))]⟩
def ir__law_take : EV.Def := ⟨["_law_bag_here", "_law_many"], 3, [true, false], [(.ife (.cmp .gt (.idx (.v 0) (.int 0)) (.int 0)) [(.subp 0 (.int 0) 2 (.blt .divmod [(.idx (.v 0) (.int 0)), (.v 1)])), (.ret (.v 2))] []), (.sub 0 (.int 2) (.bin .add (.idx (.v 0) (.int 2)) (.int 1))), (.sub 0 (.int 1) (.bin .mod (.blt .int [(.bin .add (.bin .mul (.idx (.v 0) (.int 1)) (.int 40099)) (.bin .mul (.int 22003) (.idx (.v 0) (.int 2))))]) (.int 2147483489))), (.ret (.bin .mod (.blt .int [(.bin .fdiv (.idx (.v 0) (.int 1)) (.int 1024))]) (.v 1)))]⟩
def ir__law_signs : EV.Def := ⟨["_law_bag_here"], 1, [true], [(.ret (.idx (.lst [(.str "ab"), (.str "a"), (.str "abc"), (.str "xz"), (.str "q"), (.str "mno"), (.str "ab"), (.str "hy")]) (.call "_law_take" [(.v 0), (.int 8)] [])))]⟩
def ir__law_rows : EV.Def := ⟨["_law_bag_here", "_law_signs_here", "_law_most"], 11, [true, false, false], [(.par [3, 4, 5] [(.bin .add (.int 1) (.call "_law_take" [(.v 0), (.v 2)] [])), (.lst []), (.idx (.lst [(.int 2), (.int 3), (.int 4), (.int 7)]) (.call "_law_take" [(.v 0), (.int 4)] []))]), (.for_ (.nm 6) (.rng (.v 3)) [(.par [7, 8] [(.call "_law_take" [(.v 0), (.int 5)] []), (.call "_law_take" [(.v 0), (.v 5)] [])]), (.asg (.nm 9) (.lc [10] (.nm 10) (.seq (.v 1)) none (.ite (.cmp .eq (.v 7) (.int 0)) (.v 6) (.call "_law_take" [(.v 0), (.v 3)] [])))), (.ife (.cmp .eq (.v 7) (.int 1)) [(.sub 9 (.int 0) (.bin .mod (.blt .int [(.bin .add (.v 6) (.int 1))]) (.v 3)))] []), (.mut 4 .append [(.tup [(.v 8), (.blt .tuple [(.v 9)])])])]), (.ret (.blt .tuple [(.v 4)]))]⟩
def ir__law_from : EV.Def := ⟨["_law_rows_here", "_law_at", "_law_inside"], 7, [false, false, false], [(.par [3, 4] [(.lst []), (.neg (.int 1))]), (.whl (.cmp .lt (.v 4) (.blt .len [(.v 3)])) [(.asg (.nm 5) (.ite (.cmp .lt (.v 4) (.int 0)) (.v 1) (.idx (.v 3) (.v 4)))), (.for_ (.nm 6) (.seq (.idx (.idx (.v 0) (.v 5)) (.int 1))) [(.ife (.and (.cmp .isin (.v 6) (.v 2)) (.cmp .notin (.v 6) (.v 3))) [(.mut 3 .append [(.v 6)])] [])]), (.asg (.nm 4) (.bin .add (.v 4) (.int 1)))]), (.ret (.v 3))]⟩
def ir__law_loops : EV.Def := ⟨["_law_rows_here"], 5, [false], [(.par [1, 2] [(.lst [(.lst [])]), (.lst [])]), (.for_ (.nm 3) (.rng (.blt .len [(.v 0)])) [(.asg (.nm 1) (.bin .add (.v 1) (.lc [4] (.nm 4) (.seq (.v 1)) none (.bin .add (.v 4) (.lst [(.v 3)])))))]), (.for_ (.nm 4) (.seq (.slc (.v 1) (some (.int 1)) none)) [(.ife (.cmp .eq (.lc [3] (.nm 3) (.seq (.v 4)) (some (.cmp .lt (.blt .len [(.call "_law_from" [(.v 0), (.v 3), (.v 4)] [])]) (.blt .len [(.v 4)]))) (.v 3)) (.lst [])) [(.mut 2 .append [(.tup [(.v 4), (.bin .mod (.blt .int [(.blt .max [(.lc [3] (.nm 3) (.seq (.v 4)) none (.idx (.idx (.v 0) (.v 3)) (.int 0)))])]) (.int 2))])])] [])]), (.ret (.v 2))]⟩
def ir__law_ends_in : EV.Def := ⟨["_law_rows_here", "_law_odd"], 8, [false, false], [(.par [2, 3] [(.lrg (.blt .len [(.v 0)])), (.lst [])]), (.for_ (.tp [(.nm 4), (.nm 5)]) (.seq (.call "_law_loops" [(.v 0)] [])) [(.asg (.nm 3) (.bin .add (.v 3) (.ite (.cmp .eq (.v 5) (.v 1)) (.v 4) (.lst []))))]), (.ret (.lc [6] (.nm 6) (.seq (.v 2)) (some (.or (.cmp .isin (.v 6) (.v 3)) (.cmp .ne (.lc [7] (.nm 7) (.seq (.call "_law_from" [(.v 0), (.v 6), (.v 2)] [])) (some (.cmp .isin (.v 7) (.v 3))) (.v 7)) (.lst [])))) (.v 6)))]⟩
def ir__law_reached : EV.Def := ⟨["_law_rows_here"], 3, [false], [(.asg (.nm 1) (.lst [(.int 0)])), (.ret (.bin .add (.v 1) (.lc [2] (.nm 2) (.seq (.call "_law_from" [(.v 0), (.int 0), (.lrg (.blt .len [(.v 0)]))] [])) (some (.cmp .ne (.v 2) (.int 0))) (.v 2))))]⟩
def ir__law_right : EV.Def := ⟨["_law_bag_here"], 14, [true], [(.for_ (.nm 1) (.rng (.int 3)) [(.asg (.nm 2) (.call "_law_signs" [(.v 0)] [])), (.asg (.nm 3) (.call "_law_rows" [(.v 0), (.v 2), (.int 6)] [])), (.par [4, 5] [(.mk "Machine" [(.v 2), (.v 3)] []), (.lrg (.blt .len [(.v 3)]))]), (.par [6, 7] [(.call "_law_ends_in" [(.v 3), (.int 0)] []), (.call "_law_ends_in" [(.v 3), (.int 1)] [])]), (.par [8, 9] [(.lc [10] (.nm 10) (.seq (.v 5)) (some (.or (.cmp .notin (.v 10) (.v 6)) (.cmp .notin (.v 10) (.v 7)))) (.v 10)), (.bl true)]), (.for_ (.nm 10) (.seq (.call "_law_reached" [(.v 3)] [])) [(.asg (.nm 11) (.lc [13] (.nm 13) (.seq (.call "_law_from" [(.v 3), (.v 10), (.v 5)] [])) (some (.cmp .isin (.v 13) (.v 8))) (.v 13))), (.asg (.nm 9) (.and (.v 9) (.or (.cmp .isin (.v 10) (.v 8)) (.cmp .ne (.v 11) (.lst [])))))]), (.ife (.cmp .ne (.blt .repr [(.lst [(.call "is_watchable" [(.v 4)] []), (.call "is_watchable" [(.v 4)] ["machine"])])]) (.blt .repr [(.lst [(.v 9), (.v 9)])])) [(.ret (.bl false))] []), (.asg (.nm 12) (.bin .add (.v 3) (.tup [(.tup [(.call "_law_take" [(.v 0), (.int 7)] []), (.bin .mul (.tup [(.int 0)]) (.blt .len [(.v 2)]))])]))), (.ife (.and (.cmp .lt (.blt .len [(.v 3)]) (.int 6)) (.cmp .ne (.call "is_watchable" [(.mk "Machine" [(.v 2), (.v 12)] [])] []) (.v 9))) [(.ret (.bl false))] [])]), (.ret (.bl true))]⟩
def ir__law_quiet : EV.Def := ⟨["_law_bag_here"], 2, [true], [(.tri [(.asg (.nm 1) (.call "_law_right" [(.v 0)] []))] [] none []), (.ret (.v 1))]⟩
def ir_law : EV.Def := ⟨["_law_script"], 2, [false], [(.ret (.blt .all [(.lc [1] (.nm 1) (.rng (.blt .max [(.int 2), (.blt .min [(.blt .len [(.v 0)]), (.int 5)])])) none (.call "_law_quiet" [(.call "_law_bag" [(.v 0), (.v 1)] [])] []))]))]⟩
def ir_Graph___init__ : EV.Def := ⟨["self", "signs", "arrows", "colours"], 4, [true, false, false, false], [(.setf 0 "signs" (.v 1)), (.setf 0 "arrows" (.v 2)), (.setf 0 "colours" (.v 3))]⟩
def ir_Graph_ways : EV.Def := ⟨["self", "first", "inside"], 9, [false, false, false], [(.asg (.nm 3) (.dct [(.v 1)] [(.str "")])), (.asg (.nm 4) (.lst [(.v 1)])), (.asg (.nm 5) (.int 0)), (.whl (.cmp .lt (.v 5) (.blt .len [(.v 4)])) [(.asg (.nm 6) (.idx (.v 4) (.v 5))), (.for_ (.tp [(.nm 7), (.nm 8)]) (.zip (.fld (.v 0) "signs") (.idx (.fld (.v 0) "arrows") (.v 6))) [(.ife (.and (.cmp .isin (.v 8) (.v 2)) (.cmp .notin (.v 8) (.v 3))) [(.sub 3 (.v 8) (.bin .add (.idx (.v 3) (.v 6)) (.v 7))), (.mut 4 .append [(.v 8)])] [])]), (.aug 5 (.int 1))]), (.ret (.v 3))]⟩
def ir_Graph_part : EV.Def := ⟨["self", "first", "inside"], 4, [false, false, false], [(.ret (.lc [3] (.nm 3) (.seq (.mth "Graph.ways" "Graph" "ways" (.v 0) [(.v 1), (.v 2)])) (some (.cmp .isin (.v 1) (.mth "Graph.ways" "Graph" "ways" (.v 0) [(.v 3), (.v 2)]))) (.v 3)))]⟩
def ir_Graph_parts : EV.Def := ⟨["self", "inside"], 7, [false, false], [(.par [2, 3] [(.lst []), (.dct [] [])]), (.for_ (.nm 4) (.seq (.v 1)) [(.ife (.cmp .notin (.v 4) (.v 3)) [(.asg (.nm 5) (.mth "Graph.part" "Graph" "part" (.v 0) [(.v 4), (.v 1)])), (.mut 3 .update [(.dc [6] (.nm 6) (.seq (.v 5)) (.v 6) (.bl true))]), (.ife (.or (.cmp .gt (.blt .len [(.v 5)]) (.int 1)) (.cmp .isin (.v 4) (.idx (.fld (.v 0) "arrows") (.v 4)))) [(.mut 2 .append [(.v 5)])] [])] [])]), (.ret (.v 2))]⟩
def ir_Graph_up_to : EV.Def := ⟨["self", "inside", "column", "colour"], 5, [false, false, false, false], [(.ret (.lc [4] (.nm 4) (.seq (.v 1)) (some (.cmp .le (.idx (.idx (.fld (.v 0) "colours") (.v 4)) (.v 2)) (.v 3))) (.v 4)))]⟩
def ir_Graph_has : EV.Def := ⟨["self", "inside", "column", "colour"], 5, [false, false, false, false], [(.ret (.lc [4] (.nm 4) (.seq (.v 1)) (some (.cmp .eq (.idx (.idx (.fld (.v 0) "colours") (.v 4)) (.v 2)) (.v 3))) (.v 4)))]⟩
def ir_Machine___init__ : EV.Def := ⟨["self", "letters", "states"], 5, [true, false, false], [(.ife (.nt (.call "are_letters" [(.v 1)] [])) [(.rai "" [] false)] []), (.ife (.or (.nt (.isi (.v 2) "tuple")) (.cmp .eq (.blt .len [(.v 2)]) (.int 0))) [(.rai "" [] false)] []), (.for_ (.tp [(.nm 3), (.nm 4)]) (.enum (.v 2)) [(.ife (.or (.cmp .eq (.v 3) (.g "MOST_STATES")) (.nt (.call "is_state" [(.v 4), (.v 1), (.blt .len [(.v 2)])] []))) [(.rai "" [] false)] [])]), (.setf 0 "held_letters" (.v 1)), (.setf 0 "held_states" (.v 2))]⟩
def ir_Machine___len__ : EV.Def := ⟨["self"], 1, [false], [(.ret (.blt .len [(.fld (.v 0) "held_states")]))]⟩
def irs : List (String × EV.Def) := [("all_of", ir_all_of), ("graph_of", ir_graph_of), ("loops_of", ir_loops_of), ("leading_to", ir_leading_to), ("is_integer", ir_is_integer), ("is_word_of", ir_is_word_of), ("is_tuple_of", ir_is_tuple_of), ("are_letters", ir_are_letters), ("is_state", ir_is_state), ("digit_of", ir_digit_of), ("state_of", ir_state_of), ("check_machine", ir_check_machine), ("with_loops", ir_with_loops), ("live_of", ir_live_of), ("sure_of", ir_sure_of), ("ends_for", ir_ends_for), ("is_watched", ir_is_watched), ("is_watchable", ir_is_watchable), ("_law_bag", ir__law_bag), ("_law_take", ir__law_take), ("_law_signs", ir__law_signs), ("_law_rows", ir__law_rows), ("_law_from", ir__law_from), ("_law_loops", ir__law_loops), ("_law_ends_in", ir__law_ends_in), ("_law_reached", ir__law_reached), ("_law_right", ir__law_right), ("_law_quiet", ir__law_quiet), ("law", ir_law), ("Graph.__init__", ir_Graph___init__), ("Graph.ways", ir_Graph_ways), ("Graph.part", ir_Graph_part), ("Graph.parts", ir_Graph_parts), ("Graph.up_to", ir_Graph_up_to), ("Graph.has", ir_Graph_has), ("Machine.__init__", ir_Machine___init__), ("Machine.__len__", ir_Machine___len__)]
def irc : List (String × Val) := [("MOST_LETTERS", .int 3), ("MOST_STATES", .int 6), ("MOST_COLOUR", .int 6), ("LETTERS", .str (asStr "abcdefghijklmnopqrstuvwxyz")), ("DIGITS", .str (asStr "0123456789"))]
def irf : List (String × String) := [("Graph", "signs"), ("Graph", "arrows"), ("Graph", "colours"), ("Machine", "held_letters"), ("Machine", "held_states")]
def tab : Tab := ⟨fun f => irs.lookup f, fun x => irc.lookup x, fun _ => none, fun c f => irf.contains (c, f), fun c p f => c == "Machine" && ((p == "letters" && f == "held_letters") || (p == "states" && f == "held_states")), fun c => c == "Machine"⟩
theorem tab_no : tab.cst "?" = none := by kernel_rfl
theorem tab_letters : tab.prp "Machine" "letters" "held_letters" = true := by kernel_rfl
theorem tab_states : tab.prp "Machine" "states" "held_states" = true := by kernel_rfl
theorem ti_bool : tab.isc "bool" = false := by kernel_rfl
theorem ti_int : tab.isc "int" = false := by kernel_rfl
theorem ti_str : tab.isc "str" = false := by kernel_rfl
theorem ti_tuple : tab.isc "tuple" = false := by kernel_rfl
theorem ti_list : tab.isc "list" = false := by kernel_rfl
theorem fn_all_of : tab.fn "all_of" = some ir_all_of := by kernel_rfl
theorem fn_graph_of : tab.fn "graph_of" = some ir_graph_of := by kernel_rfl
theorem fn_loops_of : tab.fn "loops_of" = some ir_loops_of := by kernel_rfl
theorem fn_leading_to : tab.fn "leading_to" = some ir_leading_to := by kernel_rfl
theorem fn_is_integer : tab.fn "is_integer" = some ir_is_integer := by kernel_rfl
theorem fn_is_word_of : tab.fn "is_word_of" = some ir_is_word_of := by kernel_rfl
theorem fn_is_tuple_of : tab.fn "is_tuple_of" = some ir_is_tuple_of := by kernel_rfl
theorem fn_are_letters : tab.fn "are_letters" = some ir_are_letters := by kernel_rfl
theorem fn_is_state : tab.fn "is_state" = some ir_is_state := by kernel_rfl
theorem fn_digit_of : tab.fn "digit_of" = some ir_digit_of := by kernel_rfl
theorem fn_state_of : tab.fn "state_of" = some ir_state_of := by kernel_rfl
theorem fn_check_machine : tab.fn "check_machine" = some ir_check_machine := by kernel_rfl
theorem fn_with_loops : tab.fn "with_loops" = some ir_with_loops := by kernel_rfl
theorem fn_live_of : tab.fn "live_of" = some ir_live_of := by kernel_rfl
theorem fn_sure_of : tab.fn "sure_of" = some ir_sure_of := by kernel_rfl
theorem fn_ends_for : tab.fn "ends_for" = some ir_ends_for := by kernel_rfl
theorem fn_is_watched : tab.fn "is_watched" = some ir_is_watched := by kernel_rfl
theorem fn_is_watchable : tab.fn "is_watchable" = some ir_is_watchable := by kernel_rfl
theorem fn__law_bag : tab.fn "_law_bag" = some ir__law_bag := by kernel_rfl
theorem fn__law_take : tab.fn "_law_take" = some ir__law_take := by kernel_rfl
theorem fn__law_signs : tab.fn "_law_signs" = some ir__law_signs := by kernel_rfl
theorem fn__law_rows : tab.fn "_law_rows" = some ir__law_rows := by kernel_rfl
theorem fn__law_from : tab.fn "_law_from" = some ir__law_from := by kernel_rfl
theorem fn__law_loops : tab.fn "_law_loops" = some ir__law_loops := by kernel_rfl
theorem fn__law_ends_in : tab.fn "_law_ends_in" = some ir__law_ends_in := by kernel_rfl
theorem fn__law_reached : tab.fn "_law_reached" = some ir__law_reached := by kernel_rfl
theorem fn__law_right : tab.fn "_law_right" = some ir__law_right := by kernel_rfl
theorem fn__law_quiet : tab.fn "_law_quiet" = some ir__law_quiet := by kernel_rfl
theorem fn_law : tab.fn "law" = some ir_law := by kernel_rfl
theorem fn_Graph___init__ : tab.fn "Graph.__init__" = some ir_Graph___init__ := by kernel_rfl
theorem fn_Graph_ways : tab.fn "Graph.ways" = some ir_Graph_ways := by kernel_rfl
theorem fn_Graph_part : tab.fn "Graph.part" = some ir_Graph_part := by kernel_rfl
theorem fn_Graph_parts : tab.fn "Graph.parts" = some ir_Graph_parts := by kernel_rfl
theorem fn_Graph_up_to : tab.fn "Graph.up_to" = some ir_Graph_up_to := by kernel_rfl
theorem fn_Graph_has : tab.fn "Graph.has" = some ir_Graph_has := by kernel_rfl
theorem fn_Machine___init__ : tab.fn "Machine.__init__" = some ir_Machine___init__ := by kernel_rfl
theorem fn_Machine___len__ : tab.fn "Machine.__len__" = some ir_Machine___len__ := by kernel_rfl
theorem tc_MOST_LETTERS : tab.cst "MOST_LETTERS" = some (.int 3) := by kernel_rfl
theorem tc_MOST_STATES : tab.cst "MOST_STATES" = some (.int 6) := by kernel_rfl
theorem tc_MOST_COLOUR : tab.cst "MOST_COLOUR" = some (.int 6) := by kernel_rfl
theorem tc_LETTERS : tab.cst "LETTERS" = some (.str (asStr "abcdefghijklmnopqrstuvwxyz")) := by kernel_rfl
theorem tc_DIGITS : tab.cst "DIGITS" = some (.str (asStr "0123456789")) := by kernel_rfl
section
variable {P : Program} {w : World} {K : PySem.W.Frag} {mg : Str → Option Value} {base : Heap} {cal mkc : Cal} {k : Nat}
theorem fl_arrows (T : Txt K mg) : ∀ c, tab.fld c "arrows" = true → Cls K (GH.clsA mg (Str.ofString c)) ∧ NoAttr K (GH.clsA mg (Str.ofString c)) (Str.ofString "arrows") := by
  intro c h
  have h : (c, "arrows") ∈ irf := by simpa [tab] using h
  simp only [irf, List.mem_cons, Prod.mk.injEq, List.not_mem_nil, or_false] at h
  rcases h with ⟨_, h⟩ | ⟨rfl, _⟩ | ⟨_, h⟩ | ⟨_, h⟩ | ⟨_, h⟩
  · exact absurd h (by decide)
  · exact ⟨T.k_Graph.cl, T.n_Graph_arrows⟩
  · exact absurd h (by decide)
  · exact absurd h (by decide)
  · exact absurd h (by decide)
theorem fl_colours (T : Txt K mg) : ∀ c, tab.fld c "colours" = true → Cls K (GH.clsA mg (Str.ofString c)) ∧ NoAttr K (GH.clsA mg (Str.ofString c)) (Str.ofString "colours") := by
  intro c h
  have h : (c, "colours") ∈ irf := by simpa [tab] using h
  simp only [irf, List.mem_cons, Prod.mk.injEq, List.not_mem_nil, or_false] at h
  rcases h with ⟨_, h⟩ | ⟨_, h⟩ | ⟨rfl, _⟩ | ⟨_, h⟩ | ⟨_, h⟩
  · exact absurd h (by decide)
  · exact absurd h (by decide)
  · exact ⟨T.k_Graph.cl, T.n_Graph_colours⟩
  · exact absurd h (by decide)
  · exact absurd h (by decide)
theorem fl_held_letters (T : Txt K mg) : ∀ c, tab.fld c "held_letters" = true → Cls K (GH.clsA mg (Str.ofString c)) ∧ NoAttr K (GH.clsA mg (Str.ofString c)) (Str.ofString "held_letters") := by
  intro c h
  have h : (c, "held_letters") ∈ irf := by simpa [tab] using h
  simp only [irf, List.mem_cons, Prod.mk.injEq, List.not_mem_nil, or_false] at h
  rcases h with ⟨_, h⟩ | ⟨_, h⟩ | ⟨_, h⟩ | ⟨rfl, _⟩ | ⟨_, h⟩
  · exact absurd h (by decide)
  · exact absurd h (by decide)
  · exact absurd h (by decide)
  · exact ⟨T.M.cl, T.M.n1⟩
  · exact absurd h (by decide)
theorem fl_held_states (T : Txt K mg) : ∀ c, tab.fld c "held_states" = true → Cls K (GH.clsA mg (Str.ofString c)) ∧ NoAttr K (GH.clsA mg (Str.ofString c)) (Str.ofString "held_states") := by
  intro c h
  have h : (c, "held_states") ∈ irf := by simpa [tab] using h
  simp only [irf, List.mem_cons, Prod.mk.injEq, List.not_mem_nil, or_false] at h
  rcases h with ⟨_, h⟩ | ⟨_, h⟩ | ⟨_, h⟩ | ⟨_, h⟩ | ⟨rfl, _⟩
  · exact absurd h (by decide)
  · exact absurd h (by decide)
  · exact absurd h (by decide)
  · exact absurd h (by decide)
  · exact ⟨T.M.cl, T.M.n2⟩
theorem fl_signs (T : Txt K mg) : ∀ c, tab.fld c "signs" = true → Cls K (GH.clsA mg (Str.ofString c)) ∧ NoAttr K (GH.clsA mg (Str.ofString c)) (Str.ofString "signs") := by
  intro c h
  have h : (c, "signs") ∈ irf := by simpa [tab] using h
  simp only [irf, List.mem_cons, Prod.mk.injEq, List.not_mem_nil, or_false] at h
  rcases h with ⟨rfl, _⟩ | ⟨_, h⟩ | ⟨_, h⟩ | ⟨_, h⟩ | ⟨_, h⟩
  · exact ⟨T.k_Graph.cl, T.n_Graph_signs⟩
  · exact absurd h (by decide)
  · exact absurd h (by decide)
  · exact absurd h (by decide)
  · exact absurd h (by decide)
theorem p_letters (T : Txt K mg) : PropAt K mg "Machine" "letters" "held_letters" := (mach_prop T.M sc_Machine_letters ⟨_, _, _, rfl⟩ sc_Machine_states ⟨_, _, _, rfl⟩ (fun st fa fd nm q F h => by rcases h with rfl | rfl <;> exact binds_of F (fun _ _ _ _ _ _ us hl => match us, hl with | [_], _ => rfl))).1
theorem p_states (T : Txt K mg) : PropAt K mg "Machine" "states" "held_states" := (mach_prop T.M sc_Machine_letters ⟨_, _, _, rfl⟩ sc_Machine_states ⟨_, _, _, rfl⟩ (fun st fa fd nm q F h => by rcases h with rfl | rfl <;> exact binds_of F (fun _ _ _ _ _ _ us hl => match us, hl with | [_], _ => rfl))).2
structure Good (P : Program) (w : World) (K : PySem.W.Frag) (mg : Str → Option Value) (base : Heap) (k : Nat) (cal : Cal) : Prop where
  f_all_of : OkE P w K mg base k "all_of" "all_of" ["graph"] cal
  f_graph_of : OkE P w K mg base k "graph_of" "graph_of" ["machine"] cal
  f_loops_of : OkE P w K mg base k "loops_of" "loops_of" ["graph", "inside", "evenness"] cal
  f_leading_to : OkE P w K mg base k "leading_to" "leading_to" ["graph", "inside", "ends"] cal
  f_is_integer : OkE P w K mg base k "is_integer" "is_integer" ["value", "least", "greatest"] cal
  f_is_word_of : OkE P w K mg base k "is_word_of" "is_word_of" ["value", "signs", "most"] cal
  f_is_tuple_of : OkE P w K mg base k "is_tuple_of" "is_tuple_of" ["value", "many"] cal
  f_are_letters : OkE P w K mg base k "are_letters" "are_letters" ["value"] cal
  f_is_state : OkE P w K mg base k "is_state" "is_state" ["value", "letters", "many"] cal
  f_digit_of : OkE P w K mg base k "digit_of" "digit_of" ["text"] cal
  f_state_of : OkE P w K mg base k "state_of" "state_of" ["row"] cal
  f_check_machine : OkE P w K mg base k "check_machine" "check_machine" ["value"] cal
  f_with_loops : OkE P w K mg base k "with_loops" "with_loops" ["machine", "evenness"] cal
  f_live_of : OkE P w K mg base k "live_of" "live_of" ["machine"] cal
  f_sure_of : OkE P w K mg base k "sure_of" "sure_of" ["machine"] cal
  f_ends_for : OkE P w K mg base k "ends_for" "ends_for" ["machine", "wanted"] cal
  f_is_watched : OkE P w K mg base k "is_watched" "is_watched" ["machine"] cal
  f_is_watchable : OkE P w K mg base k "is_watchable" "is_watchable" ["machine"] cal
  f__law_bag : OkE P w K mg base k "_law_bag" "_law_bag" ["_law_script", "_law_turn"] cal
  f__law_take : OkE P w K mg base k "_law_take" "_law_take" ["_law_bag_here", "_law_many"] cal
  f__law_signs : OkE P w K mg base k "_law_signs" "_law_signs" ["_law_bag_here"] cal
  f__law_rows : OkE P w K mg base k "_law_rows" "_law_rows" ["_law_bag_here", "_law_signs_here", "_law_most"] cal
  f__law_from : OkE P w K mg base k "_law_from" "_law_from" ["_law_rows_here", "_law_at", "_law_inside"] cal
  f__law_loops : OkE P w K mg base k "_law_loops" "_law_loops" ["_law_rows_here"] cal
  f__law_ends_in : OkE P w K mg base k "_law_ends_in" "_law_ends_in" ["_law_rows_here", "_law_odd"] cal
  f__law_reached : OkE P w K mg base k "_law_reached" "_law_reached" ["_law_rows_here"] cal
  f__law_right : OkE P w K mg base k "_law_right" "_law_right" ["_law_bag_here"] cal
  f__law_quiet : OkE P w K mg base k "_law_quiet" "_law_quiet" ["_law_bag_here"] cal
  f_law : OkE P w K mg base k "law" "law" ["_law_script"] cal
  f_Graph___init__ : OkNE P w K mg base k "Graph" "Graph.__init__" ["self", "signs", "arrows", "colours"] cal
  f_Graph_ways : OkME P w K mg base k "Graph" "ways" "Graph.ways" ["self", "first", "inside"] cal
  f_Graph_part : OkME P w K mg base k "Graph" "part" "Graph.part" ["self", "first", "inside"] cal
  f_Graph_parts : OkME P w K mg base k "Graph" "parts" "Graph.parts" ["self", "inside"] cal
  f_Graph_up_to : OkME P w K mg base k "Graph" "up_to" "Graph.up_to" ["self", "inside", "column", "colour"] cal
  f_Graph_has : OkME P w K mg base k "Graph" "has" "Graph.has" ["self", "inside", "column", "colour"] cal
  f_Machine___init__ : OkNE P w K mg base k "Machine" "Machine.__init__" ["self", "letters", "states"] cal
  f_Machine___len__ : OkME P w K mg base k "Machine" "__len__" "Machine.__len__" ["self"] cal
theorem b_all_of (T : Txt K mg) (C : Good P w K mg base (k + 2) cal) (M : Good P w K mg base (k + 1) mkc) (f : Addr) (cdv : Value) (A : Around) (outer : List Env) (s : Shared) (H : Hp) (E : XK) (gd : A.guards = some []) (hr : Room (k + 2) (A.deeper (envOfC "all_of" (defScope s_all_of) s.heap.objs.size f cdv))) :
    PSs (cxOf (L2.CX P w) P w K mg base ["graph"] "all_of" (defScope s_all_of) f cdv A outer s H E) (defBody s_all_of) (tSs (cxOf (L2.CX P w) P w K mg base ["graph"] "all_of" (defScope s_all_of) f cdv A outer s H E) (fun c d _ H' => E c d H') tab cal mkc [] ir_all_of.body) := by
  have tk : Takes (cxOf (L2.CX P w) P w K mg base ["graph"] "all_of" (defScope s_all_of) f cdv A outer s H E) (fun c d _ H' => E c d H') := takes_of rfl rfl rfl rfl
  have po : PassesOwn (model P w) (cxOf (L2.CX P w) P w K mg base ["graph"] "all_of" (defScope s_all_of) f cdv A outer s H E).A (cxOf (L2.CX P w) P w K mg base ["graph"] "all_of" (defScope s_all_of) f cdv A outer s H E).env (cxOf (L2.CX P w) P w K mg base ["graph"] "all_of" (defScope s_all_of) f cdv A outer s H E).xe := passes_of rfl
  exact (sSs_cons (sS_ret (t1 (cr_listF rfl) T.B.list_ boot_list (oE (mE (c := "Graph") (m := "ways") C.f_Graph_ways gd hr tk fn_Graph_ways (aV (pv 0)) (sArgs_cons nofun (aE (sE_idx hr (oE (t1 (cr_listF rfl) T.B.list_ boot_list (oE (sE_fld (f := "arrows") (pe_place (pv 0)) (fl_arrows T) rfl)))) (oE cI) (fun _ _ => rfl))) (sArgs_one (aE (sE_fld (f := "arrows") (pe_place (pv 0)) (fl_arrows T) rfl)) rfl) rfl)))) nofun)
      sSs_nil)
theorem b_graph_of (T : Txt K mg) (C : Good P w K mg base (k + 2) cal) (M : Good P w K mg base (k + 1) mkc) (f : Addr) (cdv : Value) (A : Around) (outer : List Env) (s : Shared) (H : Hp) (E : XK) (gd : A.guards = some []) (hr : Room (k + 2) (A.deeper (envOfC "graph_of" (defScope s_graph_of) s.heap.objs.size f cdv))) :
    PSs (cxOf (L2.CX P w) P w K mg base ["machine", "arrows", "number", "colour", "targets"] "graph_of" (defScope s_graph_of) f cdv A outer s H E) (defBody s_graph_of) (tSs (cxOf (L2.CX P w) P w K mg base ["machine", "arrows", "number", "colour", "targets"] "graph_of" (defScope s_graph_of) f cdv A outer s H E) (fun c d _ H' => E c d H') tab cal mkc [] ir_graph_of.body) := by
  have tk : Takes (cxOf (L2.CX P w) P w K mg base ["machine", "arrows", "number", "colour", "targets"] "graph_of" (defScope s_graph_of) f cdv A outer s H E) (fun c d _ H' => E c d H') := takes_of rfl rfl rfl rfl
  have po : PassesOwn (model P w) (cxOf (L2.CX P w) P w K mg base ["machine", "arrows", "number", "colour", "targets"] "graph_of" (defScope s_graph_of) f cdv A outer s H E).A (cxOf (L2.CX P w) P w K mg base ["machine", "arrows", "number", "colour", "targets"] "graph_of" (defScope s_graph_of) f cdv A outer s H E).env (cxOf (L2.CX P w) P w K mg base ["machine", "arrows", "number", "colour", "targets"] "graph_of" (defScope s_graph_of) f cdv A outer s H E).xe := passes_of rfl
  exact (sSs_cons (sS_setDc (i := 1) (by decide) rfl sc_graph_of.nd rfl rfl (sw_trueD rfl rfl rfl (by decide +kernel)) (sI_enum (by rfl) T.B.enumerate_ (sE_prp (c := "Machine") (p := "states") (f := "held_states") hr (pe_place (pv 0)) (fun _ => p_states T) tab_states rfl) (by rfl)) (blkOk_by (own := [("number", 2), ("colour", 3), ("targets", 4)]) (N := ["machine", "arrows", "number", "colour", "targets"]) (sc := defScope s_graph_of) (by decide +kernel)) rfl (by decide) (fun _ _ _ _ _ => (sG_tup rfl (sGs_cons (sG_name (i := 2) sc_graph_of.nd rfl (by first | exact .inl rfl | exact .inr rfl)) (sGs_cons (sG_tup rfl (sGs_cons (sG_name (i := 3) sc_graph_of.nd rfl (by first | exact .inl rfl | exact .inr rfl)) (sGs_cons (sG_name (i := 4) sc_graph_of.nd rfl (by first | exact .inl rfl | exact .inr rfl)) sGs_nil))) sGs_nil)))) (fun _ _ _ _ _ => (pe_name (pv 2))) (fun _ _ _ _ _ => (pe_name (pv 4))))
      (sSs_cons (sS_ret (nE (c := "Graph") M.f_Graph___init__ (by decide +kernel) gd hr tk fn_Graph___init__ (sA_cons (sE_prp (c := "Machine") (p := "letters") (f := "held_letters") hr (pe_place (pv 0)) (fun _ => p_letters T) tab_letters rfl) (sA_cons (pe_name (pv 1)) (sA_cons (sE_dc rfl sc_graph_of.nd (sI_seq (pe_name (pv 1))) (blkOk_by (own := [("number", 2)]) (N := ["machine", "arrows", "number", "colour", "targets"]) (sc := defScope s_graph_of) (by decide +kernel)) rfl (by decide) (fun _ _ _ _ _ => (sG_name (i := 2) sc_graph_of.nd rfl (by first | exact .inl rfl | exact .inr rfl))) (fun _ _ _ _ _ => (pe_name (pv 2))) (fun _ _ _ _ _ => (sE_tup (sA_cons (sE_idx hr (oE (sE_idx hr (oE (sE_prp (c := "Machine") (p := "states") (f := "held_states") hr (pe_place (pv 0)) (fun _ => p_states T) tab_states rfl)) (pe_place (pv 2)) (fun _ _ => rfl))) (oE cI) (fun _ _ => rfl)) sA_nil rfl nofun)))) sA_nil rfl nofun) rfl nofun) rfl nofun)) nofun)
      sSs_nil))
theorem b_loops_of (T : Txt K mg) (C : Good P w K mg base (k + 2) cal) (M : Good P w K mg base (k + 1) mkc) (f : Addr) (cdv : Value) (A : Around) (outer : List Env) (s : Shared) (H : Hp) (E : XK) (gd : A.guards = some []) (hr : Room (k + 2) (A.deeper (envOfC "loops_of" (defScope s_loops_of) s.heap.objs.size f cdv))) :
    PSs (cxOf (L2.CX P w) P w K mg base ["graph", "inside", "evenness", "found", "colour", "part"] "loops_of" (defScope s_loops_of) f cdv A outer s H E) (defBody s_loops_of) (tSs (cxOf (L2.CX P w) P w K mg base ["graph", "inside", "evenness", "found", "colour", "part"] "loops_of" (defScope s_loops_of) f cdv A outer s H E) (fun c d _ H' => E c d H') tab cal mkc [] ir_loops_of.body) := by
  have tk : Takes (cxOf (L2.CX P w) P w K mg base ["graph", "inside", "evenness", "found", "colour", "part"] "loops_of" (defScope s_loops_of) f cdv A outer s H E) (fun c d _ H' => E c d H') := takes_of rfl rfl rfl rfl
  have po : PassesOwn (model P w) (cxOf (L2.CX P w) P w K mg base ["graph", "inside", "evenness", "found", "colour", "part"] "loops_of" (defScope s_loops_of) f cdv A outer s H E).A (cxOf (L2.CX P w) P w K mg base ["graph", "inside", "evenness", "found", "colour", "part"] "loops_of" (defScope s_loops_of) f cdv A outer s H E).env (cxOf (L2.CX P w) P w K mg base ["graph", "inside", "evenness", "found", "colour", "part"] "loops_of" (defScope s_loops_of) f cdv A outer s H E).xe := passes_of rfl
  exact (sSs_cons (sS_set (i := 3) (by decide) sc_loops_of.nd rfl (by first | exact .inl rfl | exact .inr rfl) (sE_lst sA_nil))
      (sSs_cons (sS_for (by decide) po rfl (sI_rng3 (by rfl) T.B.range_ (pe_name (pv 2)) cI cI (by rfl) (by rfl) (by rfl)) (sG_name (i := 4) sc_loops_of.nd rfl (by first | exact .inl rfl | exact .inr rfl))
      (sSs_cons (sS_for (by decide) po rfl (sI_seq (mE (c := "Graph") (m := "parts") C.f_Graph_parts gd hr tk fn_Graph_parts (aV (pv 0)) (sArgs_one (aE (mE (c := "Graph") (m := "up_to") C.f_Graph_up_to gd hr tk fn_Graph_up_to (aV (pv 0)) (sArgs_cons nofun (aV (pv 1)) (sArgs_cons nofun (aE cI) (sArgs_one (aV (pv 4)) rfl) rfl) rfl))) rfl))) (sG_name (i := 5) sc_loops_of.nd rfl (by first | exact .inl rfl | exact .inr rfl))
      (sSs_cons (sS_if (sT_cmp (o := .gt) hr (oE (b1 cr_len T.B.len_ PySem.boot_len (oE (mE (c := "Graph") (m := "has") C.f_Graph_has gd hr tk fn_Graph_has (aV (pv 0)) (sArgs_cons nofun (aV (pv 5)) (sArgs_cons nofun (aE cI) (sArgs_one (aV (pv 4)) rfl) rfl) rfl))))) (oE cI) (nomark _))
      (sSs_cons (sS_append (pv 3) (sA_cons (sE_tup (sA_cons (pe_name (pv 5)) (sA_cons (sE_idx hr (oE (mE (c := "Graph") (m := "has") C.f_Graph_has gd hr tk fn_Graph_has (aV (pv 0)) (sArgs_cons nofun (aV (pv 5)) (sArgs_cons nofun (aE cI) (sArgs_one (aV (pv 4)) rfl) rfl) rfl))) (oE cI) (fun _ _ => rfl)) sA_nil rfl nofun) rfl nofun)) sA_nil rfl nofun))
      sSs_nil)
      sSs_nil)
      sSs_nil))
      sSs_nil))
      (sSs_cons (sS_retV (pv 3))
      sSs_nil)))
theorem b_leading_to (T : Txt K mg) (C : Good P w K mg base (k + 2) cal) (M : Good P w K mg base (k + 1) mkc) (f : Addr) (cdv : Value) (A : Around) (outer : List Env) (s : Shared) (H : Hp) (E : XK) (gd : A.guards = some []) (hr : Room (k + 2) (A.deeper (envOfC "leading_to" (defScope s_leading_to) s.heap.objs.size f cdv))) :
    PSs (cxOf (L2.CX P w) P w K mg base ["graph", "inside", "ends", "place", "end"] "leading_to" (defScope s_leading_to) f cdv A outer s H E) (defBody s_leading_to) (tSs (cxOf (L2.CX P w) P w K mg base ["graph", "inside", "ends", "place", "end"] "leading_to" (defScope s_leading_to) f cdv A outer s H E) (fun c d _ H' => E c d H') tab cal mkc [] ir_leading_to.body) := by
  have tk : Takes (cxOf (L2.CX P w) P w K mg base ["graph", "inside", "ends", "place", "end"] "leading_to" (defScope s_leading_to) f cdv A outer s H E) (fun c d _ H' => E c d H') := takes_of rfl rfl rfl rfl
  have po : PassesOwn (model P w) (cxOf (L2.CX P w) P w K mg base ["graph", "inside", "ends", "place", "end"] "leading_to" (defScope s_leading_to) f cdv A outer s H E).A (cxOf (L2.CX P w) P w K mg base ["graph", "inside", "ends", "place", "end"] "leading_to" (defScope s_leading_to) f cdv A outer s H E).env (cxOf (L2.CX P w) P w K mg base ["graph", "inside", "ends", "place", "end"] "leading_to" (defScope s_leading_to) f cdv A outer s H E).xe := passes_of rfl
  exact (sSs_cons (sS_ret (sE_lc rfl sc_leading_to.nd (sI_seq (pe_name (pv 1))) (blkOk_by (own := [("place", 3)]) (N := ["graph", "inside", "ends", "place", "end"]) (sc := defScope s_leading_to) (by decide +kernel)) rfl (by decide) (fun _ _ _ _ _ => (sG_name (i := 3) sc_leading_to.nd rfl (by first | exact .inl rfl | exact .inr rfl))) (fun _ _ _ _ _ => (sC_some (sT_val (b1 (cr_anyF rfl) T.B.any_ boot_any (oE (sE_lc rfl sc_leading_to.nd (sI_seq (pe_name (pv 2))) (blkOk_by (own := [("end", 4)]) (N := ["graph", "inside", "ends", "place", "end"]) (by kernel_rfl)) rfl (by decide) (fun _ _ _ _ _ => (sG_name (i := 4) sc_leading_to.nd rfl (by first | exact .inl rfl | exact .inr rfl))) (fun _ _ _ _ _ => sC_none) (fun _ _ _ _ _ => (sE_cmp (o := .isin) hr (pe_place (pv 4)) (oE (mE (c := "Graph") (m := "ways") C.f_Graph_ways gd hr takesW0 fn_Graph_ways (aV (pv 0)) (sArgs_cons nofun (aV (pv 3)) (sArgs_one (aV (pv 1)) rfl) rfl))) (by rfl)))))) (by intro _; rfl)))) (fun _ _ _ _ _ => (pe_name (pv 3)))) nofun)
      sSs_nil)
theorem b_is_integer (T : Txt K mg) (C : Good P w K mg base (k + 2) cal) (M : Good P w K mg base (k + 1) mkc) (f : Addr) (cdv : Value) (A : Around) (outer : List Env) (s : Shared) (H : Hp) (E : XK) (gd : A.guards = some []) (hr : Room (k + 2) (A.deeper (envOfC "is_integer" (defScope s_is_integer) s.heap.objs.size f cdv))) :
    PSs (cxOf (L2.CX P w) P w K mg base ["value", "least", "greatest"] "is_integer" (defScope s_is_integer) f cdv A outer s H E) (defBody s_is_integer) (tSs (cxOf (L2.CX P w) P w K mg base ["value", "least", "greatest"] "is_integer" (defScope s_is_integer) f cdv A outer s H E) (fun c d _ H' => E c d H') tab cal mkc [] ir_is_integer.body) := by
  have tk : Takes (cxOf (L2.CX P w) P w K mg base ["value", "least", "greatest"] "is_integer" (defScope s_is_integer) f cdv A outer s H E) (fun c d _ H' => E c d H') := takes_of rfl rfl rfl rfl
  have po : PassesOwn (model P w) (cxOf (L2.CX P w) P w K mg base ["value", "least", "greatest"] "is_integer" (defScope s_is_integer) f cdv A outer s H E).A (cxOf (L2.CX P w) P w K mg base ["value", "least", "greatest"] "is_integer" (defScope s_is_integer) f cdv A outer s H E).env (cxOf (L2.CX P w) P w K mg base ["value", "least", "greatest"] "is_integer" (defScope s_is_integer) f cdv A outer s H E).xe := passes_of rfl
  exact (sSs_cons (sS_ret (sE_and (sE_isi (t := "int") (.inl ⟨rfl, rfl⟩) (fun _ => ti_int) T.B.isinstance_ (pe_place (pv 0)) (pe_type T.B.int_ PyProof.Rows.boot_int)) (sE_and (sE_not (sE_isi (t := "bool") (.inl ⟨rfl, rfl⟩) (fun _ => ti_bool) T.B.isinstance_ (pe_place (pv 0)) (pe_type T.B.bool_ PyProof.Rows.boot_bool))) (pe_one (sE_chain (o := .le) (p := .le) hr (pe_place (pv 1)) (pe_place (pv 0)) (pe_place (pv 2)) (by rfl))))) nofun)
      sSs_nil)
theorem b_is_word_of (T : Txt K mg) (C : Good P w K mg base (k + 2) cal) (M : Good P w K mg base (k + 1) mkc) (f : Addr) (cdv : Value) (A : Around) (outer : List Env) (s : Shared) (H : Hp) (E : XK) (gd : A.guards = some []) (hr : Room (k + 2) (A.deeper (envOfC "is_word_of" (defScope s_is_word_of) s.heap.objs.size f cdv))) :
    PSs (cxOf (L2.CX P w) P w K mg base ["value", "signs", "most", "sign"] "is_word_of" (defScope s_is_word_of) f cdv A outer s H E) (defBody s_is_word_of) (tSs (cxOf (L2.CX P w) P w K mg base ["value", "signs", "most", "sign"] "is_word_of" (defScope s_is_word_of) f cdv A outer s H E) (fun c d _ H' => E c d H') tab cal mkc [] ir_is_word_of.body) := by
  have tk : Takes (cxOf (L2.CX P w) P w K mg base ["value", "signs", "most", "sign"] "is_word_of" (defScope s_is_word_of) f cdv A outer s H E) (fun c d _ H' => E c d H') := takes_of rfl rfl rfl rfl
  have po : PassesOwn (model P w) (cxOf (L2.CX P w) P w K mg base ["value", "signs", "most", "sign"] "is_word_of" (defScope s_is_word_of) f cdv A outer s H E).A (cxOf (L2.CX P w) P w K mg base ["value", "signs", "most", "sign"] "is_word_of" (defScope s_is_word_of) f cdv A outer s H E).env (cxOf (L2.CX P w) P w K mg base ["value", "signs", "most", "sign"] "is_word_of" (defScope s_is_word_of) f cdv A outer s H E).xe := passes_of rfl
  exact (sSs_cons (sS_ret (sE_and (sE_isi (t := "str") (.inl ⟨rfl, rfl⟩) (fun _ => ti_str) T.B.isinstance_ (pe_place (pv 0)) (pe_type T.B.str_ PyProof.Rows.boot_str)) (sE_and (sE_cmp (o := .le) hr (oE (b1 cr_len T.B.len_ PySem.boot_len (pe_place (pv 0)))) (pe_place (pv 2)) (nomark _)) (pe_one (b1 (cr_allF rfl) T.B.all_ boot_all (oE (sE_lc rfl sc_is_word_of.nd (sI_seq (pe_name (pv 0))) (blkOk_by (own := [("sign", 3)]) (N := ["value", "signs", "most", "sign"]) (sc := defScope s_is_word_of) (by decide +kernel)) rfl (by decide) (fun _ _ _ _ _ => (sG_name (i := 3) sc_is_word_of.nd rfl (by first | exact .inl rfl | exact .inr rfl))) (fun _ _ _ _ _ => sC_none) (fun _ _ _ _ _ => (sE_cmp (o := .isin) hr (pe_place (pv 3)) (pe_place (pv 1)) (by rfl))))))))) nofun)
      sSs_nil)
theorem b_is_tuple_of (T : Txt K mg) (C : Good P w K mg base (k + 2) cal) (M : Good P w K mg base (k + 1) mkc) (f : Addr) (cdv : Value) (A : Around) (outer : List Env) (s : Shared) (H : Hp) (E : XK) (gd : A.guards = some []) (hr : Room (k + 2) (A.deeper (envOfC "is_tuple_of" (defScope s_is_tuple_of) s.heap.objs.size f cdv))) :
    PSs (cxOf (L2.CX P w) P w K mg base ["value", "many"] "is_tuple_of" (defScope s_is_tuple_of) f cdv A outer s H E) (defBody s_is_tuple_of) (tSs (cxOf (L2.CX P w) P w K mg base ["value", "many"] "is_tuple_of" (defScope s_is_tuple_of) f cdv A outer s H E) (fun c d _ H' => E c d H') tab cal mkc [] ir_is_tuple_of.body) := by
  have tk : Takes (cxOf (L2.CX P w) P w K mg base ["value", "many"] "is_tuple_of" (defScope s_is_tuple_of) f cdv A outer s H E) (fun c d _ H' => E c d H') := takes_of rfl rfl rfl rfl
  have po : PassesOwn (model P w) (cxOf (L2.CX P w) P w K mg base ["value", "many"] "is_tuple_of" (defScope s_is_tuple_of) f cdv A outer s H E).A (cxOf (L2.CX P w) P w K mg base ["value", "many"] "is_tuple_of" (defScope s_is_tuple_of) f cdv A outer s H E).env (cxOf (L2.CX P w) P w K mg base ["value", "many"] "is_tuple_of" (defScope s_is_tuple_of) f cdv A outer s H E).xe := passes_of rfl
  exact (sSs_cons (sS_ret (sE_and (sE_isi (t := "tuple") (.inl ⟨rfl, rfl⟩) (fun _ => ti_tuple) T.B.isinstance_ (pe_place (pv 0)) (pe_type T.B.tuple_ PyProof.Rows.boot_tuple)) (pe_one (sE_cmp (o := .eq) hr (oE (b1 cr_len T.B.len_ PySem.boot_len (pe_place (pv 0)))) (pe_place (pv 1)) (nomark _)))) nofun)
      sSs_nil)
theorem b_are_letters (T : Txt K mg) (C : Good P w K mg base (k + 2) cal) (M : Good P w K mg base (k + 1) mkc) (f : Addr) (cdv : Value) (A : Around) (outer : List Env) (s : Shared) (H : Hp) (E : XK) (gd : A.guards = some []) (hr : Room (k + 2) (A.deeper (envOfC "are_letters" (defScope s_are_letters) s.heap.objs.size f cdv))) :
    PSs (cxOf (L2.CX P w) P w K mg base ["value", "one", "other"] "are_letters" (defScope s_are_letters) f cdv A outer s H E) (defBody s_are_letters) (tSs (cxOf (L2.CX P w) P w K mg base ["value", "one", "other"] "are_letters" (defScope s_are_letters) f cdv A outer s H E) (fun c d _ H' => E c d H') tab cal mkc [] ir_are_letters.body) := by
  have tk : Takes (cxOf (L2.CX P w) P w K mg base ["value", "one", "other"] "are_letters" (defScope s_are_letters) f cdv A outer s H E) (fun c d _ H' => E c d H') := takes_of rfl rfl rfl rfl
  have po : PassesOwn (model P w) (cxOf (L2.CX P w) P w K mg base ["value", "one", "other"] "are_letters" (defScope s_are_letters) f cdv A outer s H E).A (cxOf (L2.CX P w) P w K mg base ["value", "one", "other"] "are_letters" (defScope s_are_letters) f cdv A outer s H E).env (cxOf (L2.CX P w) P w K mg base ["value", "one", "other"] "are_letters" (defScope s_are_letters) f cdv A outer s H E).xe := passes_of rfl
  exact (sSs_cons (sS_if (PW.pt (sW_or (sT_not (sT_val (cE C.f_is_word_of gd hr tk fn_is_word_of (sArgs_cons nofun (aV (pv 0)) (sArgs_cons nofun (aE (cG T.c_LETTERS (fun F => by rw [← toS_as]; exact .str _) tc_LETTERS)) (sArgs_one (aE (cG T.c_MOST_LETTERS (fun _ => .int 3) tc_MOST_LETTERS)) rfl) rfl) rfl)) (by intro _; rfl))) (pw_or1 (sT_cmp (o := .eq) hr (pe_place (pv 0)) (oE (cS (s := ""))) (nomark _)))))
      (sSs_cons (sS_ret cB nofun)
      sSs_nil)
      sSs_nil)
      (sSs_cons (sS_ret (b1 (cr_allF rfl) T.B.all_ boot_all (oE (sE_lc rfl sc_are_letters.nd (sI_zip (by rfl) T.B.zip_ (pe_name (pv 0)) (sE_slc (pe_place (pv 0)) (sO_some cI) sO_none) (by rfl) (by rfl) (by rfl)) (blkOk_by (own := [("one", 1), ("other", 2)]) (N := ["value", "one", "other"]) (sc := defScope s_are_letters) (by decide +kernel)) rfl (by decide) (fun _ _ _ _ _ => (sG_tup rfl (sGs_cons (sG_name (i := 1) sc_are_letters.nd rfl (by first | exact .inl rfl | exact .inr rfl)) (sGs_cons (sG_name (i := 2) sc_are_letters.nd rfl (by first | exact .inl rfl | exact .inr rfl)) sGs_nil)))) (fun _ _ _ _ _ => sC_none) (fun _ _ _ _ _ => (sE_cmp (o := .lt) hr (pe_place (pv 1)) (pe_place (pv 2)) (nomark _)))))) nofun)
      sSs_nil))
theorem b_is_state (T : Txt K mg) (C : Good P w K mg base (k + 2) cal) (M : Good P w K mg base (k + 1) mkc) (f : Addr) (cdv : Value) (A : Around) (outer : List Env) (s : Shared) (H : Hp) (E : XK) (gd : A.guards = some []) (hr : Room (k + 2) (A.deeper (envOfC "is_state" (defScope s_is_state) s.heap.objs.size f cdv))) :
    PSs (cxOf (L2.CX P w) P w K mg base ["value", "letters", "many", "target"] "is_state" (defScope s_is_state) f cdv A outer s H E) (defBody s_is_state) (tSs (cxOf (L2.CX P w) P w K mg base ["value", "letters", "many", "target"] "is_state" (defScope s_is_state) f cdv A outer s H E) (fun c d _ H' => E c d H') tab cal mkc [] ir_is_state.body) := by
  have tk : Takes (cxOf (L2.CX P w) P w K mg base ["value", "letters", "many", "target"] "is_state" (defScope s_is_state) f cdv A outer s H E) (fun c d _ H' => E c d H') := takes_of rfl rfl rfl rfl
  have po : PassesOwn (model P w) (cxOf (L2.CX P w) P w K mg base ["value", "letters", "many", "target"] "is_state" (defScope s_is_state) f cdv A outer s H E).A (cxOf (L2.CX P w) P w K mg base ["value", "letters", "many", "target"] "is_state" (defScope s_is_state) f cdv A outer s H E).env (cxOf (L2.CX P w) P w K mg base ["value", "letters", "many", "target"] "is_state" (defScope s_is_state) f cdv A outer s H E).xe := passes_of rfl
  exact (sSs_cons (sS_if (PW.pt (sW_or (sT_not (sT_val (cE C.f_is_tuple_of gd hr tk fn_is_tuple_of (sArgs_cons nofun (aV (pv 0)) (sArgs_one (aE cI) rfl) rfl)) (by intro _; rfl))) (pw_or1 (sT_not (sT_val (cE C.f_is_integer gd hr tk fn_is_integer (sArgs_cons nofun (aE (sE_idx hr (pe_place (pv 0)) (oE cI) (fun _ _ => rfl))) (sArgs_cons nofun (aE cI) (sArgs_one (aE (cG T.c_MOST_COLOUR (fun _ => .int 6) tc_MOST_COLOUR)) rfl) rfl) rfl)) (by intro _; rfl))))))
      (sSs_cons (sS_ret cB nofun)
      sSs_nil)
      sSs_nil)
      (sSs_cons (sS_ret (sE_and (cE C.f_is_tuple_of gd hr tk fn_is_tuple_of (sArgs_cons nofun (aE (sE_idx hr (pe_place (pv 0)) (oE cI) (fun _ _ => rfl))) (sArgs_one (aE (b1 cr_len T.B.len_ PySem.boot_len (pe_place (pv 1)))) rfl) rfl)) (pe_one (b1 (cr_allF rfl) T.B.all_ boot_all (oE (sE_lc rfl sc_is_state.nd (sI_seq (sE_idx hr (pe_place (pv 0)) (oE cI) (fun _ _ => rfl))) (blkOk_by (own := [("target", 3)]) (N := ["value", "letters", "many", "target"]) (sc := defScope s_is_state) (by decide +kernel)) rfl (by decide) (fun _ _ _ _ _ => (sG_name (i := 3) sc_is_state.nd rfl (by first | exact .inl rfl | exact .inr rfl))) (fun _ _ _ _ _ => sC_none) (fun _ _ _ _ _ => (cE C.f_is_integer gd hr takesW0 fn_is_integer (sArgs_cons nofun (aV (pv 3)) (sArgs_cons nofun (aE cI) (sArgs_one (aE (sE_bin (o := .sub) (pe_place (pv 2)) (oE cI))) rfl) rfl) rfl)))))))) nofun)
      sSs_nil))
theorem b_digit_of (T : Txt K mg) (C : Good P w K mg base (k + 2) cal) (M : Good P w K mg base (k + 1) mkc) (f : Addr) (cdv : Value) (A : Around) (outer : List Env) (s : Shared) (H : Hp) (E : XK) (gd : A.guards = some []) (hr : Room (k + 2) (A.deeper (envOfC "digit_of" (defScope s_digit_of) s.heap.objs.size f cdv))) :
    PSs (cxOf (L2.CX P w) P w K mg base ["text"] "digit_of" (defScope s_digit_of) f cdv A outer s H E) (defBody s_digit_of) (tSs (cxOf (L2.CX P w) P w K mg base ["text"] "digit_of" (defScope s_digit_of) f cdv A outer s H E) (fun c d _ H' => E c d H') tab cal mkc [] ir_digit_of.body) := by
  have tk : Takes (cxOf (L2.CX P w) P w K mg base ["text"] "digit_of" (defScope s_digit_of) f cdv A outer s H E) (fun c d _ H' => E c d H') := takes_of rfl rfl rfl rfl
  have po : PassesOwn (model P w) (cxOf (L2.CX P w) P w K mg base ["text"] "digit_of" (defScope s_digit_of) f cdv A outer s H E).A (cxOf (L2.CX P w) P w K mg base ["text"] "digit_of" (defScope s_digit_of) f cdv A outer s H E).env (cxOf (L2.CX P w) P w K mg base ["text"] "digit_of" (defScope s_digit_of) f cdv A outer s H E).xe := passes_of rfl
  exact (sSs_cons (sS_ret (sE_ite (PW.pt (sW_and (sT_cmp (o := .eq) hr (oE (b1 cr_len T.B.len_ PySem.boot_len (pe_place (pv 0)))) (oE cI) (nomark _)) (pw_and1 (sT_cmp (o := .isin) hr (pe_place (pv 0)) (oE (cG T.c_DIGITS (fun F => by rw [← toS_as]; exact .str _) tc_DIGITS)) (by rfl))))) (t1 cr_intF T.B.int_ PyProof.Rows.boot_int (pe_place (pv 0))) cN) nofun)
      sSs_nil)
/- state_of: not walked: row.split(' ') -/
theorem b_state_of (T : Txt K mg) (C : Good P w K mg base (k + 2) cal) (M : Good P w K mg base (k + 1) mkc) (f : Addr) (cdv : Value) (A : Around) (outer : List Env) (s : Shared) (H : Hp) (E : XK) (gd : A.guards = some []) (hr : Room (k + 2) (A.deeper (envOfC "state_of" (defScope s_state_of) s.heap.objs.size f cdv))) :
    PSs (cxOf (L2.CX P w) P w K mg base ["row", "words", "word"] "state_of" (defScope s_state_of) f cdv A outer s H E) (defBody s_state_of) (tSs (cxOf (L2.CX P w) P w K mg base ["row", "words", "word"] "state_of" (defScope s_state_of) f cdv A outer s H E) (fun c d _ H' => E c d H') tab cal mkc [] ir_state_of.body) := by
  have tk : Takes (cxOf (L2.CX P w) P w K mg base ["row", "words", "word"] "state_of" (defScope s_state_of) f cdv A outer s H E) (fun c d _ H' => E c d H') := takes_of rfl rfl rfl rfl
  have po : PassesOwn (model P w) (cxOf (L2.CX P w) P w K mg base ["row", "words", "word"] "state_of" (defScope s_state_of) f cdv A outer s H E).A (cxOf (L2.CX P w) P w K mg base ["row", "words", "word"] "state_of" (defScope s_state_of) f cdv A outer s H E).env (cxOf (L2.CX P w) P w K mg base ["row", "words", "word"] "state_of" (defScope s_state_of) f cdv A outer s H E).xe := passes_of rfl
  exact (sSs_cons (sS_set (i := 1) (by decide) sc_state_of.nd rfl (by first | exact .inl rfl | exact .inr rfl) (never tab_no))
      (sSs_cons (sS_if (PW.pt (sW_or (sT_cmp (o := .lt) hr (oE (b1 cr_len T.B.len_ PySem.boot_len (pe_place (pv 1)))) (oE cI) (nomark _)) (pw_or1 (sT_cmp (o := .ne) hr (oE (sE_idx hr (pe_place (pv 1)) (oE cI) (fun _ _ => rfl))) (oE (cS (s := "state"))) (nomark _)))))
      (sSs_cons (sS_ret cN nofun)
      sSs_nil)
      sSs_nil)
      (sSs_cons (sS_ret (sE_tup (sA_cons (cE C.f_digit_of gd hr tk fn_digit_of (sArgs_one (aE (sE_idx hr (pe_place (pv 1)) (oE cI) (fun _ _ => rfl))) rfl)) (sA_cons (t1 cr_tupleF T.B.tuple_ PyProof.Rows.boot_tuple (oE (sE_lc rfl sc_state_of.nd (sI_seq (sE_slc (pe_place (pv 1)) (sO_some cI) sO_none)) (blkOk_by (own := [("word", 2)]) (N := ["row", "words", "word"]) (sc := defScope s_state_of) (by decide +kernel)) rfl (by decide) (fun _ _ _ _ _ => (sG_name (i := 2) sc_state_of.nd rfl (by first | exact .inl rfl | exact .inr rfl))) (fun _ _ _ _ _ => sC_none) (fun _ _ _ _ _ => (cE C.f_digit_of gd hr takesW0 fn_digit_of (sArgs_one (aV (pv 2)) rfl)))))) sA_nil rfl nofun) rfl nofun)) nofun)
      sSs_nil)))
theorem b_check_machine (T : Txt K mg) (C : Good P w K mg base (k + 2) cal) (M : Good P w K mg base (k + 1) mkc) (f : Addr) (cdv : Value) (A : Around) (outer : List Env) (s : Shared) (H : Hp) (E : XK) (gd : A.guards = some []) (hr : Room (k + 2) (A.deeper (envOfC "check_machine" (defScope s_check_machine) s.heap.objs.size f cdv))) :
    PSs (cxOf (L2.CX P w) P w K mg base ["value"] "check_machine" (defScope s_check_machine) f cdv A outer s H E) (defBody s_check_machine) (tSs (cxOf (L2.CX P w) P w K mg base ["value"] "check_machine" (defScope s_check_machine) f cdv A outer s H E) (fun c d _ H' => E c d H') tab cal mkc [] ir_check_machine.body) := by
  have tk : Takes (cxOf (L2.CX P w) P w K mg base ["value"] "check_machine" (defScope s_check_machine) f cdv A outer s H E) (fun c d _ H' => E c d H') := takes_of rfl rfl rfl rfl
  have po : PassesOwn (model P w) (cxOf (L2.CX P w) P w K mg base ["value"] "check_machine" (defScope s_check_machine) f cdv A outer s H E).A (cxOf (L2.CX P w) P w K mg base ["value"] "check_machine" (defScope s_check_machine) f cdv A outer s H E).env (cxOf (L2.CX P w) P w K mg base ["value"] "check_machine" (defScope s_check_machine) f cdv A outer s H E).xe := passes_of rfl
  exact (sSs_cons (sS_if (sT_not (sT_val (sE_isi (t := "Machine") (.inr ⟨rfl, rfl, mach_isc T.M, by decide +kernel⟩) (fun z => nomatch z) T.B.isinstance_ (pe_place (pv 0)) (pe_glob (by rfl) T.M.g rfl)) (by intro _; rfl)))
      (sSs_cons sS_never
      sSs_nil)
      sSs_nil)
      sSs_nil)
theorem b_with_loops (T : Txt K mg) (C : Good P w K mg base (k + 2) cal) (M : Good P w K mg base (k + 1) mkc) (f : Addr) (cdv : Value) (A : Around) (outer : List Env) (s : Shared) (H : Hp) (E : XK) (gd : A.guards = some []) (hr : Room (k + 2) (A.deeper (envOfC "with_loops" (defScope s_with_loops) s.heap.objs.size f cdv))) :
    PSs (cxOf (L2.CX P w) P w K mg base ["machine", "evenness", "graph", "tops", "part", "top"] "with_loops" (defScope s_with_loops) f cdv A outer s H E) (defBody s_with_loops) (tSs (cxOf (L2.CX P w) P w K mg base ["machine", "evenness", "graph", "tops", "part", "top"] "with_loops" (defScope s_with_loops) f cdv A outer s H E) (fun c d _ H' => E c d H') tab cal mkc [] ir_with_loops.body) := by
  have tk : Takes (cxOf (L2.CX P w) P w K mg base ["machine", "evenness", "graph", "tops", "part", "top"] "with_loops" (defScope s_with_loops) f cdv A outer s H E) (fun c d _ H' => E c d H') := takes_of rfl rfl rfl rfl
  have po : PassesOwn (model P w) (cxOf (L2.CX P w) P w K mg base ["machine", "evenness", "graph", "tops", "part", "top"] "with_loops" (defScope s_with_loops) f cdv A outer s H E).A (cxOf (L2.CX P w) P w K mg base ["machine", "evenness", "graph", "tops", "part", "top"] "with_loops" (defScope s_with_loops) f cdv A outer s H E).env (cxOf (L2.CX P w) P w K mg base ["machine", "evenness", "graph", "tops", "part", "top"] "with_loops" (defScope s_with_loops) f cdv A outer s H E).xe := passes_of rfl
  exact (sSs_cons (sS_set (i := 2) (by decide) sc_with_loops.nd rfl (by first | exact .inl rfl | exact .inr rfl) (cE C.f_graph_of gd hr tk fn_graph_of (sArgs_one (aV (pv 0)) rfl)))
      (sSs_cons (sS_setLc (i := 3) (by decide) rfl sc_with_loops.nd rfl rfl (sw_true rfl rfl rfl (by decide +kernel)) (sI_seq (cE C.f_loops_of gd hr tk fn_loops_of (sArgs_cons nofun (aV (pv 2)) (sArgs_cons nofun (aE (sE_fld (f := "arrows") (pe_place (pv 2)) (fl_arrows T) rfl)) (sArgs_one (aV (pv 1)) rfl) rfl) rfl))) (blkOk_by (own := [("part", 4), ("top", 5)]) (N := ["machine", "evenness", "graph", "tops", "part", "top"]) (sc := defScope s_with_loops) (by decide +kernel)) rfl (by decide) (fun _ _ _ _ _ => (sG_tup rfl (sGs_cons (sG_name (i := 4) sc_with_loops.nd rfl (by first | exact .inl rfl | exact .inr rfl)) (sGs_cons (sG_name (i := 5) sc_with_loops.nd rfl (by first | exact .inl rfl | exact .inr rfl)) sGs_nil)))) (fun _ _ _ _ _ => sC_none) (fun _ _ _ _ _ => (pe_name (pv 5))))
      (sSs_cons (sS_ret (cE C.f_leading_to gd hr tk fn_leading_to (sArgs_cons nofun (aV (pv 2)) (sArgs_cons nofun (aE (sE_fld (f := "arrows") (pe_place (pv 2)) (fl_arrows T) rfl)) (sArgs_one (aV (pv 3)) rfl) rfl) rfl)) nofun)
      sSs_nil)))
theorem b_live_of (T : Txt K mg) (C : Good P w K mg base (k + 2) cal) (M : Good P w K mg base (k + 1) mkc) (f : Addr) (cdv : Value) (A : Around) (outer : List Env) (s : Shared) (H : Hp) (E : XK) (gd : A.guards = some []) (hr : Room (k + 2) (A.deeper (envOfC "live_of" (defScope s_live_of) s.heap.objs.size f cdv))) :
    PSs (cxOf (L2.CX P w) P w K mg base ["machine"] "live_of" (defScope s_live_of) f cdv A outer s H E) (defBody s_live_of) (tSs (cxOf (L2.CX P w) P w K mg base ["machine"] "live_of" (defScope s_live_of) f cdv A outer s H E) (fun c d _ H' => E c d H') tab cal mkc [] ir_live_of.body) := by
  have tk : Takes (cxOf (L2.CX P w) P w K mg base ["machine"] "live_of" (defScope s_live_of) f cdv A outer s H E) (fun c d _ H' => E c d H') := takes_of rfl rfl rfl rfl
  have po : PassesOwn (model P w) (cxOf (L2.CX P w) P w K mg base ["machine"] "live_of" (defScope s_live_of) f cdv A outer s H E).A (cxOf (L2.CX P w) P w K mg base ["machine"] "live_of" (defScope s_live_of) f cdv A outer s H E).env (cxOf (L2.CX P w) P w K mg base ["machine"] "live_of" (defScope s_live_of) f cdv A outer s H E).xe := passes_of rfl
  exact (sSs_cons (sS_ret (cE C.f_with_loops gd hr tk fn_with_loops (sArgs_cons nofun (aV (pv 0)) (sArgs_one (aE cI) rfl) rfl)) nofun)
      sSs_nil)
theorem b_sure_of (T : Txt K mg) (C : Good P w K mg base (k + 2) cal) (M : Good P w K mg base (k + 1) mkc) (f : Addr) (cdv : Value) (A : Around) (outer : List Env) (s : Shared) (H : Hp) (E : XK) (gd : A.guards = some []) (hr : Room (k + 2) (A.deeper (envOfC "sure_of" (defScope s_sure_of) s.heap.objs.size f cdv))) :
    PSs (cxOf (L2.CX P w) P w K mg base ["machine", "odd", "number"] "sure_of" (defScope s_sure_of) f cdv A outer s H E) (defBody s_sure_of) (tSs (cxOf (L2.CX P w) P w K mg base ["machine", "odd", "number"] "sure_of" (defScope s_sure_of) f cdv A outer s H E) (fun c d _ H' => E c d H') tab cal mkc [] ir_sure_of.body) := by
  have tk : Takes (cxOf (L2.CX P w) P w K mg base ["machine", "odd", "number"] "sure_of" (defScope s_sure_of) f cdv A outer s H E) (fun c d _ H' => E c d H') := takes_of rfl rfl rfl rfl
  have po : PassesOwn (model P w) (cxOf (L2.CX P w) P w K mg base ["machine", "odd", "number"] "sure_of" (defScope s_sure_of) f cdv A outer s H E).A (cxOf (L2.CX P w) P w K mg base ["machine", "odd", "number"] "sure_of" (defScope s_sure_of) f cdv A outer s H E).env (cxOf (L2.CX P w) P w K mg base ["machine", "odd", "number"] "sure_of" (defScope s_sure_of) f cdv A outer s H E).xe := passes_of rfl
  exact (sSs_cons (sS_set (i := 1) (by decide) sc_sure_of.nd rfl (by first | exact .inl rfl | exact .inr rfl) (cE C.f_with_loops gd hr tk fn_with_loops (sArgs_cons nofun (aV (pv 0)) (sArgs_one (aE cI) rfl) rfl)))
      (sSs_cons (sS_ret (sE_lc rfl sc_sure_of.nd (sI_rng (by rfl) T.B.range_ (lE (cn := "Machine") M.f_Machine___len__ gd hr tk rfl fn_Machine___len__ T.B.len_ (sArgs_one (aV (pv 0)) rfl)) (by rfl)) (blkOk_by (own := [("number", 2)]) (N := ["machine", "odd", "number"]) (sc := defScope s_sure_of) (by decide +kernel)) rfl (by decide) (fun _ _ _ _ _ => (sG_name (i := 2) sc_sure_of.nd rfl (by first | exact .inl rfl | exact .inr rfl))) (fun _ _ _ _ _ => (sC_some (sT_cmp (o := .notin) hr (pe_place (pv 2)) (pe_place (pv 1)) (by rfl)))) (fun _ _ _ _ _ => (pe_name (pv 2)))) nofun)
      sSs_nil))
theorem b_ends_for (T : Txt K mg) (C : Good P w K mg base (k + 2) cal) (M : Good P w K mg base (k + 1) mkc) (f : Addr) (cdv : Value) (A : Around) (outer : List Env) (s : Shared) (H : Hp) (E : XK) (gd : A.guards = some []) (hr : Room (k + 2) (A.deeper (envOfC "ends_for" (defScope s_ends_for) s.heap.objs.size f cdv))) :
    PSs (cxOf (L2.CX P w) P w K mg base ["machine", "wanted", "alive", "number"] "ends_for" (defScope s_ends_for) f cdv A outer s H E) (defBody s_ends_for) (tSs (cxOf (L2.CX P w) P w K mg base ["machine", "wanted", "alive", "number"] "ends_for" (defScope s_ends_for) f cdv A outer s H E) (fun c d _ H' => E c d H') tab cal mkc [] ir_ends_for.body) := by
  have tk : Takes (cxOf (L2.CX P w) P w K mg base ["machine", "wanted", "alive", "number"] "ends_for" (defScope s_ends_for) f cdv A outer s H E) (fun c d _ H' => E c d H') := takes_of rfl rfl rfl rfl
  have po : PassesOwn (model P w) (cxOf (L2.CX P w) P w K mg base ["machine", "wanted", "alive", "number"] "ends_for" (defScope s_ends_for) f cdv A outer s H E).A (cxOf (L2.CX P w) P w K mg base ["machine", "wanted", "alive", "number"] "ends_for" (defScope s_ends_for) f cdv A outer s H E).env (cxOf (L2.CX P w) P w K mg base ["machine", "wanted", "alive", "number"] "ends_for" (defScope s_ends_for) f cdv A outer s H E).xe := passes_of rfl
  exact (sSs_cons (sS_if (sT_cmp (o := .eq) hr (pe_place (pv 1)) (oE (cS (s := "good"))) (nomark _))
      (sSs_cons (sS_ret (cE C.f_sure_of gd hr tk fn_sure_of (sArgs_one (aV (pv 0)) rfl)) nofun)
      sSs_nil)
      sSs_nil)
      (sSs_cons (sS_set (i := 2) (by decide) sc_ends_for.nd rfl (by first | exact .inl rfl | exact .inr rfl) (cE C.f_live_of gd hr tk fn_live_of (sArgs_one (aV (pv 0)) rfl)))
      (sSs_cons (sS_ret (sE_lc rfl sc_ends_for.nd (sI_rng (by rfl) T.B.range_ (lE (cn := "Machine") M.f_Machine___len__ gd hr tk rfl fn_Machine___len__ T.B.len_ (sArgs_one (aV (pv 0)) rfl)) (by rfl)) (blkOk_by (own := [("number", 3)]) (N := ["machine", "wanted", "alive", "number"]) (sc := defScope s_ends_for) (by decide +kernel)) rfl (by decide) (fun _ _ _ _ _ => (sG_name (i := 3) sc_ends_for.nd rfl (by first | exact .inl rfl | exact .inr rfl))) (fun _ _ _ _ _ => (sC_some (sT_cmp (o := .notin) hr (pe_place (pv 3)) (pe_place (pv 2)) (by rfl)))) (fun _ _ _ _ _ => (pe_name (pv 3)))) nofun)
      sSs_nil)))
theorem b_is_watched (T : Txt K mg) (C : Good P w K mg base (k + 2) cal) (M : Good P w K mg base (k + 1) mkc) (f : Addr) (cdv : Value) (A : Around) (outer : List Env) (s : Shared) (H : Hp) (E : XK) (gd : A.guards = some []) (hr : Room (k + 2) (A.deeper (envOfC "is_watched" (defScope s_is_watched) s.heap.objs.size f cdv))) :
    PSs (cxOf (L2.CX P w) P w K mg base ["machine", "graph", "ends", "end", "place"] "is_watched" (defScope s_is_watched) f cdv A outer s H E) (defBody s_is_watched) (tSs (cxOf (L2.CX P w) P w K mg base ["machine", "graph", "ends", "end", "place"] "is_watched" (defScope s_is_watched) f cdv A outer s H E) (fun c d _ H' => E c d H') tab cal mkc [] ir_is_watched.body) := by
  have tk : Takes (cxOf (L2.CX P w) P w K mg base ["machine", "graph", "ends", "end", "place"] "is_watched" (defScope s_is_watched) f cdv A outer s H E) (fun c d _ H' => E c d H') := takes_of rfl rfl rfl rfl
  have po : PassesOwn (model P w) (cxOf (L2.CX P w) P w K mg base ["machine", "graph", "ends", "end", "place"] "is_watched" (defScope s_is_watched) f cdv A outer s H E).A (cxOf (L2.CX P w) P w K mg base ["machine", "graph", "ends", "end", "place"] "is_watched" (defScope s_is_watched) f cdv A outer s H E).env (cxOf (L2.CX P w) P w K mg base ["machine", "graph", "ends", "end", "place"] "is_watched" (defScope s_is_watched) f cdv A outer s H E).xe := passes_of rfl
  exact (sSs_cons (sS_set (i := 1) (by decide) sc_is_watched.nd rfl (by first | exact .inl rfl | exact .inr rfl) (cE C.f_graph_of gd hr tk fn_graph_of (sArgs_one (aV (pv 0)) rfl)))
      (sSs_cons (sS_set (i := 2) (by decide) sc_is_watched.nd rfl (by first | exact .inl rfl | exact .inr rfl) (sE_lst (sA_star (cE C.f_ends_for gd hr tk fn_ends_for (sArgs_cons nofun (aV (pv 0)) (sArgs_one (aE (cS (s := "bad"))) rfl) rfl)) (sA_star (cE C.f_ends_for gd hr tk fn_ends_for (sArgs_cons nofun (aV (pv 0)) (sArgs_one (aE (cS (s := "good"))) rfl) rfl)) sA_nil rfl) rfl)))
      (sSs_cons (sS_ret (b1 (cr_allF rfl) T.B.all_ boot_all (oE (sE_lc rfl sc_is_watched.nd (sI_seq (cE C.f_all_of gd hr tk fn_all_of (sArgs_one (aV (pv 1)) rfl))) (blkOk_by (own := [("place", 4)]) (N := ["machine", "graph", "ends", "end", "place"]) (sc := defScope s_is_watched) (by decide +kernel)) rfl (by decide) (fun _ _ _ _ _ => (sG_name (i := 4) sc_is_watched.nd rfl (by first | exact .inl rfl | exact .inr rfl))) (fun _ _ _ _ _ => sC_none) (fun _ _ _ _ _ => (b1 (cr_anyF rfl) T.B.any_ boot_any (oE (sE_lc rfl sc_is_watched.nd (sI_seq (pe_name (pv 2))) (blkOk_by (own := [("end", 3)]) (N := ["machine", "graph", "ends", "end", "place"]) (by kernel_rfl)) rfl (by decide) (fun _ _ _ _ _ => (sG_name (i := 3) sc_is_watched.nd rfl (by first | exact .inl rfl | exact .inr rfl))) (fun _ _ _ _ _ => sC_none) (fun _ _ _ _ _ => (sE_cmp (o := .isin) hr (pe_place (pv 3)) (oE (mE (c := "Graph") (m := "ways") C.f_Graph_ways gd hr takesW0 fn_Graph_ways (aV (pv 1)) (sArgs_cons nofun (aV (pv 4)) (sArgs_one (aE (sE_fld (f := "arrows") (pe_place (pv 1)) (fl_arrows T) rfl)) rfl) rfl))) (by rfl)))))))))) nofun)
      sSs_nil)))
theorem b_is_watchable (T : Txt K mg) (C : Good P w K mg base (k + 2) cal) (M : Good P w K mg base (k + 1) mkc) (f : Addr) (cdv : Value) (A : Around) (outer : List Env) (s : Shared) (H : Hp) (E : XK) (gd : A.guards = some []) (hr : Room (k + 2) (A.deeper (envOfC "is_watchable" (defScope s_is_watchable) s.heap.objs.size f cdv))) :
    PSs (cxOf (L2.CX P w) P w K mg base ["machine"] "is_watchable" (defScope s_is_watchable) f cdv A outer s H E) (defBody s_is_watchable) (tSs (cxOf (L2.CX P w) P w K mg base ["machine"] "is_watchable" (defScope s_is_watchable) f cdv A outer s H E) (fun c d _ H' => E c d H') tab cal mkc [] ir_is_watchable.body) := by
  have tk : Takes (cxOf (L2.CX P w) P w K mg base ["machine"] "is_watchable" (defScope s_is_watchable) f cdv A outer s H E) (fun c d _ H' => E c d H') := takes_of rfl rfl rfl rfl
  have po : PassesOwn (model P w) (cxOf (L2.CX P w) P w K mg base ["machine"] "is_watchable" (defScope s_is_watchable) f cdv A outer s H E).A (cxOf (L2.CX P w) P w K mg base ["machine"] "is_watchable" (defScope s_is_watchable) f cdv A outer s H E).env (cxOf (L2.CX P w) P w K mg base ["machine"] "is_watchable" (defScope s_is_watchable) f cdv A outer s H E).xe := passes_of rfl
  exact (sSs_cons (sS_expr (cE C.f_check_machine gd hr tk fn_check_machine (sArgs_one (aV (pv 0)) rfl)))
      (sSs_cons (sS_ret (cE C.f_is_watched gd hr tk fn_is_watched (sArgs_one (aV (pv 0)) rfl)) nofun)
      sSs_nil))
theorem b__law_bag (T : Txt K mg) (C : Good P w K mg base (k + 2) cal) (M : Good P w K mg base (k + 1) mkc) (f : Addr) (cdv : Value) (A : Around) (outer : List Env) (s : Shared) (H : Hp) (E : XK) (gd : A.guards = some []) (hr : Room (k + 2) (A.deeper (envOfC "_law_bag" (defScope s__law_bag) s.heap.objs.size f cdv))) :
    PSs (cxOf (L2.CX P w) P w K mg base ["_law_script", "_law_turn", "_law_figure", "_law_seed", "_law_each"] "_law_bag" (defScope s__law_bag) f cdv A outer s H E) (defBody s__law_bag) (tSs (cxOf (L2.CX P w) P w K mg base ["_law_script", "_law_turn", "_law_figure", "_law_seed", "_law_each"] "_law_bag" (defScope s__law_bag) f cdv A outer s H E) (fun c d _ H' => E c d H') tab cal mkc [] ir__law_bag.body) := by
  have tk : Takes (cxOf (L2.CX P w) P w K mg base ["_law_script", "_law_turn", "_law_figure", "_law_seed", "_law_each"] "_law_bag" (defScope s__law_bag) f cdv A outer s H E) (fun c d _ H' => E c d H') := takes_of rfl rfl rfl rfl
  have po : PassesOwn (model P w) (cxOf (L2.CX P w) P w K mg base ["_law_script", "_law_turn", "_law_figure", "_law_seed", "_law_each"] "_law_bag" (defScope s__law_bag) f cdv A outer s H E).A (cxOf (L2.CX P w) P w K mg base ["_law_script", "_law_turn", "_law_figure", "_law_seed", "_law_each"] "_law_bag" (defScope s__law_bag) f cdv A outer s H E).env (cxOf (L2.CX P w) P w K mg base ["_law_script", "_law_turn", "_law_figure", "_law_seed", "_law_each"] "_law_bag" (defScope s__law_bag) f cdv A outer s H E).xe := passes_of rfl
  exact (sSs_cons (sS_set (i := 2) (by decide) sc__law_bag.nd rfl (by first | exact .inl rfl | exact .inr rfl) (sE_ite (sT_cmp (o := .lt) hr (pe_place (pv 1)) (oE (b1 cr_len T.B.len_ PySem.boot_len (pe_place (pv 0)))) (nomark _)) (sE_idx hr (pe_place (pv 0)) (pe_place (pv 1)) (fun _ _ => rfl)) (sE_bin (o := .add) (oE (sE_bin (o := .mul) (oE cI) (pe_place (pv 1)))) (oE cI))))
      (sSs_cons (sS_set (i := 3) (by decide) sc__law_bag.nd rfl (by first | exact .inl rfl | exact .inr rfl) (sE_bin (o := .add) (oE cI) (oE (sE_bin (o := .mul) (oE cI) (pe_place (pv 1))))))
      (sSs_cons (sS_for (by decide) po rfl (sI_seq (sE_bin (o := .add) (oE (sE_lst (sA_cons (pe_name (pv 2)) sA_nil rfl nofun))) (oE (sE_slc (pe_place (pv 0)) sO_none (sO_some cI))))) (sG_name (i := 4) sc__law_bag.nd rfl (by first | exact .inl rfl | exact .inr rfl))
      (sSs_cons (sS_set (i := 3) (by decide) sc__law_bag.nd rfl (by first | exact .inl rfl | exact .inr rfl) (sE_bin (o := .mod) (oE (t1 cr_intF T.B.int_ PyProof.Rows.boot_int (oE (sE_bin (o := .add) (oE (sE_bin (o := .mul) (pe_place (pv 3)) (oE cI))) (pe_place (pv 4)))))) (oE cI)))
      sSs_nil))
      (sSs_cons (sS_ret (sE_lst (sA_cons (sE_ite (sT_cmp (o := .ge) hr (oE (b1 cr_absF T.B.abs_ PyProof.Rows.boot_abs (pe_place (pv 2)))) (oE (sE_bin (o := .pow) (oE cI) (oE cI))) (nomark _)) (b1 cr_absF T.B.abs_ PyProof.Rows.boot_abs (pe_place (pv 2))) cI) (sA_cons (pe_name (pv 3)) (sA_cons cI sA_nil rfl nofun) rfl nofun) rfl nofun)) nofun)
      sSs_nil))))
theorem b__law_take (T : Txt K mg) (C : Good P w K mg base (k + 2) cal) (M : Good P w K mg base (k + 1) mkc) (f : Addr) (cdv : Value) (A : Around) (outer : List Env) (s : Shared) (H : Hp) (E : XK) (gd : A.guards = some []) (hr : Room (k + 2) (A.deeper (envOfC "_law_take" (defScope s__law_take) s.heap.objs.size f cdv))) :
    PSs (cxOf (L2.CX P w) P w K mg base ["_law_bag_here", "_law_many", "_law_digit"] "_law_take" (defScope s__law_take) f cdv A outer s H E) (defBody s__law_take) (tSs (cxOf (L2.CX P w) P w K mg base ["_law_bag_here", "_law_many", "_law_digit"] "_law_take" (defScope s__law_take) f cdv A outer s H E) (fun c d _ H' => E c d H') tab cal mkc [0] ir__law_take.body) := by
  have tk : Takes (cxOf (L2.CX P w) P w K mg base ["_law_bag_here", "_law_many", "_law_digit"] "_law_take" (defScope s__law_take) f cdv A outer s H E) (fun c d _ H' => E c d H') := takes_of rfl rfl rfl rfl
  have po : PassesOwn (model P w) (cxOf (L2.CX P w) P w K mg base ["_law_bag_here", "_law_many", "_law_digit"] "_law_take" (defScope s__law_take) f cdv A outer s H E).A (cxOf (L2.CX P w) P w K mg base ["_law_bag_here", "_law_many", "_law_digit"] "_law_take" (defScope s__law_take) f cdv A outer s H E).env (cxOf (L2.CX P w) P w K mg base ["_law_bag_here", "_law_many", "_law_digit"] "_law_take" (defScope s__law_take) f cdv A outer s H E).xe := passes_of rfl
  exact (sSs_cons (sS_if (sT_cmp (o := .gt) hr (oE (sE_idx hr (pe_place (pv 0)) (oE cI) (fun _ _ => rfl))) (oE cI) (nomark _))
      (sSs_cons (sS_subp (l := 2) (by decide) rfl sc__law_take.nd rfl (by first | exact .inl rfl | exact .inr rfl) hr (pv 0) (oE cI) (b2 cr_divmodF T.B.divmod_ PyProof.Rows.boot_divmod (sA_cons (sE_idx hr (pe_place (pv 0)) (oE cI) (fun _ _ => rfl)) (sA_cons (pe_name (pv 1)) sA_nil rfl nofun) rfl nofun)))
      (sSs_cons (sS_retV (pv 2))
      sSs_nil))
      sSs_nil)
      (sSs_cons (sS_sub hr (pv 0) (oE cI) (sE_bin (o := .add) (oE (sE_idx hr (pe_place (pv 0)) (oE cI) (fun _ _ => rfl))) (oE cI)))
      (sSs_cons (sS_sub hr (pv 0) (oE cI) (sE_bin (o := .mod) (oE (t1 cr_intF T.B.int_ PyProof.Rows.boot_int (oE (sE_bin (o := .add) (oE (sE_bin (o := .mul) (oE (sE_idx hr (pe_place (pv 0)) (oE cI) (fun _ _ => rfl))) (oE cI))) (oE (sE_bin (o := .mul) (oE cI) (oE (sE_idx hr (pe_place (pv 0)) (oE cI) (fun _ _ => rfl))))))))) (oE cI)))
      (sSs_cons (sS_ret (sE_bin (o := .mod) (oE (t1 cr_intF T.B.int_ PyProof.Rows.boot_int (oE (sE_bin (o := .fdiv) (oE (sE_idx hr (pe_place (pv 0)) (oE cI) (fun _ _ => rfl))) (oE cI))))) (pe_place (pv 1))) nofun)
      sSs_nil))))
theorem b__law_signs (T : Txt K mg) (C : Good P w K mg base (k + 2) cal) (M : Good P w K mg base (k + 1) mkc) (f : Addr) (cdv : Value) (A : Around) (outer : List Env) (s : Shared) (H : Hp) (E : XK) (gd : A.guards = some []) (hr : Room (k + 2) (A.deeper (envOfC "_law_signs" (defScope s__law_signs) s.heap.objs.size f cdv))) :
    PSs (cxOf (L2.CX P w) P w K mg base ["_law_bag_here"] "_law_signs" (defScope s__law_signs) f cdv A outer s H E) (defBody s__law_signs) (tSs (cxOf (L2.CX P w) P w K mg base ["_law_bag_here"] "_law_signs" (defScope s__law_signs) f cdv A outer s H E) (fun c d _ H' => E c d H') tab cal mkc [0] ir__law_signs.body) := by
  have tk : Takes (cxOf (L2.CX P w) P w K mg base ["_law_bag_here"] "_law_signs" (defScope s__law_signs) f cdv A outer s H E) (fun c d _ H' => E c d H') := takes_of rfl rfl rfl rfl
  have po : PassesOwn (model P w) (cxOf (L2.CX P w) P w K mg base ["_law_bag_here"] "_law_signs" (defScope s__law_signs) f cdv A outer s H E).A (cxOf (L2.CX P w) P w K mg base ["_law_bag_here"] "_law_signs" (defScope s__law_signs) f cdv A outer s H E).env (cxOf (L2.CX P w) P w K mg base ["_law_bag_here"] "_law_signs" (defScope s__law_signs) f cdv A outer s H E).xe := passes_of rfl
  exact (sSs_cons (sS_ret (sE_idx hr (oE (sE_lst (sA_cons (cS (s := "ab")) (sA_cons (cS (s := "a")) (sA_cons (cS (s := "abc")) (sA_cons (cS (s := "xz")) (sA_cons (cS (s := "q")) (sA_cons (cS (s := "mno")) (sA_cons (cS (s := "ab")) (sA_cons (cS (s := "hy")) sA_nil rfl nofun) rfl nofun) rfl nofun) rfl nofun) rfl nofun) rfl nofun) rfl nofun) rfl nofun))) (oE (cE C.f__law_take gd hr tk fn__law_take (sArgs_cons nofun (aV (pv 0)) (sArgs_one (aE cI) rfl) rfl))) (fun _ _ => rfl)) nofun)
      sSs_nil)
theorem b__law_rows (T : Txt K mg) (C : Good P w K mg base (k + 2) cal) (M : Good P w K mg base (k + 1) mkc) (f : Addr) (cdv : Value) (A : Around) (outer : List Env) (s : Shared) (H : Hp) (E : XK) (gd : A.guards = some []) (hr : Room (k + 2) (A.deeper (envOfC "_law_rows" (defScope s__law_rows) s.heap.objs.size f cdv))) :
    PSs (cxOf (L2.CX P w) P w K mg base ["_law_bag_here", "_law_signs_here", "_law_most", "_law_many", "_law_found", "_law_top", "_law_at", "_law_way", "_law_colour", "_law_goals", "_law_sign"] "_law_rows" (defScope s__law_rows) f cdv A outer s H E) (defBody s__law_rows) (tSs (cxOf (L2.CX P w) P w K mg base ["_law_bag_here", "_law_signs_here", "_law_most", "_law_many", "_law_found", "_law_top", "_law_at", "_law_way", "_law_colour", "_law_goals", "_law_sign"] "_law_rows" (defScope s__law_rows) f cdv A outer s H E) (fun c d _ H' => E c d H') tab cal mkc [0] ir__law_rows.body) := by
  have tk : Takes (cxOf (L2.CX P w) P w K mg base ["_law_bag_here", "_law_signs_here", "_law_most", "_law_many", "_law_found", "_law_top", "_law_at", "_law_way", "_law_colour", "_law_goals", "_law_sign"] "_law_rows" (defScope s__law_rows) f cdv A outer s H E) (fun c d _ H' => E c d H') := takes_of rfl rfl rfl rfl
  have po : PassesOwn (model P w) (cxOf (L2.CX P w) P w K mg base ["_law_bag_here", "_law_signs_here", "_law_most", "_law_many", "_law_found", "_law_top", "_law_at", "_law_way", "_law_colour", "_law_goals", "_law_sign"] "_law_rows" (defScope s__law_rows) f cdv A outer s H E).A (cxOf (L2.CX P w) P w K mg base ["_law_bag_here", "_law_signs_here", "_law_most", "_law_many", "_law_found", "_law_top", "_law_at", "_law_way", "_law_colour", "_law_goals", "_law_sign"] "_law_rows" (defScope s__law_rows) f cdv A outer s H E).env (cxOf (L2.CX P w) P w K mg base ["_law_bag_here", "_law_signs_here", "_law_most", "_law_many", "_law_found", "_law_top", "_law_at", "_law_way", "_law_colour", "_law_goals", "_law_sign"] "_law_rows" (defScope s__law_rows) f cdv A outer s H E).xe := passes_of rfl
  exact (sSs_cons (sS_parT (by decide) rfl (sL_cons (sE_bin (o := .add) (oE cI) (oE (cE C.f__law_take gd hr tk fn__law_take (sArgs_cons nofun (aV (pv 0)) (sArgs_one (aV (pv 2)) rfl) rfl)))) (sL_cons (sE_lst sA_nil) (sL_cons (sE_idx hr (oE (sE_lst (sA_cons cI (sA_cons cI (sA_cons cI (sA_cons cI sA_nil rfl nofun) rfl nofun) rfl nofun) rfl nofun))) (oE (cE C.f__law_take gd hr tk fn__law_take (sArgs_cons nofun (aV (pv 0)) (sArgs_one (aE cI) rfl) rfl))) (fun _ _ => rfl)) sL_nil rfl) rfl) rfl) (sN_cons (i := 3) sc__law_rows.nd rfl (by first | exact .inl rfl | exact .inr rfl) (sN_cons (i := 4) sc__law_rows.nd rfl (by first | exact .inl rfl | exact .inr rfl) (sN_cons (i := 5) sc__law_rows.nd rfl (by first | exact .inl rfl | exact .inr rfl) sN_nil))) (by decide))
      (sSs_cons (sS_for (by decide) po rfl (sI_rng (by rfl) T.B.range_ (pe_name (pv 3)) (by rfl)) (sG_name (i := 6) sc__law_rows.nd rfl (by first | exact .inl rfl | exact .inr rfl))
      (sSs_cons (sS_parT (by decide) rfl (sL_cons (cE C.f__law_take gd hr tk fn__law_take (sArgs_cons nofun (aV (pv 0)) (sArgs_one (aE cI) rfl) rfl)) (sL_cons (cE C.f__law_take gd hr tk fn__law_take (sArgs_cons nofun (aV (pv 0)) (sArgs_one (aV (pv 5)) rfl) rfl)) sL_nil rfl) rfl) (sN_cons (i := 7) sc__law_rows.nd rfl (by first | exact .inl rfl | exact .inr rfl) (sN_cons (i := 8) sc__law_rows.nd rfl (by first | exact .inl rfl | exact .inr rfl) sN_nil)) (by decide))
      (sSs_cons (sS_setLc (i := 9) (by decide) rfl sc__law_rows.nd rfl rfl (sw_true rfl rfl rfl (by decide +kernel)) (sI_seq (pe_name (pv 1))) (blkOk_by (own := [("_law_sign", 10)]) (N := ["_law_bag_here", "_law_signs_here", "_law_most", "_law_many", "_law_found", "_law_top", "_law_at", "_law_way", "_law_colour", "_law_goals", "_law_sign"]) (sc := defScope s__law_rows) (by decide +kernel)) rfl (by decide) (fun _ _ _ _ _ => (sG_name (i := 10) sc__law_rows.nd rfl (by first | exact .inl rfl | exact .inr rfl))) (fun _ _ _ _ _ => sC_none) (fun _ _ _ _ _ => (sE_ite (sT_cmp (o := .eq) hr (pe_place (pv 7)) (oE cI) (nomark _)) (pe_name (pv 6)) (cE C.f__law_take gd hr takesW0 fn__law_take (sArgs_cons nofun (aV (pv 0)) (sArgs_one (aV (pv 3)) rfl) rfl)))))
      (sSs_cons (sS_if (sT_cmp (o := .eq) hr (pe_place (pv 7)) (oE cI) (nomark _))
      (sSs_cons (sS_sub hr (pv 9) (oE cI) (sE_bin (o := .mod) (oE (t1 cr_intF T.B.int_ PyProof.Rows.boot_int (oE (sE_bin (o := .add) (pe_place (pv 6)) (oE cI))))) (pe_place (pv 3))))
      sSs_nil)
      sSs_nil)
      (sSs_cons (sS_append (pv 4) (sA_cons (sE_tup (sA_cons (pe_name (pv 8)) (sA_cons (t1 cr_tupleF T.B.tuple_ PyProof.Rows.boot_tuple (pe_place (pv 9))) sA_nil rfl nofun) rfl nofun)) sA_nil rfl nofun))
      sSs_nil)))))
      (sSs_cons (sS_ret (t1 cr_tupleF T.B.tuple_ PyProof.Rows.boot_tuple (pe_place (pv 4))) nofun)
      sSs_nil)))
theorem b__law_from (T : Txt K mg) (C : Good P w K mg base (k + 2) cal) (M : Good P w K mg base (k + 1) mkc) (f : Addr) (cdv : Value) (A : Around) (outer : List Env) (s : Shared) (H : Hp) (E : XK) (gd : A.guards = some []) (hr : Room (k + 2) (A.deeper (envOfC "_law_from" (defScope s__law_from) s.heap.objs.size f cdv))) :
    PSs (cxOf (L2.CX P w) P w K mg base ["_law_rows_here", "_law_at", "_law_inside", "_law_found", "_law_spot", "_law_here", "_law_goal"] "_law_from" (defScope s__law_from) f cdv A outer s H E) (defBody s__law_from) (tSs (cxOf (L2.CX P w) P w K mg base ["_law_rows_here", "_law_at", "_law_inside", "_law_found", "_law_spot", "_law_here", "_law_goal"] "_law_from" (defScope s__law_from) f cdv A outer s H E) (fun c d _ H' => E c d H') tab cal mkc [] ir__law_from.body) := by
  have tk : Takes (cxOf (L2.CX P w) P w K mg base ["_law_rows_here", "_law_at", "_law_inside", "_law_found", "_law_spot", "_law_here", "_law_goal"] "_law_from" (defScope s__law_from) f cdv A outer s H E) (fun c d _ H' => E c d H') := takes_of rfl rfl rfl rfl
  have po : PassesOwn (model P w) (cxOf (L2.CX P w) P w K mg base ["_law_rows_here", "_law_at", "_law_inside", "_law_found", "_law_spot", "_law_here", "_law_goal"] "_law_from" (defScope s__law_from) f cdv A outer s H E).A (cxOf (L2.CX P w) P w K mg base ["_law_rows_here", "_law_at", "_law_inside", "_law_found", "_law_spot", "_law_here", "_law_goal"] "_law_from" (defScope s__law_from) f cdv A outer s H E).env (cxOf (L2.CX P w) P w K mg base ["_law_rows_here", "_law_at", "_law_inside", "_law_found", "_law_spot", "_law_here", "_law_goal"] "_law_from" (defScope s__law_from) f cdv A outer s H E).xe := passes_of rfl
  exact (sSs_cons (sS_par (by decide) rfl sc__law_from.nd rfl rfl (by decide) rfl rfl (sL_cons (sE_lst sA_nil) (sL_cons (sE_neg cI) sL_nil rfl) rfl) rfl)
      (sSs_cons (sS_while po (sT_cmp (o := .lt) hr (pe_place (pv 4)) (oE (b1 cr_len T.B.len_ PySem.boot_len (pe_place (pv 3)))) (nomark _))
      (sSs_cons (sS_set (i := 5) (by decide) sc__law_from.nd rfl (by first | exact .inl rfl | exact .inr rfl) (sE_ite (sT_cmp (o := .lt) hr (pe_place (pv 4)) (oE cI) (nomark _)) (pe_name (pv 1)) (sE_idx hr (pe_place (pv 3)) (pe_place (pv 4)) (fun _ _ => rfl))))
      (sSs_cons (sS_for (by decide) po rfl (sI_seq (sE_idx hr (oE (sE_idx hr (pe_place (pv 0)) (pe_place (pv 5)) (fun _ _ => rfl))) (oE cI) (fun _ _ => rfl))) (sG_name (i := 6) sc__law_from.nd rfl (by first | exact .inl rfl | exact .inr rfl))
      (sSs_cons (sS_if (PW.pt (sW_and (sT_cmp (o := .isin) hr (pe_place (pv 6)) (pe_place (pv 2)) (by rfl)) (pw_and1 (sT_cmp (o := .notin) hr (pe_place (pv 6)) (pe_place (pv 3)) (by rfl)))))
      (sSs_cons (sS_append (pv 3) (sA_cons (pe_name (pv 6)) sA_nil rfl nofun))
      sSs_nil)
      sSs_nil)
      sSs_nil))
      (sSs_cons (sS_set (i := 4) (by decide) sc__law_from.nd rfl (by first | exact .inl rfl | exact .inr rfl) (sE_bin (o := .add) (pe_place (pv 4)) (oE cI)))
      sSs_nil))))
      (sSs_cons (sS_retV (pv 3))
      sSs_nil)))
theorem b__law_loops (T : Txt K mg) (C : Good P w K mg base (k + 2) cal) (M : Good P w K mg base (k + 1) mkc) (f : Addr) (cdv : Value) (A : Around) (outer : List Env) (s : Shared) (H : Hp) (E : XK) (gd : A.guards = some []) (hr : Room (k + 2) (A.deeper (envOfC "_law_loops" (defScope s__law_loops) s.heap.objs.size f cdv))) :
    PSs (cxOf (L2.CX P w) P w K mg base ["_law_rows_here", "_law_lots", "_law_found", "_law_at", "_law_lot"] "_law_loops" (defScope s__law_loops) f cdv A outer s H E) (defBody s__law_loops) (tSs (cxOf (L2.CX P w) P w K mg base ["_law_rows_here", "_law_lots", "_law_found", "_law_at", "_law_lot"] "_law_loops" (defScope s__law_loops) f cdv A outer s H E) (fun c d _ H' => E c d H') tab cal mkc [] ir__law_loops.body) := by
  have tk : Takes (cxOf (L2.CX P w) P w K mg base ["_law_rows_here", "_law_lots", "_law_found", "_law_at", "_law_lot"] "_law_loops" (defScope s__law_loops) f cdv A outer s H E) (fun c d _ H' => E c d H') := takes_of rfl rfl rfl rfl
  have po : PassesOwn (model P w) (cxOf (L2.CX P w) P w K mg base ["_law_rows_here", "_law_lots", "_law_found", "_law_at", "_law_lot"] "_law_loops" (defScope s__law_loops) f cdv A outer s H E).A (cxOf (L2.CX P w) P w K mg base ["_law_rows_here", "_law_lots", "_law_found", "_law_at", "_law_lot"] "_law_loops" (defScope s__law_loops) f cdv A outer s H E).env (cxOf (L2.CX P w) P w K mg base ["_law_rows_here", "_law_lots", "_law_found", "_law_at", "_law_lot"] "_law_loops" (defScope s__law_loops) f cdv A outer s H E).xe := passes_of rfl
  exact (sSs_cons (sS_par (by decide) rfl sc__law_loops.nd rfl rfl (by decide) rfl rfl (sL_cons (sE_lst (sA_cons (sE_lst sA_nil) sA_nil rfl nofun)) (sL_cons (sE_lst sA_nil) sL_nil rfl) rfl) rfl)
      (sSs_cons (sS_for (by decide) po rfl (sI_rng (by rfl) T.B.range_ (b1 cr_len T.B.len_ PySem.boot_len (pe_place (pv 0))) (by rfl)) (sG_name (i := 3) sc__law_loops.nd rfl (by first | exact .inl rfl | exact .inr rfl))
      (sSs_cons (sS_set (i := 1) (by decide) sc__law_loops.nd rfl (by first | exact .inl rfl | exact .inr rfl) (sE_bin (o := .add) (pe_place (pv 1)) (oE (sE_lc rfl sc__law_loops.nd (sI_seq (pe_name (pv 1))) (blkOk_by (own := [("_law_lot", 4)]) (N := ["_law_rows_here", "_law_lots", "_law_found", "_law_at", "_law_lot"]) (sc := defScope s__law_loops) (by decide +kernel)) rfl (by decide) (fun _ _ _ _ _ => (sG_name (i := 4) sc__law_loops.nd rfl (by first | exact .inl rfl | exact .inr rfl))) (fun _ _ _ _ _ => sC_none) (fun _ _ _ _ _ => (sE_bin (o := .add) (pe_place (pv 4)) (oE (sE_lst (sA_cons (pe_name (pv 3)) sA_nil rfl nofun)))))))))
      sSs_nil))
      (sSs_cons (sS_for (by decide) po rfl (sI_seq (sE_slc (pe_place (pv 1)) (sO_some cI) sO_none)) (sG_name (i := 4) sc__law_loops.nd rfl (by first | exact .inl rfl | exact .inr rfl))
      (sSs_cons (sS_if (sT_cmp (o := .eq) hr (oE (sE_lc rfl sc__law_loops.nd (sI_seq (pe_name (pv 4))) (blkOk_by (own := [("_law_at", 3)]) (N := ["_law_rows_here", "_law_lots", "_law_found", "_law_at", "_law_lot"]) (sc := defScope s__law_loops) (by decide +kernel)) rfl (by decide) (fun _ _ _ _ _ => (sG_name (i := 3) sc__law_loops.nd rfl (by first | exact .inl rfl | exact .inr rfl))) (fun _ _ _ _ _ => (sC_some (sT_cmp (o := .lt) hr (oE (b1 cr_len T.B.len_ PySem.boot_len (oE (cE C.f__law_from gd hr takesW0 fn__law_from (sArgs_cons nofun (aV (pv 0)) (sArgs_cons nofun (aV (pv 3)) (sArgs_one (aV (pv 4)) rfl) rfl) rfl))))) (oE (b1 cr_len T.B.len_ PySem.boot_len (pe_place (pv 4)))) (nomark _)))) (fun _ _ _ _ _ => (pe_name (pv 3))))) (oE (sE_lst sA_nil)) (nomark _))
      (sSs_cons (sS_append (pv 2) (sA_cons (sE_tup (sA_cons (pe_name (pv 4)) (sA_cons (sE_bin (o := .mod) (oE (t1 cr_intF T.B.int_ PyProof.Rows.boot_int (oE (b1 (cr_maxF rfl) T.B.max_ PyProof.Rows.boot_max (oE (sE_lc rfl sc__law_loops.nd (sI_seq (pe_name (pv 4))) (blkOk_by (own := [("_law_at", 3)]) (N := ["_law_rows_here", "_law_lots", "_law_found", "_law_at", "_law_lot"]) (sc := defScope s__law_loops) (by decide +kernel)) rfl (by decide) (fun _ _ _ _ _ => (sG_name (i := 3) sc__law_loops.nd rfl (by first | exact .inl rfl | exact .inr rfl))) (fun _ _ _ _ _ => sC_none) (fun _ _ _ _ _ => (sE_idx hr (oE (sE_idx hr (pe_place (pv 0)) (pe_place (pv 3)) (fun _ _ => rfl))) (oE cI) (fun _ _ => rfl))))))))) (oE cI)) sA_nil rfl nofun) rfl nofun)) sA_nil rfl nofun))
      sSs_nil)
      sSs_nil)
      sSs_nil))
      (sSs_cons (sS_retV (pv 2))
      sSs_nil))))
theorem b__law_ends_in (T : Txt K mg) (C : Good P w K mg base (k + 2) cal) (M : Good P w K mg base (k + 1) mkc) (f : Addr) (cdv : Value) (A : Around) (outer : List Env) (s : Shared) (H : Hp) (E : XK) (gd : A.guards = some []) (hr : Room (k + 2) (A.deeper (envOfC "_law_ends_in" (defScope s__law_ends_in) s.heap.objs.size f cdv))) :
    PSs (cxOf (L2.CX P w) P w K mg base ["_law_rows_here", "_law_odd", "_law_every", "_law_goals", "_law_lot", "_law_oddness", "_law_at", "_law_goal"] "_law_ends_in" (defScope s__law_ends_in) f cdv A outer s H E) (defBody s__law_ends_in) (tSs (cxOf (L2.CX P w) P w K mg base ["_law_rows_here", "_law_odd", "_law_every", "_law_goals", "_law_lot", "_law_oddness", "_law_at", "_law_goal"] "_law_ends_in" (defScope s__law_ends_in) f cdv A outer s H E) (fun c d _ H' => E c d H') tab cal mkc [] ir__law_ends_in.body) := by
  have tk : Takes (cxOf (L2.CX P w) P w K mg base ["_law_rows_here", "_law_odd", "_law_every", "_law_goals", "_law_lot", "_law_oddness", "_law_at", "_law_goal"] "_law_ends_in" (defScope s__law_ends_in) f cdv A outer s H E) (fun c d _ H' => E c d H') := takes_of rfl rfl rfl rfl
  have po : PassesOwn (model P w) (cxOf (L2.CX P w) P w K mg base ["_law_rows_here", "_law_odd", "_law_every", "_law_goals", "_law_lot", "_law_oddness", "_law_at", "_law_goal"] "_law_ends_in" (defScope s__law_ends_in) f cdv A outer s H E).A (cxOf (L2.CX P w) P w K mg base ["_law_rows_here", "_law_odd", "_law_every", "_law_goals", "_law_lot", "_law_oddness", "_law_at", "_law_goal"] "_law_ends_in" (defScope s__law_ends_in) f cdv A outer s H E).env (cxOf (L2.CX P w) P w K mg base ["_law_rows_here", "_law_odd", "_law_every", "_law_goals", "_law_lot", "_law_oddness", "_law_at", "_law_goal"] "_law_ends_in" (defScope s__law_ends_in) f cdv A outer s H E).xe := passes_of rfl
  exact (sSs_cons (sS_parT (by decide) rfl (sL_cons (sE_lrg rfl T.B.list_ T.B.range_ (b1 cr_len T.B.len_ PySem.boot_len (pe_place (pv 0)))) (sL_cons (sE_lst sA_nil) sL_nil rfl) rfl) (sN_cons (i := 2) sc__law_ends_in.nd rfl (by first | exact .inl rfl | exact .inr rfl) (sN_cons (i := 3) sc__law_ends_in.nd rfl (by first | exact .inl rfl | exact .inr rfl) sN_nil)) (by decide))
      (sSs_cons (sS_for (by decide) po rfl (sI_seq (cE C.f__law_loops gd hr tk fn__law_loops (sArgs_one (aV (pv 0)) rfl))) (sG_tup rfl (sGs_cons (sG_name (i := 4) sc__law_ends_in.nd rfl (by first | exact .inl rfl | exact .inr rfl)) (sGs_cons (sG_name (i := 5) sc__law_ends_in.nd rfl (by first | exact .inl rfl | exact .inr rfl)) sGs_nil)))
      (sSs_cons (sS_set (i := 3) (by decide) sc__law_ends_in.nd rfl (by first | exact .inl rfl | exact .inr rfl) (sE_bin (o := .add) (pe_place (pv 3)) (oE (sE_ite (sT_cmp (o := .eq) hr (pe_place (pv 5)) (pe_place (pv 1)) (nomark _)) (pe_name (pv 4)) (sE_lst sA_nil)))))
      sSs_nil))
      (sSs_cons (sS_ret (sE_lc rfl sc__law_ends_in.nd (sI_seq (pe_name (pv 2))) (blkOk_by (own := [("_law_at", 6)]) (N := ["_law_rows_here", "_law_odd", "_law_every", "_law_goals", "_law_lot", "_law_oddness", "_law_at", "_law_goal"]) (sc := defScope s__law_ends_in) (by decide +kernel)) rfl (by decide) (fun _ _ _ _ _ => (sG_name (i := 6) sc__law_ends_in.nd rfl (by first | exact .inl rfl | exact .inr rfl))) (fun _ _ _ _ _ => (sC_some (PW.pt (sW_or (sT_cmp (o := .isin) hr (pe_place (pv 6)) (pe_place (pv 3)) (by rfl)) (pw_or1 (sT_cmp (o := .ne) hr (oE (sE_lc rfl sc__law_ends_in.nd (sI_seq (cE C.f__law_from gd hr takesW0 fn__law_from (sArgs_cons nofun (aV (pv 0)) (sArgs_cons nofun (aV (pv 6)) (sArgs_one (aV (pv 2)) rfl) rfl) rfl))) (blkOk_by (own := [("_law_goal", 7)]) (N := ["_law_rows_here", "_law_odd", "_law_every", "_law_goals", "_law_lot", "_law_oddness", "_law_at", "_law_goal"]) (by kernel_rfl)) rfl (by decide) (fun _ _ _ _ _ => (sG_name (i := 7) sc__law_ends_in.nd rfl (by first | exact .inl rfl | exact .inr rfl))) (fun _ _ _ _ _ => (sC_some (sT_cmp (o := .isin) hr (pe_place (pv 7)) (pe_place (pv 3)) (by rfl)))) (fun _ _ _ _ _ => (pe_name (pv 7))))) (oE (sE_lst sA_nil)) (nomark _))))))) (fun _ _ _ _ _ => (pe_name (pv 6)))) nofun)
      sSs_nil)))
theorem b__law_reached (T : Txt K mg) (C : Good P w K mg base (k + 2) cal) (M : Good P w K mg base (k + 1) mkc) (f : Addr) (cdv : Value) (A : Around) (outer : List Env) (s : Shared) (H : Hp) (E : XK) (gd : A.guards = some []) (hr : Room (k + 2) (A.deeper (envOfC "_law_reached" (defScope s__law_reached) s.heap.objs.size f cdv))) :
    PSs (cxOf (L2.CX P w) P w K mg base ["_law_rows_here", "_law_found", "_law_at"] "_law_reached" (defScope s__law_reached) f cdv A outer s H E) (defBody s__law_reached) (tSs (cxOf (L2.CX P w) P w K mg base ["_law_rows_here", "_law_found", "_law_at"] "_law_reached" (defScope s__law_reached) f cdv A outer s H E) (fun c d _ H' => E c d H') tab cal mkc [] ir__law_reached.body) := by
  have tk : Takes (cxOf (L2.CX P w) P w K mg base ["_law_rows_here", "_law_found", "_law_at"] "_law_reached" (defScope s__law_reached) f cdv A outer s H E) (fun c d _ H' => E c d H') := takes_of rfl rfl rfl rfl
  have po : PassesOwn (model P w) (cxOf (L2.CX P w) P w K mg base ["_law_rows_here", "_law_found", "_law_at"] "_law_reached" (defScope s__law_reached) f cdv A outer s H E).A (cxOf (L2.CX P w) P w K mg base ["_law_rows_here", "_law_found", "_law_at"] "_law_reached" (defScope s__law_reached) f cdv A outer s H E).env (cxOf (L2.CX P w) P w K mg base ["_law_rows_here", "_law_found", "_law_at"] "_law_reached" (defScope s__law_reached) f cdv A outer s H E).xe := passes_of rfl
  exact (sSs_cons (sS_set (i := 1) (by decide) sc__law_reached.nd rfl (by first | exact .inl rfl | exact .inr rfl) (sE_lst (sA_cons cI sA_nil rfl nofun)))
      (sSs_cons (sS_ret (sE_bin (o := .add) (pe_place (pv 1)) (oE (sE_lc rfl sc__law_reached.nd (sI_seq (cE C.f__law_from gd hr tk fn__law_from (sArgs_cons nofun (aV (pv 0)) (sArgs_cons nofun (aE cI) (sArgs_one (aE (sE_lrg rfl T.B.list_ T.B.range_ (b1 cr_len T.B.len_ PySem.boot_len (pe_place (pv 0))))) rfl) rfl) rfl))) (blkOk_by (own := [("_law_at", 2)]) (N := ["_law_rows_here", "_law_found", "_law_at"]) (sc := defScope s__law_reached) (by decide +kernel)) rfl (by decide) (fun _ _ _ _ _ => (sG_name (i := 2) sc__law_reached.nd rfl (by first | exact .inl rfl | exact .inr rfl))) (fun _ _ _ _ _ => (sC_some (sT_cmp (o := .ne) hr (pe_place (pv 2)) (oE cI) (nomark _)))) (fun _ _ _ _ _ => (pe_name (pv 2)))))) nofun)
      sSs_nil))
theorem b__law_right (T : Txt K mg) (C : Good P w K mg base (k + 2) cal) (M : Good P w K mg base (k + 1) mkc) (f : Addr) (cdv : Value) (A : Around) (outer : List Env) (s : Shared) (H : Hp) (E : XK) (gd : A.guards = some []) (hr : Room (k + 2) (A.deeper (envOfC "_law_right" (defScope s__law_right) s.heap.objs.size f cdv))) :
    PSs (cxOf (L2.CX P w) P w K mg base ["_law_bag_here", "_law_turn", "_law_signs_here", "_law_rows_here", "_law_mine", "_law_every", "_law_even", "_law_odd", "_law_sealed", "_law_due", "_law_at", "_law_ways", "_law_wide", "_law_goal"] "_law_right" (defScope s__law_right) f cdv A outer s H E) (defBody s__law_right) (tSs (cxOf (L2.CX P w) P w K mg base ["_law_bag_here", "_law_turn", "_law_signs_here", "_law_rows_here", "_law_mine", "_law_every", "_law_even", "_law_odd", "_law_sealed", "_law_due", "_law_at", "_law_ways", "_law_wide", "_law_goal"] "_law_right" (defScope s__law_right) f cdv A outer s H E) (fun c d _ H' => E c d H') tab cal mkc [0] ir__law_right.body) := by
  have tk : Takes (cxOf (L2.CX P w) P w K mg base ["_law_bag_here", "_law_turn", "_law_signs_here", "_law_rows_here", "_law_mine", "_law_every", "_law_even", "_law_odd", "_law_sealed", "_law_due", "_law_at", "_law_ways", "_law_wide", "_law_goal"] "_law_right" (defScope s__law_right) f cdv A outer s H E) (fun c d _ H' => E c d H') := takes_of rfl rfl rfl rfl
  have po : PassesOwn (model P w) (cxOf (L2.CX P w) P w K mg base ["_law_bag_here", "_law_turn", "_law_signs_here", "_law_rows_here", "_law_mine", "_law_every", "_law_even", "_law_odd", "_law_sealed", "_law_due", "_law_at", "_law_ways", "_law_wide", "_law_goal"] "_law_right" (defScope s__law_right) f cdv A outer s H E).A (cxOf (L2.CX P w) P w K mg base ["_law_bag_here", "_law_turn", "_law_signs_here", "_law_rows_here", "_law_mine", "_law_every", "_law_even", "_law_odd", "_law_sealed", "_law_due", "_law_at", "_law_ways", "_law_wide", "_law_goal"] "_law_right" (defScope s__law_right) f cdv A outer s H E).env (cxOf (L2.CX P w) P w K mg base ["_law_bag_here", "_law_turn", "_law_signs_here", "_law_rows_here", "_law_mine", "_law_every", "_law_even", "_law_odd", "_law_sealed", "_law_due", "_law_at", "_law_ways", "_law_wide", "_law_goal"] "_law_right" (defScope s__law_right) f cdv A outer s H E).xe := passes_of rfl
  exact (sSs_cons (sS_for (by decide) po rfl (sI_rng (by rfl) T.B.range_ cI (by rfl)) (sG_name (i := 1) sc__law_right.nd rfl (by first | exact .inl rfl | exact .inr rfl))
      (sSs_cons (sS_set (i := 2) (by decide) sc__law_right.nd rfl (by first | exact .inl rfl | exact .inr rfl) (cE C.f__law_signs gd hr tk fn__law_signs (sArgs_one (aV (pv 0)) rfl)))
      (sSs_cons (sS_set (i := 3) (by decide) sc__law_right.nd rfl (by first | exact .inl rfl | exact .inr rfl) (cE C.f__law_rows gd hr tk fn__law_rows (sArgs_cons nofun (aV (pv 0)) (sArgs_cons nofun (aV (pv 2)) (sArgs_one (aE cI) rfl) rfl) rfl)))
      (sSs_cons (sS_par (by decide) rfl sc__law_right.nd rfl rfl (by decide) rfl rfl (sL_cons (nE (c := "Machine") M.f_Machine___init__ (by decide +kernel) gd hr tk fn_Machine___init__ (sA_cons (pe_name (pv 2)) (sA_cons (pe_name (pv 3)) sA_nil rfl nofun) rfl nofun)) (sL_cons (sE_lrg rfl T.B.list_ T.B.range_ (b1 cr_len T.B.len_ PySem.boot_len (pe_place (pv 3)))) sL_nil rfl) rfl) rfl)
      (sSs_cons (sS_parT (by decide) rfl (sL_cons (cE C.f__law_ends_in gd hr tk fn__law_ends_in (sArgs_cons nofun (aV (pv 3)) (sArgs_one (aE cI) rfl) rfl)) (sL_cons (cE C.f__law_ends_in gd hr tk fn__law_ends_in (sArgs_cons nofun (aV (pv 3)) (sArgs_one (aE cI) rfl) rfl)) sL_nil rfl) rfl) (sN_cons (i := 6) sc__law_right.nd rfl (by first | exact .inl rfl | exact .inr rfl) (sN_cons (i := 7) sc__law_right.nd rfl (by first | exact .inl rfl | exact .inr rfl) sN_nil)) (by decide))
      (sSs_cons (sS_parT (by decide) rfl (sL_cons (sE_lc rfl sc__law_right.nd (sI_seq (pe_name (pv 5))) (blkOk_by (own := [("_law_at", 10)]) (N := ["_law_bag_here", "_law_turn", "_law_signs_here", "_law_rows_here", "_law_mine", "_law_every", "_law_even", "_law_odd", "_law_sealed", "_law_due", "_law_at", "_law_ways", "_law_wide", "_law_goal"]) (sc := defScope s__law_right) (by decide +kernel)) rfl (by decide) (fun _ _ _ _ _ => (sG_name (i := 10) sc__law_right.nd rfl (by first | exact .inl rfl | exact .inr rfl))) (fun _ _ _ _ _ => (sC_some (PW.pt (sW_or (sT_cmp (o := .notin) hr (pe_place (pv 10)) (pe_place (pv 6)) (by rfl)) (pw_or1 (sT_cmp (o := .notin) hr (pe_place (pv 10)) (pe_place (pv 7)) (by rfl))))))) (fun _ _ _ _ _ => (pe_name (pv 10)))) (sL_cons cB sL_nil rfl) rfl) (sN_cons (i := 8) sc__law_right.nd rfl (by first | exact .inl rfl | exact .inr rfl) (sN_cons (i := 9) sc__law_right.nd rfl (by first | exact .inl rfl | exact .inr rfl) sN_nil)) (by decide))
      (sSs_cons (sS_for (by decide) po rfl (sI_seq (cE C.f__law_reached gd hr tk fn__law_reached (sArgs_one (aV (pv 3)) rfl))) (sG_name (i := 10) sc__law_right.nd rfl (by first | exact .inl rfl | exact .inr rfl))
      (sSs_cons (sS_setLc (i := 11) (by decide) rfl sc__law_right.nd rfl rfl (sw_true rfl rfl rfl (by decide +kernel)) (sI_seq (cE C.f__law_from gd hr tk fn__law_from (sArgs_cons nofun (aV (pv 3)) (sArgs_cons nofun (aV (pv 10)) (sArgs_one (aV (pv 5)) rfl) rfl) rfl))) (blkOk_by (own := [("_law_goal", 13)]) (N := ["_law_bag_here", "_law_turn", "_law_signs_here", "_law_rows_here", "_law_mine", "_law_every", "_law_even", "_law_odd", "_law_sealed", "_law_due", "_law_at", "_law_ways", "_law_wide", "_law_goal"]) (sc := defScope s__law_right) (by decide +kernel)) rfl (by decide) (fun _ _ _ _ _ => (sG_name (i := 13) sc__law_right.nd rfl (by first | exact .inl rfl | exact .inr rfl))) (fun _ _ _ _ _ => (sC_some (sT_cmp (o := .isin) hr (pe_place (pv 13)) (pe_place (pv 8)) (by rfl)))) (fun _ _ _ _ _ => (pe_name (pv 13))))
      (sSs_cons (sS_set (i := 9) (by decide) sc__law_right.nd rfl (by first | exact .inl rfl | exact .inr rfl) (sE_and (pe_name (pv 9)) (pe_one (sE_or (sE_cmp (o := .isin) hr (pe_place (pv 10)) (pe_place (pv 8)) (by rfl)) (pe_one (sE_cmp (o := .ne) hr (pe_place (pv 11)) (oE (sE_lst sA_nil)) (nomark _)))))))
      sSs_nil)))
      (sSs_cons (sS_if (sT_cmp (o := .ne) hr (oE (b1 (cr_reprF gd hr) T.B.repr_ PyProof.Rows.boot_repr (oE (sE_lst (sA_cons (cE C.f_is_watchable gd hr tk fn_is_watchable (sArgs_one (aV (pv 4)) rfl)) (sA_cons (sE_callK (g := gI) (ks := ["machine"]) T.d_is_watchable C.f_is_watchable gd hr tk fn_is_watchable nofun (fun vs ws hl h => match vs, hl with | [a0], _ => (Option.some.inj h).symm) gI_V gI_R (sK_cons (pe_name (pv 4)) sK_nil nofun) (fun _ _ _ _ _ _ ws hl => match ws, hl with | [a0], _ => rfl)) sA_nil rfl nofun) rfl nofun))))) (oE (b1 (cr_reprF gd hr) T.B.repr_ PyProof.Rows.boot_repr (oE (sE_lst (sA_cons (pe_name (pv 9)) (sA_cons (pe_name (pv 9)) sA_nil rfl nofun) rfl nofun))))) (nomark _))
      (sSs_cons (sS_ret cB nofun)
      sSs_nil)
      sSs_nil)
      (sSs_cons (sS_set (i := 12) (by decide) sc__law_right.nd rfl (by first | exact .inl rfl | exact .inr rfl) (sE_bin (o := .add) (pe_place (pv 3)) (oE (sE_tup (sA_cons (sE_tup (sA_cons (cE C.f__law_take gd hr tk fn__law_take (sArgs_cons nofun (aV (pv 0)) (sArgs_one (aE cI) rfl) rfl)) (sA_cons (sE_bin (o := .mul) (oE (sE_tup (sA_cons cI sA_nil rfl nofun))) (oE (b1 cr_len T.B.len_ PySem.boot_len (pe_place (pv 2))))) sA_nil rfl nofun) rfl nofun)) sA_nil rfl nofun)))))
      (sSs_cons (sS_if (PW.pt (sW_and (sT_cmp (o := .lt) hr (oE (b1 cr_len T.B.len_ PySem.boot_len (pe_place (pv 3)))) (oE cI) (nomark _)) (pw_and1 (sT_cmp (o := .ne) hr (oE (cE C.f_is_watchable gd hr tk fn_is_watchable (sArgs_one (aE (nE (c := "Machine") M.f_Machine___init__ (by decide +kernel) gd hr tk fn_Machine___init__ (sA_cons (pe_name (pv 2)) (sA_cons (pe_name (pv 12)) sA_nil rfl nofun) rfl nofun))) rfl))) (pe_place (pv 9)) (nomark _)))))
      (sSs_cons (sS_ret cB nofun)
      sSs_nil)
      sSs_nil)
      sSs_nil))))))))))
      (sSs_cons (sS_ret cB nofun)
      sSs_nil))
theorem b__law_quiet (T : Txt K mg) (C : Good P w K mg base (k + 2) cal) (M : Good P w K mg base (k + 1) mkc) (f : Addr) (cdv : Value) (A : Around) (outer : List Env) (s : Shared) (H : Hp) (E : XK) (gd : A.guards = some []) (hr : Room (k + 2) (A.deeper (envOfC "_law_quiet" (defScope s__law_quiet) s.heap.objs.size f cdv))) :
    PSs (cxOf (L2.CX P w) P w K mg base ["_law_bag_here", "_law_is_right"] "_law_quiet" (defScope s__law_quiet) f cdv A outer s H E) (defBody s__law_quiet) (tSs (cxOf (L2.CX P w) P w K mg base ["_law_bag_here", "_law_is_right"] "_law_quiet" (defScope s__law_quiet) f cdv A outer s H E) (fun c d _ H' => E c d H') tab cal mkc [0] ir__law_quiet.body) := by
  have tk : Takes (cxOf (L2.CX P w) P w K mg base ["_law_bag_here", "_law_is_right"] "_law_quiet" (defScope s__law_quiet) f cdv A outer s H E) (fun c d _ H' => E c d H') := takes_of rfl rfl rfl rfl
  have po : PassesOwn (model P w) (cxOf (L2.CX P w) P w K mg base ["_law_bag_here", "_law_is_right"] "_law_quiet" (defScope s__law_quiet) f cdv A outer s H E).A (cxOf (L2.CX P w) P w K mg base ["_law_bag_here", "_law_is_right"] "_law_quiet" (defScope s__law_quiet) f cdv A outer s H E).env (cxOf (L2.CX P w) P w K mg base ["_law_bag_here", "_law_is_right"] "_law_quiet" (defScope s__law_quiet) f cdv A outer s H E).xe := passes_of rfl
  exact (sSs_cons (sS_try (sSs_cons (sS_set (i := 1) (by decide) sc__law_quiet.nd rfl (by first | exact .inl rfl | exact .inr rfl) (cE C.f__law_right gd hr takesW0 fn__law_right (sArgs_one (aV (pv 0)) rfl)))
      sSs_nil))
      (sSs_cons (sS_retV (pv 1))
      sSs_nil))
theorem b_law (T : Txt K mg) (C : Good P w K mg base (k + 2) cal) (M : Good P w K mg base (k + 1) mkc) (f : Addr) (cdv : Value) (A : Around) (outer : List Env) (s : Shared) (H : Hp) (E : XK) (gd : A.guards = some []) (hr : Room (k + 2) (A.deeper (envOfC "law" (defScope s_law) s.heap.objs.size f cdv))) :
    PSs (cxOf (L2.CX P w) P w K mg base ["_law_script", "_law_turn"] "law" (defScope s_law) f cdv A outer s H E) (defBody s_law) (tSs (cxOf (L2.CX P w) P w K mg base ["_law_script", "_law_turn"] "law" (defScope s_law) f cdv A outer s H E) (fun c d _ H' => E c d H') tab cal mkc [] ir_law.body) := by
  have tk : Takes (cxOf (L2.CX P w) P w K mg base ["_law_script", "_law_turn"] "law" (defScope s_law) f cdv A outer s H E) (fun c d _ H' => E c d H') := takes_of rfl rfl rfl rfl
  have po : PassesOwn (model P w) (cxOf (L2.CX P w) P w K mg base ["_law_script", "_law_turn"] "law" (defScope s_law) f cdv A outer s H E).A (cxOf (L2.CX P w) P w K mg base ["_law_script", "_law_turn"] "law" (defScope s_law) f cdv A outer s H E).env (cxOf (L2.CX P w) P w K mg base ["_law_script", "_law_turn"] "law" (defScope s_law) f cdv A outer s H E).xe := passes_of rfl
  exact (sSs_cons (sS_ret (b1 (cr_allF rfl) T.B.all_ boot_all (oE (sE_lc rfl sc_law.nd (sI_rng (by rfl) T.B.range_ (b2 (cr_maxF rfl) T.B.max_ PyProof.Rows.boot_max (sA_cons cI (sA_cons (b2 (cr_minF rfl) T.B.min_ PyProof.Rows.boot_min (sA_cons (b1 cr_len T.B.len_ PySem.boot_len (pe_place (pv 0))) (sA_cons cI sA_nil rfl nofun) rfl nofun)) sA_nil rfl nofun) rfl nofun)) (by rfl)) (blkOk_by (own := [("_law_turn", 1)]) (N := ["_law_script", "_law_turn"]) (sc := defScope s_law) (by decide +kernel)) rfl (by decide) (fun _ _ _ _ _ => (sG_name (i := 1) sc_law.nd rfl (by first | exact .inl rfl | exact .inr rfl))) (fun _ _ _ _ _ => sC_none) (fun _ _ _ _ _ => (cE C.f__law_quiet gd hr takesW0 fn__law_quiet (sArgs_one (aE (cE C.f__law_bag gd hr takesW0 fn__law_bag (sArgs_cons nofun (aV (pv 0)) (sArgs_one (aV (pv 1)) rfl) rfl))) rfl)))))) nofun)
      sSs_nil)
theorem b_Graph___init__ (T : Txt K mg) (C : Good P w K mg base (k + 2) cal) (M : Good P w K mg base (k + 1) mkc) (f : Addr) (cdv : Value) (A : Around) (outer : List Env) (s : Shared) (H : Hp) (E : XK) (gd : A.guards = some []) (hr : Room (k + 2) (A.deeper (envOfC "Graph.__init__" (defScope s_Graph___init__) s.heap.objs.size f cdv))) :
    PSs (cxOf (L2.CX P w) P w K mg base ["self", "signs", "arrows", "colours"] "Graph.__init__" (defScope s_Graph___init__) f cdv A outer s H E) (defBody s_Graph___init__) (tSs (cxOf (L2.CX P w) P w K mg base ["self", "signs", "arrows", "colours"] "Graph.__init__" (defScope s_Graph___init__) f cdv A outer s H E) (fun c d _ H' => E c d H') tab cal mkc [0] ir_Graph___init__.body) := by
  have tk : Takes (cxOf (L2.CX P w) P w K mg base ["self", "signs", "arrows", "colours"] "Graph.__init__" (defScope s_Graph___init__) f cdv A outer s H E) (fun c d _ H' => E c d H') := takes_of rfl rfl rfl rfl
  have po : PassesOwn (model P w) (cxOf (L2.CX P w) P w K mg base ["self", "signs", "arrows", "colours"] "Graph.__init__" (defScope s_Graph___init__) f cdv A outer s H E).A (cxOf (L2.CX P w) P w K mg base ["self", "signs", "arrows", "colours"] "Graph.__init__" (defScope s_Graph___init__) f cdv A outer s H E).env (cxOf (L2.CX P w) P w K mg base ["self", "signs", "arrows", "colours"] "Graph.__init__" (defScope s_Graph___init__) f cdv A outer s H E).xe := passes_of rfl
  exact (sSs_cons (sS_setf (f := "signs") (pv 0) (pe_name (pv 1)) (fl_signs T) rfl)
      (sSs_cons (sS_setf (f := "arrows") (pv 0) (pe_name (pv 2)) (fl_arrows T) rfl)
      (sSs_cons (sS_setf (f := "colours") (pv 0) (pe_name (pv 3)) (fl_colours T) rfl)
      sSs_nil)))
theorem b_Graph_ways (T : Txt K mg) (C : Good P w K mg base (k + 2) cal) (M : Good P w K mg base (k + 1) mkc) (f : Addr) (cdv : Value) (A : Around) (outer : List Env) (s : Shared) (H : Hp) (E : XK) (gd : A.guards = some []) (hr : Room (k + 2) (A.deeper (envOfC "Graph.ways" (defScope s_Graph_ways) s.heap.objs.size f cdv))) :
    PSs (cxOf (L2.CX P w) P w K mg base ["self", "first", "inside", "found", "waiting", "spot", "place", "letter", "target"] "Graph.ways" (defScope s_Graph_ways) f cdv A outer s H E) (defBody s_Graph_ways) (tSs (cxOf (L2.CX P w) P w K mg base ["self", "first", "inside", "found", "waiting", "spot", "place", "letter", "target"] "Graph.ways" (defScope s_Graph_ways) f cdv A outer s H E) (fun c d _ H' => E c d H') tab cal mkc [] ir_Graph_ways.body) := by
  have tk : Takes (cxOf (L2.CX P w) P w K mg base ["self", "first", "inside", "found", "waiting", "spot", "place", "letter", "target"] "Graph.ways" (defScope s_Graph_ways) f cdv A outer s H E) (fun c d _ H' => E c d H') := takes_of rfl rfl rfl rfl
  have po : PassesOwn (model P w) (cxOf (L2.CX P w) P w K mg base ["self", "first", "inside", "found", "waiting", "spot", "place", "letter", "target"] "Graph.ways" (defScope s_Graph_ways) f cdv A outer s H E).A (cxOf (L2.CX P w) P w K mg base ["self", "first", "inside", "found", "waiting", "spot", "place", "letter", "target"] "Graph.ways" (defScope s_Graph_ways) f cdv A outer s H E).env (cxOf (L2.CX P w) P w K mg base ["self", "first", "inside", "found", "waiting", "spot", "place", "letter", "target"] "Graph.ways" (defScope s_Graph_ways) f cdv A outer s H E).xe := passes_of rfl
  exact (sSs_cons (sS_set (i := 3) (by decide) sc_Graph_ways.nd rfl (by first | exact .inl rfl | exact .inr rfl) (sE_disp (pe_name (pv 1)) (cS (s := ""))))
      (sSs_cons (sS_set (i := 4) (by decide) sc_Graph_ways.nd rfl (by first | exact .inl rfl | exact .inr rfl) (sE_lst (sA_cons (pe_name (pv 1)) sA_nil rfl nofun)))
      (sSs_cons (sS_set (i := 5) (by decide) sc_Graph_ways.nd rfl (by first | exact .inl rfl | exact .inr rfl) cI)
      (sSs_cons (sS_while po (sT_cmp (o := .lt) hr (pe_place (pv 5)) (oE (b1 cr_len T.B.len_ PySem.boot_len (pe_place (pv 4)))) (nomark _))
      (sSs_cons (sS_set (i := 6) (by decide) sc_Graph_ways.nd rfl (by first | exact .inl rfl | exact .inr rfl) (sE_idx hr (pe_place (pv 4)) (pe_place (pv 5)) (fun _ _ => rfl)))
      (sSs_cons (sS_for (by decide) po rfl (sI_zip (by rfl) T.B.zip_ (sE_fld (f := "signs") (pe_place (pv 0)) (fl_signs T) rfl) (sE_idx hr (oE (sE_fld (f := "arrows") (pe_place (pv 0)) (fl_arrows T) rfl)) (pe_place (pv 6)) (fun _ _ => rfl)) (by rfl) (by rfl) (by rfl)) (sG_tup rfl (sGs_cons (sG_name (i := 7) sc_Graph_ways.nd rfl (by first | exact .inl rfl | exact .inr rfl)) (sGs_cons (sG_name (i := 8) sc_Graph_ways.nd rfl (by first | exact .inl rfl | exact .inr rfl)) sGs_nil)))
      (sSs_cons (sS_if (PW.pt (sW_and (sT_cmp (o := .isin) hr (pe_place (pv 8)) (pe_place (pv 2)) (by rfl)) (pw_and1 (sT_cmp (o := .notin) hr (pe_place (pv 8)) (pe_place (pv 3)) (by rfl)))))
      (sSs_cons (sS_sub hr (pv 3) (pe_place (pv 8)) (sE_bin (o := .add) (oE (sE_idx hr (pe_place (pv 3)) (pe_place (pv 6)) (fun _ _ => rfl))) (pe_place (pv 7))))
      (sSs_cons (sS_append (pv 4) (sA_cons (pe_name (pv 8)) sA_nil rfl nofun))
      sSs_nil))
      sSs_nil)
      sSs_nil))
      (sSs_cons (sS_aug (i := 5) (by decide) sc_Graph_ways.nd rfl (by first | exact .inl rfl | exact .inr rfl) (oE cI))
      sSs_nil))))
      (sSs_cons (sS_retV (pv 3))
      sSs_nil)))))
theorem b_Graph_part (T : Txt K mg) (C : Good P w K mg base (k + 2) cal) (M : Good P w K mg base (k + 1) mkc) (f : Addr) (cdv : Value) (A : Around) (outer : List Env) (s : Shared) (H : Hp) (E : XK) (gd : A.guards = some []) (hr : Room (k + 2) (A.deeper (envOfC "Graph.part" (defScope s_Graph_part) s.heap.objs.size f cdv))) :
    PSs (cxOf (L2.CX P w) P w K mg base ["self", "first", "inside", "place"] "Graph.part" (defScope s_Graph_part) f cdv A outer s H E) (defBody s_Graph_part) (tSs (cxOf (L2.CX P w) P w K mg base ["self", "first", "inside", "place"] "Graph.part" (defScope s_Graph_part) f cdv A outer s H E) (fun c d _ H' => E c d H') tab cal mkc [] ir_Graph_part.body) := by
  have tk : Takes (cxOf (L2.CX P w) P w K mg base ["self", "first", "inside", "place"] "Graph.part" (defScope s_Graph_part) f cdv A outer s H E) (fun c d _ H' => E c d H') := takes_of rfl rfl rfl rfl
  have po : PassesOwn (model P w) (cxOf (L2.CX P w) P w K mg base ["self", "first", "inside", "place"] "Graph.part" (defScope s_Graph_part) f cdv A outer s H E).A (cxOf (L2.CX P w) P w K mg base ["self", "first", "inside", "place"] "Graph.part" (defScope s_Graph_part) f cdv A outer s H E).env (cxOf (L2.CX P w) P w K mg base ["self", "first", "inside", "place"] "Graph.part" (defScope s_Graph_part) f cdv A outer s H E).xe := passes_of rfl
  exact (sSs_cons (sS_ret (sE_lc rfl sc_Graph_part.nd (sI_seq (mE (c := "Graph") (m := "ways") C.f_Graph_ways gd hr tk fn_Graph_ways (aV (pv 0)) (sArgs_cons nofun (aV (pv 1)) (sArgs_one (aV (pv 2)) rfl) rfl))) (blkOk_by (own := [("place", 3)]) (N := ["self", "first", "inside", "place"]) (sc := defScope s_Graph_part) (by decide +kernel)) rfl (by decide) (fun _ _ _ _ _ => (sG_name (i := 3) sc_Graph_part.nd rfl (by first | exact .inl rfl | exact .inr rfl))) (fun _ _ _ _ _ => (sC_some (sT_cmp (o := .isin) hr (pe_place (pv 1)) (oE (mE (c := "Graph") (m := "ways") C.f_Graph_ways gd hr takesW0 fn_Graph_ways (aV (pv 0)) (sArgs_cons nofun (aV (pv 3)) (sArgs_one (aV (pv 2)) rfl) rfl))) (by rfl)))) (fun _ _ _ _ _ => (pe_name (pv 3)))) nofun)
      sSs_nil)
theorem b_Graph_parts (T : Txt K mg) (C : Good P w K mg base (k + 2) cal) (M : Good P w K mg base (k + 1) mkc) (f : Addr) (cdv : Value) (A : Around) (outer : List Env) (s : Shared) (H : Hp) (E : XK) (gd : A.guards = some []) (hr : Room (k + 2) (A.deeper (envOfC "Graph.parts" (defScope s_Graph_parts) s.heap.objs.size f cdv))) :
    PSs (cxOf (L2.CX P w) P w K mg base ["self", "inside", "found", "done", "place", "part", "each"] "Graph.parts" (defScope s_Graph_parts) f cdv A outer s H E) (defBody s_Graph_parts) (tSs (cxOf (L2.CX P w) P w K mg base ["self", "inside", "found", "done", "place", "part", "each"] "Graph.parts" (defScope s_Graph_parts) f cdv A outer s H E) (fun c d _ H' => E c d H') tab cal mkc [] ir_Graph_parts.body) := by
  have tk : Takes (cxOf (L2.CX P w) P w K mg base ["self", "inside", "found", "done", "place", "part", "each"] "Graph.parts" (defScope s_Graph_parts) f cdv A outer s H E) (fun c d _ H' => E c d H') := takes_of rfl rfl rfl rfl
  have po : PassesOwn (model P w) (cxOf (L2.CX P w) P w K mg base ["self", "inside", "found", "done", "place", "part", "each"] "Graph.parts" (defScope s_Graph_parts) f cdv A outer s H E).A (cxOf (L2.CX P w) P w K mg base ["self", "inside", "found", "done", "place", "part", "each"] "Graph.parts" (defScope s_Graph_parts) f cdv A outer s H E).env (cxOf (L2.CX P w) P w K mg base ["self", "inside", "found", "done", "place", "part", "each"] "Graph.parts" (defScope s_Graph_parts) f cdv A outer s H E).xe := passes_of rfl
  exact (sSs_cons (sS_par (by decide) rfl sc_Graph_parts.nd rfl rfl (by decide) rfl rfl (sL_cons (sE_lst sA_nil) (sL_cons sE_dnew sL_nil rfl) rfl) rfl)
      (sSs_cons (sS_for (by decide) po rfl (sI_seq (pe_name (pv 1))) (sG_name (i := 4) sc_Graph_parts.nd rfl (by first | exact .inl rfl | exact .inr rfl))
      (sSs_cons (sS_if (sT_cmp (o := .notin) hr (pe_place (pv 4)) (pe_place (pv 3)) (by rfl))
      (sSs_cons (sS_set (i := 5) (by decide) sc_Graph_parts.nd rfl (by first | exact .inl rfl | exact .inr rfl) (mE (c := "Graph") (m := "part") C.f_Graph_part gd hr tk fn_Graph_part (aV (pv 0)) (sArgs_cons nofun (aV (pv 4)) (sArgs_one (aV (pv 1)) rfl) rfl)))
      (sSs_cons (sS_update (pv 3) (sA_cons (sE_dc rfl sc_Graph_parts.nd (sI_seq (pe_name (pv 5))) (blkOk_by (own := [("each", 6)]) (N := ["self", "inside", "found", "done", "place", "part", "each"]) (sc := defScope s_Graph_parts) (by decide +kernel)) rfl (by decide) (fun _ _ _ _ _ => (sG_name (i := 6) sc_Graph_parts.nd rfl (by first | exact .inl rfl | exact .inr rfl))) (fun _ _ _ _ _ => (pe_name (pv 6))) (fun _ _ _ _ _ => cB)) sA_nil rfl nofun))
      (sSs_cons (sS_if (PW.pt (sW_or (sT_cmp (o := .gt) hr (oE (b1 cr_len T.B.len_ PySem.boot_len (pe_place (pv 5)))) (oE cI) (nomark _)) (pw_or1 (sT_cmp (o := .isin) hr (pe_place (pv 4)) (oE (sE_idx hr (oE (sE_fld (f := "arrows") (pe_place (pv 0)) (fl_arrows T) rfl)) (pe_place (pv 4)) (fun _ _ => rfl))) (by rfl)))))
      (sSs_cons (sS_append (pv 2) (sA_cons (pe_name (pv 5)) sA_nil rfl nofun))
      sSs_nil)
      sSs_nil)
      sSs_nil)))
      sSs_nil)
      sSs_nil))
      (sSs_cons (sS_retV (pv 2))
      sSs_nil)))
theorem b_Graph_up_to (T : Txt K mg) (C : Good P w K mg base (k + 2) cal) (M : Good P w K mg base (k + 1) mkc) (f : Addr) (cdv : Value) (A : Around) (outer : List Env) (s : Shared) (H : Hp) (E : XK) (gd : A.guards = some []) (hr : Room (k + 2) (A.deeper (envOfC "Graph.up_to" (defScope s_Graph_up_to) s.heap.objs.size f cdv))) :
    PSs (cxOf (L2.CX P w) P w K mg base ["self", "inside", "column", "colour", "place"] "Graph.up_to" (defScope s_Graph_up_to) f cdv A outer s H E) (defBody s_Graph_up_to) (tSs (cxOf (L2.CX P w) P w K mg base ["self", "inside", "column", "colour", "place"] "Graph.up_to" (defScope s_Graph_up_to) f cdv A outer s H E) (fun c d _ H' => E c d H') tab cal mkc [] ir_Graph_up_to.body) := by
  have tk : Takes (cxOf (L2.CX P w) P w K mg base ["self", "inside", "column", "colour", "place"] "Graph.up_to" (defScope s_Graph_up_to) f cdv A outer s H E) (fun c d _ H' => E c d H') := takes_of rfl rfl rfl rfl
  have po : PassesOwn (model P w) (cxOf (L2.CX P w) P w K mg base ["self", "inside", "column", "colour", "place"] "Graph.up_to" (defScope s_Graph_up_to) f cdv A outer s H E).A (cxOf (L2.CX P w) P w K mg base ["self", "inside", "column", "colour", "place"] "Graph.up_to" (defScope s_Graph_up_to) f cdv A outer s H E).env (cxOf (L2.CX P w) P w K mg base ["self", "inside", "column", "colour", "place"] "Graph.up_to" (defScope s_Graph_up_to) f cdv A outer s H E).xe := passes_of rfl
  exact (sSs_cons (sS_ret (sE_lc rfl sc_Graph_up_to.nd (sI_seq (pe_name (pv 1))) (blkOk_by (own := [("place", 4)]) (N := ["self", "inside", "column", "colour", "place"]) (sc := defScope s_Graph_up_to) (by decide +kernel)) rfl (by decide) (fun _ _ _ _ _ => (sG_name (i := 4) sc_Graph_up_to.nd rfl (by first | exact .inl rfl | exact .inr rfl))) (fun _ _ _ _ _ => (sC_some (sT_cmp (o := .le) hr (oE (sE_idx hr (oE (sE_idx hr (oE (sE_fld (f := "colours") (pe_place (pv 0)) (fl_colours T) rfl)) (pe_place (pv 4)) (fun _ _ => rfl))) (pe_place (pv 2)) (fun _ _ => rfl))) (pe_place (pv 3)) (nomark _)))) (fun _ _ _ _ _ => (pe_name (pv 4)))) nofun)
      sSs_nil)
theorem b_Graph_has (T : Txt K mg) (C : Good P w K mg base (k + 2) cal) (M : Good P w K mg base (k + 1) mkc) (f : Addr) (cdv : Value) (A : Around) (outer : List Env) (s : Shared) (H : Hp) (E : XK) (gd : A.guards = some []) (hr : Room (k + 2) (A.deeper (envOfC "Graph.has" (defScope s_Graph_has) s.heap.objs.size f cdv))) :
    PSs (cxOf (L2.CX P w) P w K mg base ["self", "inside", "column", "colour", "place"] "Graph.has" (defScope s_Graph_has) f cdv A outer s H E) (defBody s_Graph_has) (tSs (cxOf (L2.CX P w) P w K mg base ["self", "inside", "column", "colour", "place"] "Graph.has" (defScope s_Graph_has) f cdv A outer s H E) (fun c d _ H' => E c d H') tab cal mkc [] ir_Graph_has.body) := by
  have tk : Takes (cxOf (L2.CX P w) P w K mg base ["self", "inside", "column", "colour", "place"] "Graph.has" (defScope s_Graph_has) f cdv A outer s H E) (fun c d _ H' => E c d H') := takes_of rfl rfl rfl rfl
  have po : PassesOwn (model P w) (cxOf (L2.CX P w) P w K mg base ["self", "inside", "column", "colour", "place"] "Graph.has" (defScope s_Graph_has) f cdv A outer s H E).A (cxOf (L2.CX P w) P w K mg base ["self", "inside", "column", "colour", "place"] "Graph.has" (defScope s_Graph_has) f cdv A outer s H E).env (cxOf (L2.CX P w) P w K mg base ["self", "inside", "column", "colour", "place"] "Graph.has" (defScope s_Graph_has) f cdv A outer s H E).xe := passes_of rfl
  exact (sSs_cons (sS_ret (sE_lc rfl sc_Graph_has.nd (sI_seq (pe_name (pv 1))) (blkOk_by (own := [("place", 4)]) (N := ["self", "inside", "column", "colour", "place"]) (sc := defScope s_Graph_has) (by decide +kernel)) rfl (by decide) (fun _ _ _ _ _ => (sG_name (i := 4) sc_Graph_has.nd rfl (by first | exact .inl rfl | exact .inr rfl))) (fun _ _ _ _ _ => (sC_some (sT_cmp (o := .eq) hr (oE (sE_idx hr (oE (sE_idx hr (oE (sE_fld (f := "colours") (pe_place (pv 0)) (fl_colours T) rfl)) (pe_place (pv 4)) (fun _ _ => rfl))) (pe_place (pv 2)) (fun _ _ => rfl))) (pe_place (pv 3)) (nomark _)))) (fun _ _ _ _ _ => (pe_name (pv 4)))) nofun)
      sSs_nil)
theorem b_Machine___init__ (T : Txt K mg) (C : Good P w K mg base (k + 2) cal) (M : Good P w K mg base (k + 1) mkc) (f : Addr) (cdv : Value) (A : Around) (outer : List Env) (s : Shared) (H : Hp) (E : XK) (gd : A.guards = some []) (hr : Room (k + 2) (A.deeper (envOfC "Machine.__init__" (defScope s_Machine___init__) s.heap.objs.size f cdv))) :
    PSs (cxOf (L2.CX P w) P w K mg base ["self", "letters", "states", "index", "state"] "Machine.__init__" (defScope s_Machine___init__) f cdv A outer s H E) (defBody s_Machine___init__) (tSs (cxOf (L2.CX P w) P w K mg base ["self", "letters", "states", "index", "state"] "Machine.__init__" (defScope s_Machine___init__) f cdv A outer s H E) (fun c d _ H' => E c d H') tab cal mkc [0] ir_Machine___init__.body) := by
  have tk : Takes (cxOf (L2.CX P w) P w K mg base ["self", "letters", "states", "index", "state"] "Machine.__init__" (defScope s_Machine___init__) f cdv A outer s H E) (fun c d _ H' => E c d H') := takes_of rfl rfl rfl rfl
  have po : PassesOwn (model P w) (cxOf (L2.CX P w) P w K mg base ["self", "letters", "states", "index", "state"] "Machine.__init__" (defScope s_Machine___init__) f cdv A outer s H E).A (cxOf (L2.CX P w) P w K mg base ["self", "letters", "states", "index", "state"] "Machine.__init__" (defScope s_Machine___init__) f cdv A outer s H E).env (cxOf (L2.CX P w) P w K mg base ["self", "letters", "states", "index", "state"] "Machine.__init__" (defScope s_Machine___init__) f cdv A outer s H E).xe := passes_of rfl
  exact (sSs_cons (sS_if (sT_not (sT_val (cE C.f_are_letters gd hr tk fn_are_letters (sArgs_one (aV (pv 1)) rfl)) (by intro _; rfl)))
      (sSs_cons sS_never
      sSs_nil)
      sSs_nil)
      (sSs_cons (sS_if (PW.pt (sW_or (sT_not (sT_val (sE_isi (t := "tuple") (.inl ⟨rfl, rfl⟩) (fun _ => ti_tuple) T.B.isinstance_ (pe_place (pv 2)) (pe_type T.B.tuple_ PyProof.Rows.boot_tuple)) (by intro _; rfl))) (pw_or1 (sT_cmp (o := .eq) hr (oE (b1 cr_len T.B.len_ PySem.boot_len (pe_place (pv 2)))) (oE cI) (nomark _)))))
      (sSs_cons sS_never
      sSs_nil)
      sSs_nil)
      (sSs_cons (sS_for (by decide) po rfl (sI_enum (by rfl) T.B.enumerate_ (pe_name (pv 2)) (by rfl)) (sG_tup rfl (sGs_cons (sG_name (i := 3) sc_Machine___init__.nd rfl (by first | exact .inl rfl | exact .inr rfl)) (sGs_cons (sG_name (i := 4) sc_Machine___init__.nd rfl (by first | exact .inl rfl | exact .inr rfl)) sGs_nil)))
      (sSs_cons (sS_if (PW.pt (sW_or (sT_cmp (o := .eq) hr (pe_place (pv 3)) (oE (cG T.c_MOST_STATES (fun _ => .int 6) tc_MOST_STATES)) (nomark _)) (pw_or1 (sT_not (sT_val (cE C.f_is_state gd hr tk fn_is_state (sArgs_cons nofun (aV (pv 4)) (sArgs_cons nofun (aV (pv 1)) (sArgs_one (aE (b1 cr_len T.B.len_ PySem.boot_len (pe_place (pv 2)))) rfl) rfl) rfl)) (by intro _; rfl))))))
      (sSs_cons sS_never
      sSs_nil)
      sSs_nil)
      sSs_nil))
      (sSs_cons (sS_setf (f := "held_letters") (pv 0) (pe_name (pv 1)) (fl_held_letters T) rfl)
      (sSs_cons (sS_setf (f := "held_states") (pv 0) (pe_name (pv 2)) (fl_held_states T) rfl)
      sSs_nil)))))
theorem b_Machine___len__ (T : Txt K mg) (C : Good P w K mg base (k + 2) cal) (M : Good P w K mg base (k + 1) mkc) (f : Addr) (cdv : Value) (A : Around) (outer : List Env) (s : Shared) (H : Hp) (E : XK) (gd : A.guards = some []) (hr : Room (k + 2) (A.deeper (envOfC "Machine.__len__" (defScope s_Machine___len__) s.heap.objs.size f cdv))) :
    PSs (cxOf (L2.CX P w) P w K mg base ["self"] "Machine.__len__" (defScope s_Machine___len__) f cdv A outer s H E) (defBody s_Machine___len__) (tSs (cxOf (L2.CX P w) P w K mg base ["self"] "Machine.__len__" (defScope s_Machine___len__) f cdv A outer s H E) (fun c d _ H' => E c d H') tab cal mkc [] ir_Machine___len__.body) := by
  have tk : Takes (cxOf (L2.CX P w) P w K mg base ["self"] "Machine.__len__" (defScope s_Machine___len__) f cdv A outer s H E) (fun c d _ H' => E c d H') := takes_of rfl rfl rfl rfl
  have po : PassesOwn (model P w) (cxOf (L2.CX P w) P w K mg base ["self"] "Machine.__len__" (defScope s_Machine___len__) f cdv A outer s H E).A (cxOf (L2.CX P w) P w K mg base ["self"] "Machine.__len__" (defScope s_Machine___len__) f cdv A outer s H E).env (cxOf (L2.CX P w) P w K mg base ["self"] "Machine.__len__" (defScope s_Machine___len__) f cdv A outer s H E).xe := passes_of rfl
  exact (sSs_cons (sS_ret (b1 cr_len T.B.len_ PySem.boot_len (oE (sE_fld (f := "held_states") (pe_place (pv 0)) (fl_held_states T) rfl))) nofun)
      sSs_nil)
theorem step (T : Txt K mg) (C : Good P w K mg base (k + 2) cal) (M : Good P w K mg base (k + 1) mkc) : Good P w K mg base (k + 3) (evB tab cal mkc) := {
  f_all_of := okE_def (k := k + 2) T.d_all_of sc_all_of fn_all_of rfl rfl rfl (fun _ _ _ _ _ _ us hl => match us, hl with | [_], _ => rfl) (b_all_of T C M)
  f_graph_of := okE_def (k := k + 2) T.d_graph_of sc_graph_of fn_graph_of rfl rfl rfl (fun _ _ _ _ _ _ us hl => match us, hl with | [_], _ => rfl) (b_graph_of T C M)
  f_loops_of := okE_def (k := k + 2) T.d_loops_of sc_loops_of fn_loops_of rfl rfl rfl (fun _ _ _ _ _ _ us hl => match us, hl with | [_, _, _], _ => rfl) (b_loops_of T C M)
  f_leading_to := okE_def (k := k + 2) T.d_leading_to sc_leading_to fn_leading_to rfl rfl rfl (fun _ _ _ _ _ _ us hl => match us, hl with | [_, _, _], _ => rfl) (b_leading_to T C M)
  f_is_integer := okE_def (k := k + 2) T.d_is_integer sc_is_integer fn_is_integer rfl rfl rfl (fun _ _ _ _ _ _ us hl => match us, hl with | [_, _, _], _ => rfl) (b_is_integer T C M)
  f_is_word_of := okE_def (k := k + 2) T.d_is_word_of sc_is_word_of fn_is_word_of rfl rfl rfl (fun _ _ _ _ _ _ us hl => match us, hl with | [_, _, _], _ => rfl) (b_is_word_of T C M)
  f_is_tuple_of := okE_def (k := k + 2) T.d_is_tuple_of sc_is_tuple_of fn_is_tuple_of rfl rfl rfl (fun _ _ _ _ _ _ us hl => match us, hl with | [_, _], _ => rfl) (b_is_tuple_of T C M)
  f_are_letters := okE_def (k := k + 2) T.d_are_letters sc_are_letters fn_are_letters rfl rfl rfl (fun _ _ _ _ _ _ us hl => match us, hl with | [_], _ => rfl) (b_are_letters T C M)
  f_is_state := okE_def (k := k + 2) T.d_is_state sc_is_state fn_is_state rfl rfl rfl (fun _ _ _ _ _ _ us hl => match us, hl with | [_, _, _], _ => rfl) (b_is_state T C M)
  f_digit_of := okE_def (k := k + 2) T.d_digit_of sc_digit_of fn_digit_of rfl rfl rfl (fun _ _ _ _ _ _ us hl => match us, hl with | [_], _ => rfl) (b_digit_of T C M)
  f_state_of := okE_def (k := k + 2) T.d_state_of sc_state_of fn_state_of rfl rfl rfl (fun _ _ _ _ _ _ us hl => match us, hl with | [_], _ => rfl) (b_state_of T C M)
  f_check_machine := okE_def (k := k + 2) T.d_check_machine sc_check_machine fn_check_machine rfl rfl rfl (fun _ _ _ _ _ _ us hl => match us, hl with | [_], _ => rfl) (b_check_machine T C M)
  f_with_loops := okE_def (k := k + 2) T.d_with_loops sc_with_loops fn_with_loops rfl rfl rfl (fun _ _ _ _ _ _ us hl => match us, hl with | [_, _], _ => rfl) (b_with_loops T C M)
  f_live_of := okE_def (k := k + 2) T.d_live_of sc_live_of fn_live_of rfl rfl rfl (fun _ _ _ _ _ _ us hl => match us, hl with | [_], _ => rfl) (b_live_of T C M)
  f_sure_of := okE_def (k := k + 2) T.d_sure_of sc_sure_of fn_sure_of rfl rfl rfl (fun _ _ _ _ _ _ us hl => match us, hl with | [_], _ => rfl) (b_sure_of T C M)
  f_ends_for := okE_def (k := k + 2) T.d_ends_for sc_ends_for fn_ends_for rfl rfl rfl (fun _ _ _ _ _ _ us hl => match us, hl with | [_, _], _ => rfl) (b_ends_for T C M)
  f_is_watched := okE_def (k := k + 2) T.d_is_watched sc_is_watched fn_is_watched rfl rfl rfl (fun _ _ _ _ _ _ us hl => match us, hl with | [_], _ => rfl) (b_is_watched T C M)
  f_is_watchable := okE_def (k := k + 2) T.d_is_watchable sc_is_watchable fn_is_watchable rfl rfl rfl (fun _ _ _ _ _ _ us hl => match us, hl with | [_], _ => rfl) (b_is_watchable T C M)
  f__law_bag := okE_def (k := k + 2) T.d__law_bag sc__law_bag fn__law_bag rfl rfl rfl (fun _ _ _ _ _ _ us hl => match us, hl with | [_, _], _ => rfl) (b__law_bag T C M)
  f__law_take := okE_def (k := k + 2) T.d__law_take sc__law_take fn__law_take rfl rfl rfl (fun _ _ _ _ _ _ us hl => match us, hl with | [_, _], _ => rfl) (b__law_take T C M)
  f__law_signs := okE_def (k := k + 2) T.d__law_signs sc__law_signs fn__law_signs rfl rfl rfl (fun _ _ _ _ _ _ us hl => match us, hl with | [_], _ => rfl) (b__law_signs T C M)
  f__law_rows := okE_def (k := k + 2) T.d__law_rows sc__law_rows fn__law_rows rfl rfl rfl (fun _ _ _ _ _ _ us hl => match us, hl with | [_, _, _], _ => rfl) (b__law_rows T C M)
  f__law_from := okE_def (k := k + 2) T.d__law_from sc__law_from fn__law_from rfl rfl rfl (fun _ _ _ _ _ _ us hl => match us, hl with | [_, _, _], _ => rfl) (b__law_from T C M)
  f__law_loops := okE_def (k := k + 2) T.d__law_loops sc__law_loops fn__law_loops rfl rfl rfl (fun _ _ _ _ _ _ us hl => match us, hl with | [_], _ => rfl) (b__law_loops T C M)
  f__law_ends_in := okE_def (k := k + 2) T.d__law_ends_in sc__law_ends_in fn__law_ends_in rfl rfl rfl (fun _ _ _ _ _ _ us hl => match us, hl with | [_, _], _ => rfl) (b__law_ends_in T C M)
  f__law_reached := okE_def (k := k + 2) T.d__law_reached sc__law_reached fn__law_reached rfl rfl rfl (fun _ _ _ _ _ _ us hl => match us, hl with | [_], _ => rfl) (b__law_reached T C M)
  f__law_right := okE_def (k := k + 2) T.d__law_right sc__law_right fn__law_right rfl rfl rfl (fun _ _ _ _ _ _ us hl => match us, hl with | [_], _ => rfl) (b__law_right T C M)
  f__law_quiet := okE_def (k := k + 2) T.d__law_quiet sc__law_quiet fn__law_quiet rfl rfl rfl (fun _ _ _ _ _ _ us hl => match us, hl with | [_], _ => rfl) (b__law_quiet T C M)
  f_law := okE_def (k := k + 2) T.d_law sc_law fn_law rfl rfl rfl (fun _ _ _ _ _ _ us hl => match us, hl with | [_], _ => rfl) (b_law T C M)
  f_Graph___init__ := okNE_def (k := k + 2) T.i_Graph sc_Graph___init__ fn_Graph___init__ rfl rfl rfl (fun _ _ _ _ _ _ us hl => match us, hl with | [_, _, _, _], _ => rfl) (b_Graph___init__ T C M)
  f_Graph_ways := okME_def (k := k + 2) T.m_Graph_ways sc_Graph_ways fn_Graph_ways rfl rfl rfl (fun _ _ _ _ _ _ us hl => match us, hl with | [_, _, _], _ => rfl) (b_Graph_ways T C M)
  f_Graph_part := okME_def (k := k + 2) T.m_Graph_part sc_Graph_part fn_Graph_part rfl rfl rfl (fun _ _ _ _ _ _ us hl => match us, hl with | [_, _, _], _ => rfl) (b_Graph_part T C M)
  f_Graph_parts := okME_def (k := k + 2) T.m_Graph_parts sc_Graph_parts fn_Graph_parts rfl rfl rfl (fun _ _ _ _ _ _ us hl => match us, hl with | [_, _], _ => rfl) (b_Graph_parts T C M)
  f_Graph_up_to := okME_def (k := k + 2) T.m_Graph_up_to sc_Graph_up_to fn_Graph_up_to rfl rfl rfl (fun _ _ _ _ _ _ us hl => match us, hl with | [_, _, _, _], _ => rfl) (b_Graph_up_to T C M)
  f_Graph_has := okME_def (k := k + 2) T.m_Graph_has sc_Graph_has fn_Graph_has rfl rfl rfl (fun _ _ _ _ _ _ us hl => match us, hl with | [_, _, _, _], _ => rfl) (b_Graph_has T C M)
  f_Machine___init__ := okNE_def (k := k + 2) (mach_new T.M) sc_Machine___init__ fn_Machine___init__ rfl rfl rfl (fun _ _ _ _ _ _ us hl => match us, hl with | [_, _, _], _ => rfl) (b_Machine___init__ T C M)
  f_Machine___len__ := okME_def (k := k + 2) T.m_Machine___len__ sc_Machine___len__ fn_Machine___len__ rfl rfl rfl (fun _ _ _ _ _ _ us hl => match us, hl with | [_], _ => rfl) (b_Machine___len__ T C M)
}
theorem good0 (T : Txt K mg) : Good P w K mg base k none2 := {
  f_all_of := okE_none T.d_all_of (fun _ _ _ _ _ _ us hl => match us, hl with | [_], _ => rfl)
  f_graph_of := okE_none T.d_graph_of (fun _ _ _ _ _ _ us hl => match us, hl with | [_], _ => rfl)
  f_loops_of := okE_none T.d_loops_of (fun _ _ _ _ _ _ us hl => match us, hl with | [_, _, _], _ => rfl)
  f_leading_to := okE_none T.d_leading_to (fun _ _ _ _ _ _ us hl => match us, hl with | [_, _, _], _ => rfl)
  f_is_integer := okE_none T.d_is_integer (fun _ _ _ _ _ _ us hl => match us, hl with | [_, _, _], _ => rfl)
  f_is_word_of := okE_none T.d_is_word_of (fun _ _ _ _ _ _ us hl => match us, hl with | [_, _, _], _ => rfl)
  f_is_tuple_of := okE_none T.d_is_tuple_of (fun _ _ _ _ _ _ us hl => match us, hl with | [_, _], _ => rfl)
  f_are_letters := okE_none T.d_are_letters (fun _ _ _ _ _ _ us hl => match us, hl with | [_], _ => rfl)
  f_is_state := okE_none T.d_is_state (fun _ _ _ _ _ _ us hl => match us, hl with | [_, _, _], _ => rfl)
  f_digit_of := okE_none T.d_digit_of (fun _ _ _ _ _ _ us hl => match us, hl with | [_], _ => rfl)
  f_state_of := okE_none T.d_state_of (fun _ _ _ _ _ _ us hl => match us, hl with | [_], _ => rfl)
  f_check_machine := okE_none T.d_check_machine (fun _ _ _ _ _ _ us hl => match us, hl with | [_], _ => rfl)
  f_with_loops := okE_none T.d_with_loops (fun _ _ _ _ _ _ us hl => match us, hl with | [_, _], _ => rfl)
  f_live_of := okE_none T.d_live_of (fun _ _ _ _ _ _ us hl => match us, hl with | [_], _ => rfl)
  f_sure_of := okE_none T.d_sure_of (fun _ _ _ _ _ _ us hl => match us, hl with | [_], _ => rfl)
  f_ends_for := okE_none T.d_ends_for (fun _ _ _ _ _ _ us hl => match us, hl with | [_, _], _ => rfl)
  f_is_watched := okE_none T.d_is_watched (fun _ _ _ _ _ _ us hl => match us, hl with | [_], _ => rfl)
  f_is_watchable := okE_none T.d_is_watchable (fun _ _ _ _ _ _ us hl => match us, hl with | [_], _ => rfl)
  f__law_bag := okE_none T.d__law_bag (fun _ _ _ _ _ _ us hl => match us, hl with | [_, _], _ => rfl)
  f__law_take := okE_none T.d__law_take (fun _ _ _ _ _ _ us hl => match us, hl with | [_, _], _ => rfl)
  f__law_signs := okE_none T.d__law_signs (fun _ _ _ _ _ _ us hl => match us, hl with | [_], _ => rfl)
  f__law_rows := okE_none T.d__law_rows (fun _ _ _ _ _ _ us hl => match us, hl with | [_, _, _], _ => rfl)
  f__law_from := okE_none T.d__law_from (fun _ _ _ _ _ _ us hl => match us, hl with | [_, _, _], _ => rfl)
  f__law_loops := okE_none T.d__law_loops (fun _ _ _ _ _ _ us hl => match us, hl with | [_], _ => rfl)
  f__law_ends_in := okE_none T.d__law_ends_in (fun _ _ _ _ _ _ us hl => match us, hl with | [_, _], _ => rfl)
  f__law_reached := okE_none T.d__law_reached (fun _ _ _ _ _ _ us hl => match us, hl with | [_], _ => rfl)
  f__law_right := okE_none T.d__law_right (fun _ _ _ _ _ _ us hl => match us, hl with | [_], _ => rfl)
  f__law_quiet := okE_none T.d__law_quiet (fun _ _ _ _ _ _ us hl => match us, hl with | [_], _ => rfl)
  f_law := okE_none T.d_law (fun _ _ _ _ _ _ us hl => match us, hl with | [_], _ => rfl)
  f_Graph___init__ := okNE_none T.i_Graph (fun _ _ _ _ _ _ us hl => match us, hl with | [_, _, _, _], _ => rfl)
  f_Graph_ways := okME_none T.m_Graph_ways (fun _ _ _ _ _ _ us hl => match us, hl with | [_, _, _], _ => rfl)
  f_Graph_part := okME_none T.m_Graph_part (fun _ _ _ _ _ _ us hl => match us, hl with | [_, _, _], _ => rfl)
  f_Graph_parts := okME_none T.m_Graph_parts (fun _ _ _ _ _ _ us hl => match us, hl with | [_, _], _ => rfl)
  f_Graph_up_to := okME_none T.m_Graph_up_to (fun _ _ _ _ _ _ us hl => match us, hl with | [_, _, _, _], _ => rfl)
  f_Graph_has := okME_none T.m_Graph_has (fun _ _ _ _ _ _ us hl => match us, hl with | [_, _, _, _], _ => rfl)
  f_Machine___init__ := okNE_none (mach_new T.M) (fun _ _ _ _ _ _ us hl => match us, hl with | [_, _, _], _ => rfl)
  f_Machine___len__ := okME_none T.m_Machine___len__ (fun _ _ _ _ _ _ us hl => match us, hl with | [_], _ => rfl)
}
theorem good2 (T : Txt K mg) : ∀ k, Good P w K mg base (k + 2) (ev2 tab k).1 ∧ Good P w K mg base (k + 1) (ev2 tab k).2
  | 0 => ⟨good0 T, good0 T⟩
  | k + 1 => ⟨step T (good2 T k).1 (good2 T k).2, (good2 T k).1⟩
theorem good (T : Txt K mg) (k : Nat) : Good P w K mg base (k + 2) (evF tab k) := (good2 T k).1
end
end EV
namespace EV
theorem tab_ext (f : String) : tab.ext f = none := rfl
theorem q_is_integer (k : Nat) (i a b : Int) : evF tab (k + 1) "is_integer" [.fz (.int i), .fz (.int a), .fz (.int b)] = some (.ok (.fz (.bl (decide (a ≤ i) && decide (i ≤ b)))) [.fz (.int i), .fz (.int a), .fz (.int b)]) := by
  rw [evF_succ, run_def fn_is_integer (tab_ext _) rfl]
  by_cases h : a ≤ i <;> simp [ir_is_integer, evE.eq_1, evE.eq_2, evE.eq_3, evE.eq_4, evE.eq_5, evE.eq_6, evE.eq_7, evE.eq_8, evE.eq_9, evE.eq_10, evE.eq_11, evE.eq_12, evE.eq_13, evE.eq_14, evE.eq_15, evE.eq_16, evE.eq_17, evE.eq_18, evE.eq_19, evE.eq_20, evE.eq_21, evE.eq_25, evE.eq_26, evE.eq_27, evE.eq_28, evE.eq_31, evSs, evS, evOp, evC, evEs, opnd, Opd.val, Slot.val, slotAt, fixv, isiV, isiF, typ, asBool, cmpF, endF, keptIo, lift, pur, bltF, len, eqF, assn, assns, h]
theorem allB_map {α : Type} (f : α → Bool) : ∀ l : List α, allB (l.map fun x => .bl (f x)) = some (l.map f)
  | [] => rfl
  | x :: r => by simp [allB, allB_map f r]
theorem q_is_word_of (k : Nat) (l S : List Nat) (m : Int) (hl : l.length ≤ cap) : evF tab (k + 1) "is_word_of" [.fz (.str l), .fz (.str S), .fz (.int m)] = some (.ok (.fz (.bl (decide ((l.length : Int) ≤ m) && l.all fun c => decide (c ∈ S)))) [.fz (.str l), .fz (.str S), .fz (.int m)]) := by
  rw [evF_succ, run_def fn_is_word_of (tab_ext _) rfl]
  have hlc : evE tab (evF tab k) (ev2 tab k).2 (.lc [3] (.nm 3) (.seq (.v 0)) none (.cmp .isin (.v 3) (.v 1))) [.fz (.str l), .fz (.str S), .fz (.int m), .un] = some (.ok (.ow (.lst (l.map fun c => .bl (S.contains c)))) [.fz (.str l), .fz (.str S), .fz (.int m), .un]) := by
    have := ev_lc1 (T := tab) (cal := evF tab k) (mkc := (ev2 tab k).2) (i := 3) (it := .seq (.v 0)) (c := none) (e := .cmp .isin (.v 3) (.v 1)) (ρ := [.fz (.str l), .fz (.str S), .fz (.int m), .un]) (ρ1 := [.fz (.str l), .fz (.str S), .fz (.int m), .un]) (xs := l.map fun c => .str [c]) (s := .un)
      (g := fun v => match v with | .str [c] => some (.bl (S.contains c)) | _ => none) (by simp [evIt, itemsF, evE.eq_1, evE.eq_2, evE.eq_3, evE.eq_4, evE.eq_5, evE.eq_6, evE.eq_7, evE.eq_8, evE.eq_9, evE.eq_10, evE.eq_11, evE.eq_12, evE.eq_13, evE.eq_14, evE.eq_15, evE.eq_16, evE.eq_17, evE.eq_18, evE.eq_19, evE.eq_20, evE.eq_21, evE.eq_25, evE.eq_26, evE.eq_27, evE.eq_28, evE.eq_31, evSs, evS, evOp, evC, evEs, opnd, Opd.val, Slot.val, slotAt, fixv, isiV, isiF, typ, asBool, cmpF, endF, keptIo, lift, pur, bltF, len, eqF, assn, assns]) (by simpa using hl) rfl (fun _ z => by cases z) (fun x hx => by
        obtain ⟨c, _, rfl⟩ := List.mem_map.mp hx
        simp [lcF, inF, evE.eq_1, evE.eq_2, evE.eq_3, evE.eq_4, evE.eq_5, evE.eq_6, evE.eq_7, evE.eq_8, evE.eq_9, evE.eq_10, evE.eq_11, evE.eq_12, evE.eq_13, evE.eq_14, evE.eq_15, evE.eq_16, evE.eq_17, evE.eq_18, evE.eq_19, evE.eq_20, evE.eq_21, evE.eq_25, evE.eq_26, evE.eq_27, evE.eq_28, evE.eq_31, evSs, evS, evOp, evC, evEs, opnd, Opd.val, Slot.val, slotAt, fixv, isiV, isiF, typ, asBool, cmpF, endF, keptIo, lift, pur, bltF, len, eqF, assn, assns])
    rw [this]
    congr 3
    rw [List.filterMap_map]
    simp [Function.comp_def]
  by_cases h : (l.length : Int) ≤ m
  · simp [ir_is_word_of, evE.eq_1, evE.eq_2, evE.eq_3, evE.eq_4, evE.eq_5, evE.eq_6, evE.eq_7, evE.eq_8, evE.eq_9, evE.eq_10, evE.eq_11, evE.eq_12, evE.eq_13, evE.eq_14, evE.eq_15, evE.eq_16, evE.eq_17, evE.eq_18, evE.eq_19, evE.eq_20, evE.eq_21, evE.eq_25, evE.eq_26, evE.eq_27, evE.eq_28, evE.eq_31, evSs, evS, evOp, evC, evEs, opnd, Opd.val, Slot.val, slotAt, fixv, isiV, isiF, typ, asBool, cmpF, endF, keptIo, lift, pur, bltF, len, eqF, assn, assns, h, hl, hlc, allB_map]
  · simp [ir_is_word_of, evE.eq_1, evE.eq_2, evE.eq_3, evE.eq_4, evE.eq_5, evE.eq_6, evE.eq_7, evE.eq_8, evE.eq_9, evE.eq_10, evE.eq_11, evE.eq_12, evE.eq_13, evE.eq_14, evE.eq_15, evE.eq_16, evE.eq_17, evE.eq_18, evE.eq_19, evE.eq_20, evE.eq_21, evE.eq_25, evE.eq_26, evE.eq_27, evE.eq_28, evE.eq_31, evSs, evS, evOp, evC, evEs, opnd, Opd.val, Slot.val, slotAt, fixv, isiV, isiF, typ, asBool, cmpF, endF, keptIo, lift, pur, bltF, len, eqF, assn, assns, h, hl]
theorem shp_int (i : Int) : shp (.int i) = true := rfl
theorem eqF_int (a b : Int) : eqF (.int a) (.int b) = some (a == b) := by
  unfold eqF
  rw [shp_int, shp_int]
  rfl
theorem q_is_tuple_of (k : Nat) (vs : List Val) (m : Int) : evF tab (k + 1) "is_tuple_of" [.fz (.tup vs), .fz (.int m)] = some (.ok (.fz (.bl (decide ((vs.length : Int) = m)))) [.fz (.tup vs), .fz (.int m)]) := by
  rw [evF_succ, run_def fn_is_tuple_of (tab_ext _) rfl]
  simp [ir_is_tuple_of, evE.eq_1, evE.eq_2, evE.eq_3, evE.eq_4, evE.eq_5, evE.eq_6, evE.eq_7, evE.eq_8, evE.eq_9, evE.eq_10, evE.eq_11, evE.eq_12, evE.eq_13, evE.eq_14, evE.eq_15, evE.eq_16, evE.eq_17, evE.eq_18, evE.eq_19, evE.eq_20, evE.eq_21, evE.eq_25, evE.eq_26, evE.eq_27, evE.eq_28, evE.eq_31, evSs, evS, evOp, evC, evEs, opnd, Opd.val, Slot.val, slotAt, fixv, isiV, isiF, typ, asBool, cmpF, endF, keptIo, lift, pur, bltF, len, assn, assns, eqF_int]
  rfl
theorem q_check_machine (k : Nat) (fs : List (String × Val)) : evF tab (k + 1) "check_machine" [.fz (.obj "Machine" fs)] = some (.ok (.fz .non) [.fz (.obj "Machine" fs)]) := by
  rw [evF_succ, run_def fn_check_machine (tab_ext _) rfl]
  have h : tab.isc "Machine" = true := by kernel_rfl
  simp [ir_check_machine, evE.eq_1, evE.eq_2, evE.eq_3, evE.eq_4, evE.eq_5, evE.eq_6, evE.eq_7, evE.eq_8, evE.eq_9, evE.eq_10, evE.eq_11, evE.eq_12, evE.eq_13, evE.eq_14, evE.eq_15, evE.eq_16, evE.eq_17, evE.eq_18, evE.eq_19, evE.eq_20, evE.eq_21, evE.eq_25, evE.eq_26, evE.eq_27, evE.eq_28, evE.eq_31, evSs, evS, evOp, evC, evEs, opnd, Opd.val, Slot.val, slotAt, fixv, isiV, isiF, typ, asBool, cmpF, endF, keptIo, lift, pur, bltF, len, eqF, assn, assns, h]
end EV
namespace EV
theorem q_take_pos (k : Nat) (g m t n : Int) (hg : 0 < g) (hn : 0 < n) (hn2 : n < 1073741824) : evF tab (k + 1) "_law_take" [.ow (.lst [.int g, .int m, .int t]), .fz (.int n)] = some (.ok (.fz (.int (g % n))) [.ow (.lst [.int (g / n), .int m, .int t]), .fz (.int n)]) := by
  rw [evF_succ, run_def fn__law_take (tab_ext _) rfl]
  simp [ir__law_take, evE.eq_1, evE.eq_2, evE.eq_3, evE.eq_4, evE.eq_5, evE.eq_6, evE.eq_7, evE.eq_8, evE.eq_9, evE.eq_10, evE.eq_11, evE.eq_12, evE.eq_13, evE.eq_14, evE.eq_15, evE.eq_16, evE.eq_17, evE.eq_18, evE.eq_19, evE.eq_20, evE.eq_21, evE.eq_25, evE.eq_26, evE.eq_27, evE.eq_28, evE.eq_31, evSs, evS, evOp, evC, evEs, opnd, Opd.val, Slot.val, slotAt, fixv, isiV, isiF, typ, asBool, cmpF, endF, keptIo, lift, pur, bltF, len, eqF, assn, assns, idxF, ixN, hg, hn, hn2, ownAt, setF]
theorem q_take_non (k : Nat) (g m t n : Int) (hg : g ≤ 0) (hn : 0 < n) (hn2 : n < 1073741824) : evF tab (k + 1) "_law_take" [.ow (.lst [.int g, .int m, .int t]), .fz (.int n)] = some (.ok (.fz (.int ((m * 40099 + 22003 * (t + 1)) % 2147483489 / 1024 % n))) [.ow (.lst [.int g, .int ((m * 40099 + 22003 * (t + 1)) % 2147483489), .int (t + 1)]), .fz (.int n)]) := by
  rw [evF_succ, run_def fn__law_take (tab_ext _) rfl]
  have h : ¬ 0 < g := by omega
  have s1 : small 40099 = true := by decide
  have s2 : small 22003 = true := by decide
  simp [ir__law_take, evE.eq_1, evE.eq_2, evE.eq_3, evE.eq_4, evE.eq_5, evE.eq_6, evE.eq_7, evE.eq_8, evE.eq_9, evE.eq_10, evE.eq_11, evE.eq_12, evE.eq_13, evE.eq_14, evE.eq_15, evE.eq_16, evE.eq_17, evE.eq_18, evE.eq_19, evE.eq_20, evE.eq_21, evE.eq_25, evE.eq_26, evE.eq_27, evE.eq_28, evE.eq_31, evSs, evS, evOp, evC, evEs, opnd, Opd.val, Slot.val, slotAt, fixv, isiV, isiF, typ, asBool, cmpF, endF, keptIo, lift, pur, bltF, len, eqF, assn, assns, idxF, ixN, h, hn, hn2, ownAt, setF, binF, s1, s2]
/-- a bag: its three numbers -/
def bagV (b : Int × Int × Int) : Val := .lst [.int b.1, .int b.2.1, .int b.2.2]
/-- a draw: the number and the bag behind it -/
def draw (b : Int × Int × Int) (n : Int) : Int × (Int × Int × Int) :=
  if 0 < b.1 then (b.1 % n, (b.1 / n, b.2.1, b.2.2)) else
    ((b.2.1 * 40099 + 22003 * (b.2.2 + 1)) % 2147483489 / 1024 % n, (b.1, (b.2.1 * 40099 + 22003 * (b.2.2 + 1)) % 2147483489, b.2.2 + 1))
theorem q_take (k : Nat) (b : Int × Int × Int) (n : Int) (hn : 0 < n) (hn2 : n < 1073741824) : evF tab (k + 1) "_law_take" [.ow (bagV b), .fz (.int n)] = some (.ok (.fz (.int (draw b n).1)) [.ow (bagV (draw b n).2), .fz (.int n)]) := by
  unfold draw bagV
  by_cases h : 0 < b.1
  · rw [if_pos h]; exact q_take_pos k _ _ _ n h hn hn2
  · rw [if_neg h]; exact q_take_non k _ _ _ n (by omega) hn hn2
theorem draw_lt {b : Int × Int × Int} {n : Int} (hn : 0 < n) : 0 ≤ (draw b n).1 ∧ (draw b n).1 < n := by
  unfold draw
  split
  · exact ⟨Int.emod_nonneg _ (by omega), Int.emod_lt_of_pos _ hn⟩
  · exact ⟨Int.emod_nonneg _ (by omega), Int.emod_lt_of_pos _ hn⟩
/-- a call of a def with an in-out place and plain values -/
theorem ev_call {T : Tab} {cal mkc : Cal} {f : String} {d : Def} {es : List Ex} {ρ ρ1 : Ro} {as : List Arg} (hd : T.fn f = some d) (ha : evAs T cal mkc d.io es ρ = some (.ok as ρ1)) : evE T cal mkc (.call f es []) ρ = callF cal d.ps f [] as ρ1 := by
  simp only [evE, hd, ha, bnd_ok]
def sgn (i : Int) : List Nat := (["ab", "a", "abc", "xz", "q", "mno", "ab", "hy"].map asStr).getD i.toNat []
theorem q_signs (k : Nat) (b : Int × Int × Int) : evF tab (k + 2) "_law_signs" [.ow (bagV b)] = some (.ok (.fz (.str (sgn (draw b 8).1))) [.ow (bagV (draw b 8).2)]) := by
  rw [evF_succ, run_def fn__law_signs (tab_ext _) rfl]
  have h := draw_lt (b := b) (n := 8) (by omega)
  have hc : evE tab (evF tab (k + 1)) (ev2 tab (k + 1)).2 (.call "_law_take" [.v 0, .int 8] []) [.ow (bagV b)] = some (.ok (.fz (.int (draw b 8).1)) [.ow (bagV (draw b 8).2)]) := by
    rw [ev_call (as := [.io 0, .va (.int 8)]) (ρ1 := [.ow (bagV b)]) fn__law_take (by simp [ir__law_take, evAs, argOf, ownAt, Arg.isN, evE.eq_1, evE.eq_2, evE.eq_3, evE.eq_4, evE.eq_5, evE.eq_6, evE.eq_7, evE.eq_8, evE.eq_9, evE.eq_10, evE.eq_11, evE.eq_12, evE.eq_13, evE.eq_14, evE.eq_15, evE.eq_16, evE.eq_17, evE.eq_18, evE.eq_19, evE.eq_20, evE.eq_21, evE.eq_25, evE.eq_26, evE.eq_27, evE.eq_28, evE.eq_31, evSs, evS, evOp, evC, evEs, opnd, Opd.val, Slot.val, slotAt, fixv, isiV, isiF, typ, asBool, cmpF, endF, keptIo, lift, pur, bltF, len, eqF, assn, assns])]
    simp [callF, ioNd, Arg.isAt, Arg.slot, order, q_take k b 8 (by omega) (by omega), finish, putBack]
  have e : evSs tab (evF tab (k + 1)) (ev2 tab (k + 1)).2 ir__law_signs.body [.ow (bagV b)] = some (.ok (.rt (.fz (.str (sgn (draw b 8).1)))) [.ow (bagV (draw b 8).2)]) := by
    have : (draw b 8).1 = 0 ∨ (draw b 8).1 = 1 ∨ (draw b 8).1 = 2 ∨ (draw b 8).1 = 3 ∨ (draw b 8).1 = 4 ∨ (draw b 8).1 = 5 ∨ (draw b 8).1 = 6 ∨ (draw b 8).1 = 7 := by omega
    rcases this with hi | hi | hi | hi | hi | hi | hi | hi <;> simp [ir__law_signs, evE.eq_1, evE.eq_2, evE.eq_3, evE.eq_4, evE.eq_5, evE.eq_6, evE.eq_7, evE.eq_8, evE.eq_9, evE.eq_10, evE.eq_11, evE.eq_12, evE.eq_13, evE.eq_14, evE.eq_15, evE.eq_16, evE.eq_17, evE.eq_18, evE.eq_19, evE.eq_20, evE.eq_21, evE.eq_25, evE.eq_26, evE.eq_27, evE.eq_28, evE.eq_31, evSs, evS, evOp, evC, evEs, opnd, Opd.val, Slot.val, slotAt, fixv, isiV, isiF, typ, asBool, cmpF, endF, keptIo, lift, pur, bltF, len, eqF, assn, assns, hc, hi, idxF, ixN, sgn, cap]
  show endF _ _ (evSs tab (evF tab (k + 1)) (ev2 tab (k + 1)).2 ir__law_signs.body [.ow (bagV b)]) = _
  rw [e]
  simp [endF, keptIo, ir__law_signs]
theorem cut_len {α : Type} (xs : List α) (lo hi : Option Int) : (cut xs lo hi).length ≤ xs.length := by
  unfold cut
  rw [List.length_take, List.length_drop]
  omega
theorem q_bag (k : Nat) (ns : List Int) (t : Nat) (h : ns.length ≤ 63) : ∃ b, evF tab (k + 1) "_law_bag" [.fz (.scr ns), .fz (.int (t : Nat))] = some (.ok (.ow (bagV b)) [.fz (.scr ns), .fz (.int (t : Nat))]) := by
  rw [evF_succ, run_def fn__law_bag (tab_ext _) rfl]
  have s1 : small 29 = true := by decide
  have s2 : small 34019 = true := by decide
  have s3 : small 43051 = true := by decide
  obtain ⟨g, hg⟩ : ∃ g : Int, evE tab (evF tab k) (ev2 tab k).2 (.ite (.cmp .lt (.v 1) (.blt .len [.v 0])) (.idx (.v 0) (.v 1)) (.bin .add (.bin .mul (.int 29) (.v 1)) (.int 8))) [.fz (.scr ns), .fz (.int (t : Nat)), .un, .un, .un] = some (.ok (.fz (.int g)) [.fz (.scr ns), .fz (.int (t : Nat)), .un, .un, .un]) := by
    by_cases ht : t < ns.length
    · refine ⟨ns[t], ?_⟩
      simp [evE.eq_1, evE.eq_2, evE.eq_3, evE.eq_4, evE.eq_5, evE.eq_6, evE.eq_7, evE.eq_8, evE.eq_9, evE.eq_10, evE.eq_11, evE.eq_12, evE.eq_13, evE.eq_14, evE.eq_15, evE.eq_16, evE.eq_17, evE.eq_18, evE.eq_19, evE.eq_20, evE.eq_21, evE.eq_25, evE.eq_26, evE.eq_27, evE.eq_28, evE.eq_31, evSs, evS, evOp, evC, evEs, opnd, Opd.val, Slot.val, slotAt, fixv, isiV, isiF, typ, asBool, cmpF, endF, keptIo, lift, pur, bltF, len, eqF, assn, assns, ht, idxF, ixN]
    · refine ⟨29 * (t : Nat) + 8, ?_⟩
      simp [evE.eq_1, evE.eq_2, evE.eq_3, evE.eq_4, evE.eq_5, evE.eq_6, evE.eq_7, evE.eq_8, evE.eq_9, evE.eq_10, evE.eq_11, evE.eq_12, evE.eq_13, evE.eq_14, evE.eq_15, evE.eq_16, evE.eq_17, evE.eq_18, evE.eq_19, evE.eq_20, evE.eq_21, evE.eq_25, evE.eq_26, evE.eq_27, evE.eq_28, evE.eq_31, evSs, evS, evOp, evC, evEs, opnd, Opd.val, Slot.val, slotAt, fixv, isiV, isiF, typ, asBool, cmpF, endF, keptIo, lift, pur, bltF, len, eqF, assn, assns, ht, binF, s1]
  have hit : ∀ m0 : Int, evIt tab (evF tab k) (ev2 tab k).2 (.seq (.bin .add (.lst [.v 2]) (.slc (.v 0) none (some (.int 6))))) [.fz (.scr ns), .fz (.int (t : Nat)), .fz (.int g), .fz (.int m0), .un] = some (.ok ((g :: cut ns none (some 6)).map .int) [.fz (.scr ns), .fz (.int (t : Nat)), .fz (.int g), .fz (.int m0), .un]) := by
    intro m0
    have hc := cut_len ns none (some 6)
    have hb : (cut ns none (some 6)).length ≤ 999999 := by omega
    simp [evIt, itemsF, evE.eq_1, evE.eq_2, evE.eq_3, evE.eq_4, evE.eq_5, evE.eq_6, evE.eq_7, evE.eq_8, evE.eq_9, evE.eq_10, evE.eq_11, evE.eq_12, evE.eq_13, evE.eq_14, evE.eq_15, evE.eq_16, evE.eq_17, evE.eq_18, evE.eq_19, evE.eq_20, evE.eq_21, evE.eq_25, evE.eq_26, evE.eq_27, evE.eq_28, evE.eq_31, evSs, evS, evOp, evC, evEs, opnd, Opd.val, Slot.val, slotAt, fixv, isiV, isiF, typ, asBool, cmpF, endF, keptIo, lift, pur, bltF, len, eqF, assn, assns, slcF, binF, cap]
    rw [if_pos (by omega)]
    simp
  have loop : ∀ m0 : Int, ∃ (m : Int) (s : Slot), evS tab (evF tab k) (ev2 tab k).2 (.for_ (.nm 4) (.seq (.bin .add (.lst [.v 2]) (.slc (.v 0) none (some (.int 6))))) [.asg (.nm 3) (.bin .mod (.blt .int [.bin .add (.bin .mul (.v 3) (.int 43051)) (.v 4)]) (.int 2147483489))]) [.fz (.scr ns), .fz (.int (t : Nat)), .fz (.int g), .fz (.int m0), .un] = some (.ok .nx [.fz (.scr ns), .fz (.int (t : Nat)), .fz (.int g), .fz (.int m), s]) := by
    intro m0
    obtain ⟨ρ', h1, m, s, rfl⟩ := forF_inv (body := evSs tab (evF tab k) (ev2 tab k).2 [.asg (.nm 3) (.bin .mod (.blt .int [.bin .add (.bin .mul (.v 3) (.int 43051)) (.v 4)]) (.int 2147483489))]) (t := .nm 4) (fun _ ρ => ∃ (m : Int) (s : Slot), ρ = [.fz (.scr ns), .fz (.int (t : Nat)), .fz (.int g), .fz (.int m), s]) ((g :: cut ns none (some 6)).map .int) 0 [.fz (.scr ns), .fz (.int (t : Nat)), .fz (.int g), .fz (.int m0), .un] ⟨m0, .un, rfl⟩ (fun n x ρ hx hI => by
      obtain ⟨m, s, rfl⟩ := hI
      rw [List.getElem?_map] at hx
      obtain ⟨i, _, rfl⟩ := Option.map_eq_some_iff.mp hx
      refine ⟨_, [.fz (.scr ns), .fz (.int (t : Nat)), .fz (.int g), .fz (.int ((m * 43051 + i) % 2147483489)), .fz (.int i)], rfl, ?_, (m * 43051 + i) % 2147483489, .fz (.int i), rfl⟩
      simp [evE.eq_1, evE.eq_2, evE.eq_3, evE.eq_4, evE.eq_5, evE.eq_6, evE.eq_7, evE.eq_8, evE.eq_9, evE.eq_10, evE.eq_11, evE.eq_12, evE.eq_13, evE.eq_14, evE.eq_15, evE.eq_16, evE.eq_17, evE.eq_18, evE.eq_19, evE.eq_20, evE.eq_21, evE.eq_25, evE.eq_26, evE.eq_27, evE.eq_28, evE.eq_31, evSs, evS, evOp, evC, evEs, opnd, Opd.val, Slot.val, slotAt, fixv, isiV, isiF, typ, asBool, cmpF, endF, keptIo, lift, pur, bltF, len, eqF, assn, assns, binF, s3])
    refine ⟨m, s, ?_⟩
    simp only [evS, hit, bnd_ok]
    rw [if_pos, h1]
    have hc := cut_len ns none (some 6)
    unfold cap
    simp
    omega
  obtain ⟨m, s, hl⟩ := loop (86028121 + 34019 * (t : Nat))
  refine ⟨(if 10 ^ 18 ≤ (if g < 0 then -g else g) then (if g < 0 then -g else g) else 0, m, 0), ?_⟩
  have e : evSs tab (evF tab k) (ev2 tab k).2 ir__law_bag.body [.fz (.scr ns), .fz (.int (t : Nat)), .un, .un, .un] = some (.ok (.rt (.ow (bagV (if 10 ^ 18 ≤ (if g < 0 then -g else g) then (if g < 0 then -g else g) else 0, m, 0)))) [.fz (.scr ns), .fz (.int (t : Nat)), .fz (.int g), .fz (.int m), s]) := by
    have st1 : evS tab (evF tab k) (ev2 tab k).2 (.asg (.nm 3) (.bin .add (.int 86028121) (.bin .mul (.int 34019) (.v 1)))) [.fz (.scr ns), .fz (.int (t : Nat)), .fz (.int g), .un, .un] = some (.ok .nx [.fz (.scr ns), .fz (.int (t : Nat)), .fz (.int g), .fz (.int (86028121 + 34019 * (t : Nat))), .un]) := by
      simp [evE.eq_1, evE.eq_2, evE.eq_3, evE.eq_4, evE.eq_5, evE.eq_6, evE.eq_7, evE.eq_8, evE.eq_9, evE.eq_10, evE.eq_11, evE.eq_12, evE.eq_13, evE.eq_14, evE.eq_15, evE.eq_16, evE.eq_17, evE.eq_18, evE.eq_19, evE.eq_20, evE.eq_21, evE.eq_25, evE.eq_26, evE.eq_27, evE.eq_28, evE.eq_31, evSs, evS, evOp, evC, evEs, opnd, Opd.val, Slot.val, slotAt, fixv, isiV, isiF, typ, asBool, cmpF, endF, keptIo, lift, pur, bltF, len, eqF, assn, assns, binF, s2]
    have st0 : evS tab (evF tab k) (ev2 tab k).2 (.asg (.nm 2) (.ite (.cmp .lt (.v 1) (.blt .len [.v 0])) (.idx (.v 0) (.v 1)) (.bin .add (.bin .mul (.int 29) (.v 1)) (.int 8)))) [.fz (.scr ns), .fz (.int (t : Nat)), .un, .un, .un] = some (.ok .nx [.fz (.scr ns), .fz (.int (t : Nat)), .fz (.int g), .un, .un]) := by
      simp only [evS, hg, bnd_ok]
      simp [assn, pur]
    have st3 : evS tab (evF tab k) (ev2 tab k).2 (.ret (.lst [.ite (.cmp .ge (.blt .abs [.v 2]) (.bin .pow (.int 10) (.int 18))) (.blt .abs [.v 2]) (.int 0), .v 3, .int 0])) [.fz (.scr ns), .fz (.int (t : Nat)), .fz (.int g), .fz (.int m), s] = some (.ok (.rt (.ow (bagV (if 10 ^ 18 ≤ (if g < 0 then -g else g) then (if g < 0 then -g else g) else 0, m, 0)))) [.fz (.scr ns), .fz (.int (t : Nat)), .fz (.int g), .fz (.int m), s]) := by
      by_cases hc : (1000000000000000000 : Int) ≤ (if g < 0 then -g else g)
      · simp [evE.eq_1, evE.eq_2, evE.eq_3, evE.eq_4, evE.eq_5, evE.eq_6, evE.eq_7, evE.eq_8, evE.eq_9, evE.eq_10, evE.eq_11, evE.eq_12, evE.eq_13, evE.eq_14, evE.eq_15, evE.eq_16, evE.eq_17, evE.eq_18, evE.eq_19, evE.eq_20, evE.eq_21, evE.eq_25, evE.eq_26, evE.eq_27, evE.eq_28, evE.eq_31, evSs, evS, evOp, evC, evEs, opnd, Opd.val, Slot.val, slotAt, fixv, isiV, isiF, typ, asBool, cmpF, endF, keptIo, lift, pur, bltF, len, eqF, assn, assns, binF, bagV, cap, hc]
      · simp [evE.eq_1, evE.eq_2, evE.eq_3, evE.eq_4, evE.eq_5, evE.eq_6, evE.eq_7, evE.eq_8, evE.eq_9, evE.eq_10, evE.eq_11, evE.eq_12, evE.eq_13, evE.eq_14, evE.eq_15, evE.eq_16, evE.eq_17, evE.eq_18, evE.eq_19, evE.eq_20, evE.eq_21, evE.eq_25, evE.eq_26, evE.eq_27, evE.eq_28, evE.eq_31, evSs, evS, evOp, evC, evEs, opnd, Opd.val, Slot.val, slotAt, fixv, isiV, isiF, typ, asBool, cmpF, endF, keptIo, lift, pur, bltF, len, eqF, assn, assns, binF, bagV, cap, hc]
    simp only [ir__law_bag, evSs, st0, st1, hl, st3, bnd_ok, pur]
  show endF _ _ (evSs tab (evF tab k) (ev2 tab k).2 ir__law_bag.body [.fz (.scr ns), .fz (.int (t : Nat)), .un, .un, .un]) = _
  rw [e]
  simp [endF, keptIo, ir__law_bag]
end EV
namespace EV
theorem q_is_state (k : Nat) (c : Int) (ts : List Int) (l : List Nat) (n : Int) (hts : ts.length ≤ cap) (hl : l.length ≤ cap) :
    evF tab (k + 2) "is_state" [.fz (.tup [.int c, .tup (ts.map .int)]), .fz (.str l), .fz (.int n)] = some (.ok (.fz (.bl ((decide (0 ≤ c) && decide (c ≤ 6)) && (decide ((ts.length : Int) = l.length) && ts.all fun t => decide (0 ≤ t) && decide (t ≤ n - 1))))) [.fz (.tup [.int c, .tup (ts.map .int)]), .fz (.str l), .fz (.int n)]) := by
  rw [evF_succ, run_def fn_is_state (tab_ext _) rfl]
  have hlc : evE tab (evF tab (k + 1)) (ev2 tab (k + 1)).2 (.lc [3] (.nm 3) (.seq (.idx (.v 0) (.int 1))) none (.call "is_integer" [.v 3, .int 0, .bin .sub (.v 2) (.int 1)] [])) [.fz (.tup [.int c, .tup (ts.map .int)]), .fz (.str l), .fz (.int n), .un] = some (.ok (.ow (.lst (ts.map fun t => .bl (decide (0 ≤ t) && decide (t ≤ n - 1))))) [.fz (.tup [.int c, .tup (ts.map .int)]), .fz (.str l), .fz (.int n), .un]) := by
    have := ev_lc1 (T := tab) (cal := evF tab (k + 1)) (mkc := (ev2 tab (k + 1)).2) (i := 3) (it := .seq (.idx (.v 0) (.int 1))) (c := none) (e := .call "is_integer" [.v 3, .int 0, .bin .sub (.v 2) (.int 1)] []) (ρ := [.fz (.tup [.int c, .tup (ts.map .int)]), .fz (.str l), .fz (.int n), .un]) (ρ1 := [.fz (.tup [.int c, .tup (ts.map .int)]), .fz (.str l), .fz (.int n), .un]) (xs := ts.map .int) (s := .un)
      (g := fun v => match v with | .int t => some (.bl (decide (0 ≤ t) && decide (t ≤ n - 1))) | _ => none) (by simp [evIt, itemsF, evE.eq_1, evE.eq_2, evE.eq_3, evE.eq_4, evE.eq_5, evE.eq_6, evE.eq_7, evE.eq_8, evE.eq_9, evE.eq_10, evE.eq_11, evE.eq_12, evE.eq_13, evE.eq_14, evE.eq_15, evE.eq_16, evE.eq_17, evE.eq_18, evE.eq_19, evE.eq_20, evE.eq_21, evE.eq_25, evE.eq_26, evE.eq_27, evE.eq_28, evE.eq_31, evSs, evS, evOp, evC, evEs, opnd, Opd.val, Slot.val, slotAt, fixv, isiV, isiF, typ, asBool, cmpF, endF, keptIo, lift, pur, bltF, len, assn, assns, evE.eq_22, evAs, argOf, callF, ioNd, order, finish, putBack, Arg.slot, Arg.isN, Arg.isAt, Arg.isV, ownAt, newArg, idxF, ixN, binF]) (by simpa using hts) rfl (fun _ z => by cases z) (fun x hx => by
        obtain ⟨t, _, rfl⟩ := List.mem_map.mp hx
        simp [lcF, evE.eq_1, evE.eq_2, evE.eq_3, evE.eq_4, evE.eq_5, evE.eq_6, evE.eq_7, evE.eq_8, evE.eq_9, evE.eq_10, evE.eq_11, evE.eq_12, evE.eq_13, evE.eq_14, evE.eq_15, evE.eq_16, evE.eq_17, evE.eq_18, evE.eq_19, evE.eq_20, evE.eq_21, evE.eq_25, evE.eq_26, evE.eq_27, evE.eq_28, evE.eq_31, evSs, evS, evOp, evC, evEs, opnd, Opd.val, Slot.val, slotAt, fixv, isiV, isiF, typ, asBool, cmpF, endF, keptIo, lift, pur, bltF, len, assn, assns, evE.eq_22, evAs, argOf, callF, ioNd, order, finish, putBack, Arg.slot, Arg.isN, Arg.isAt, Arg.isV, ownAt, newArg, idxF, ixN, binF, fn_is_integer, ir_is_integer, q_is_integer])
    rw [this]
    congr 3
    rw [List.filterMap_map]
    simp [Function.comp_def]
  have hmc : tab.cst "MOST_COLOUR" = some (.int 6) := tc_MOST_COLOUR
  by_cases h1 : 0 ≤ c <;> by_cases h2 : c ≤ 6 <;> by_cases h3 : (ts.length : Int) = l.length <;> simp [ir_is_state, evE.eq_1, evE.eq_2, evE.eq_3, evE.eq_4, evE.eq_5, evE.eq_6, evE.eq_7, evE.eq_8, evE.eq_9, evE.eq_10, evE.eq_11, evE.eq_12, evE.eq_13, evE.eq_14, evE.eq_15, evE.eq_16, evE.eq_17, evE.eq_18, evE.eq_19, evE.eq_20, evE.eq_21, evE.eq_25, evE.eq_26, evE.eq_27, evE.eq_28, evE.eq_31, evSs, evS, evOp, evC, evEs, opnd, Opd.val, Slot.val, slotAt, fixv, isiV, isiF, typ, asBool, cmpF, endF, keptIo, lift, pur, bltF, len, assn, assns, evE.eq_22, evAs, argOf, callF, ioNd, order, finish, putBack, Arg.slot, Arg.isN, Arg.isAt, Arg.isV, ownAt, newArg, idxF, ixN, binF, fn_is_integer, ir_is_integer, q_is_integer, fn_is_tuple_of, ir_is_tuple_of, q_is_tuple_of, hmc, hlc, hl, h1, h2, h3, allB_map]
/-! machines -/
abbrev RowI := Int × List Int
def rowV (r : RowI) : Val := .tup [.int r.1, .tup (r.2.map .int)]
def rowsV (R : List RowI) : Val := .tup (R.map rowV)
def machV (l : List Nat) (R : List RowI) : Val := .obj "Machine" [("held_letters", .str l), ("held_states", rowsV R)]
structure GoodM (l : List Nat) (R : List RowI) : Prop where
  one : R ≠ []
  six : R.length ≤ 6
  let_ : l.length ≤ 3
  row : ∀ r ∈ R, 0 ≤ r.1 ∧ r.1 ≤ 6 ∧ r.2.length = l.length ∧ ∀ t ∈ r.2, 0 ≤ t ∧ t < R.length
theorem q_state_ok (k : Nat) {l : List Nat} {R : List RowI} (G : GoodM l R) {r : RowI} (hr : r ∈ R) : evF tab (k + 2) "is_state" [.fz (rowV r), .fz (.str l), .fz (.int (R.length : Nat))] = some (.ok (.fz (.bl true)) [.fz (rowV r), .fz (.str l), .fz (.int (R.length : Nat))]) := by
  obtain ⟨h1, h2, h3, h4⟩ := G.row r hr
  have hl := G.let_
  have := q_is_state k r.1 r.2 l (R.length : Nat) (by unfold cap; omega) (by unfold cap; omega)
  unfold rowV
  rw [this]
  have ha : (r.2.all fun t => decide (0 ≤ t) && decide (t ≤ (R.length : Int) - 1)) = true := by
    rw [List.all_eq_true]
    intro t ht
    have := h4 t ht
    simp only [Bool.and_eq_true, decide_eq_true_eq]
    omega
  rw [ha]
  simp [h1, h2, h3]
theorem q_init (k : Nat) {l : List Nat} {R : List RowI} (G : GoodM l R) (hA : evF tab (k + 2) "are_letters" [.fz (.str l)] = some (.ok (.fz (.bl true)) [.fz (.str l)])) :
    evF tab (k + 3) "Machine.__init__" [.ow (.obj "Machine" []), .fz (.str l), .fz (rowsV R)] = some (.ok (.fz .non) [.ow (machV l R), .fz (.str l), .fz (rowsV R)]) := by
  rw [evF_succ, run_def fn_Machine___init__ (tab_ext _) rfl]
  have hms : tab.cst "MOST_STATES" = some (.int 6) := tc_MOST_STATES
  have f1 : tab.fld "Machine" "held_letters" = true := by kernel_rfl
  have f2 : tab.fld "Machine" "held_states" = true := by kernel_rfl
  have h0 : ¬ (R.length = 0) := fun z => G.one (List.length_eq_zero_iff.mp z)
  have hsix := G.six
  obtain ⟨ρ', h1, a, b, rfl⟩ := forF_inv (body := evSs tab (evF tab (k + 2)) (ev2 tab (k + 2)).2 [.ife (.or (.cmp .eq (.v 3) (.g "MOST_STATES")) (.nt (.call "is_state" [.v 4, .v 1, .blt .len [.v 2]] []))) [.rai "" [] false] []]) (t := .tp [.nm 3, .nm 4]) (fun _ ρ => ∃ (a b : Slot), ρ = [.ow (.obj "Machine" []), .fz (.str l), .fz (rowsV R), a, b]) (enumL 0 (R.map rowV)) 0 [.ow (.obj "Machine" []), .fz (.str l), .fz (rowsV R), .un, .un] ⟨.un, .un, rfl⟩ (fun n x ρ hx hI => by
    obtain ⟨a, b, rfl⟩ := hI
    rw [enumL_get, List.getElem?_map] at hx
    cases hr : R[n]? with
    | none => rw [hr] at hx; cases hx
    | some r =>
      rw [hr] at hx
      cases hx
      have hm := List.mem_of_getElem? hr
      have hn : n < R.length := (List.getElem?_eq_some_iff.mp hr).1
      refine ⟨_, _, rfl, ?_, .fz (.int ((0 + n : Nat) : Int)), .fz (rowV r), rfl⟩
      have hq := q_state_ok k G hm
      have hne : ¬ ((n : Int) = 6) := by omega
      simp [evE.eq_1, evE.eq_2, evE.eq_3, evE.eq_4, evE.eq_5, evE.eq_6, evE.eq_7, evE.eq_8, evE.eq_9, evE.eq_10, evE.eq_11, evE.eq_12, evE.eq_13, evE.eq_14, evE.eq_15, evE.eq_16, evE.eq_17, evE.eq_18, evE.eq_19, evE.eq_20, evE.eq_21, evE.eq_25, evE.eq_26, evE.eq_27, evE.eq_28, evE.eq_31, evSs, evS, evOp, evC, evEs, opnd, Opd.val, Slot.val, slotAt, fixv, isiV, isiF, typ, asBool, cmpF, endF, keptIo, lift, pur, bltF, len, assn, assns, evE.eq_22, evAs, argOf, callF, ioNd, order, finish, putBack, Arg.slot, Arg.isN, Arg.isAt, Arg.isV, ownAt, newArg, idxF, ixN, binF, hms, eqF_int, hne, fn_is_state, ir_is_state, rowsV, hq])
  have st3 : evS tab (evF tab (k + 2)) (ev2 tab (k + 2)).2 (.for_ (.tp [.nm 3, .nm 4]) (.enum (.v 2)) [.ife (.or (.cmp .eq (.v 3) (.g "MOST_STATES")) (.nt (.call "is_state" [.v 4, .v 1, .blt .len [.v 2]] []))) [.rai "" [] false] []]) [.ow (.obj "Machine" []), .fz (.str l), .fz (rowsV R), .un, .un] = some (.ok .nx [.ow (.obj "Machine" []), .fz (.str l), .fz (rowsV R), a, b]) := by
    have hit : evIt tab (evF tab (k + 2)) (ev2 tab (k + 2)).2 (.enum (.v 2)) [.ow (.obj "Machine" []), .fz (.str l), .fz (rowsV R), .un, .un] = some (.ok (enumL 0 (R.map rowV)) [.ow (.obj "Machine" []), .fz (.str l), .fz (rowsV R), .un, .un]) := by
      simp [evIt, seqOf, evE.eq_1, evE.eq_2, evE.eq_3, evE.eq_4, evE.eq_5, evE.eq_6, evE.eq_7, evE.eq_8, evE.eq_9, evE.eq_10, evE.eq_11, evE.eq_12, evE.eq_13, evE.eq_14, evE.eq_15, evE.eq_16, evE.eq_17, evE.eq_18, evE.eq_19, evE.eq_20, evE.eq_21, evE.eq_25, evE.eq_26, evE.eq_27, evE.eq_28, evE.eq_31, evSs, evS, evOp, evC, evEs, opnd, Opd.val, Slot.val, slotAt, fixv, isiV, isiF, typ, asBool, cmpF, endF, keptIo, lift, pur, bltF, len, assn, assns, evE.eq_22, evAs, argOf, callF, ioNd, order, finish, putBack, Arg.slot, Arg.isN, Arg.isAt, Arg.isV, ownAt, newArg, idxF, ixN, binF, rowsV]
    simp only [evS, hit, bnd_ok]
    rw [if_pos (by rw [enumL_len, List.length_map]; unfold cap; omega), h1]
  have st1 : evS tab (evF tab (k + 2)) (ev2 tab (k + 2)).2 (.ife (.nt (.call "are_letters" [.v 1] [])) [.rai "" [] false] []) [.ow (.obj "Machine" []), .fz (.str l), .fz (rowsV R), .un, .un] = some (.ok .nx [.ow (.obj "Machine" []), .fz (.str l), .fz (rowsV R), .un, .un]) := by
    simp [evE.eq_1, evE.eq_2, evE.eq_3, evE.eq_4, evE.eq_5, evE.eq_6, evE.eq_7, evE.eq_8, evE.eq_9, evE.eq_10, evE.eq_11, evE.eq_12, evE.eq_13, evE.eq_14, evE.eq_15, evE.eq_16, evE.eq_17, evE.eq_18, evE.eq_19, evE.eq_20, evE.eq_21, evE.eq_25, evE.eq_26, evE.eq_27, evE.eq_28, evE.eq_31, evSs, evS, evOp, evC, evEs, opnd, Opd.val, Slot.val, slotAt, fixv, isiV, isiF, typ, asBool, cmpF, endF, keptIo, lift, pur, bltF, len, assn, assns, evE.eq_22, evAs, argOf, callF, ioNd, order, finish, putBack, Arg.slot, Arg.isN, Arg.isAt, Arg.isV, ownAt, newArg, idxF, ixN, binF, fn_are_letters, ir_are_letters, hA]
  have st2 : evS tab (evF tab (k + 2)) (ev2 tab (k + 2)).2 (.ife (.or (.nt (.isi (.v 2) "tuple")) (.cmp .eq (.blt .len [.v 2]) (.int 0))) [.rai "" [] false] []) [.ow (.obj "Machine" []), .fz (.str l), .fz (rowsV R), .un, .un] = some (.ok .nx [.ow (.obj "Machine" []), .fz (.str l), .fz (rowsV R), .un, .un]) := by
    have hz : ¬ R = [] := G.one
    simp [evE.eq_1, evE.eq_2, evE.eq_3, evE.eq_4, evE.eq_5, evE.eq_6, evE.eq_7, evE.eq_8, evE.eq_9, evE.eq_10, evE.eq_11, evE.eq_12, evE.eq_13, evE.eq_14, evE.eq_15, evE.eq_16, evE.eq_17, evE.eq_18, evE.eq_19, evE.eq_20, evE.eq_21, evE.eq_25, evE.eq_26, evE.eq_27, evE.eq_28, evE.eq_31, evSs, evS, evOp, evC, evEs, opnd, Opd.val, Slot.val, slotAt, fixv, isiV, isiF, typ, asBool, cmpF, endF, keptIo, lift, pur, bltF, len, assn, assns, evE.eq_22, evAs, argOf, callF, ioNd, order, finish, putBack, Arg.slot, Arg.isN, Arg.isAt, Arg.isV, ownAt, newArg, idxF, ixN, binF, rowsV, eqF_int, hz]
  have st4 : evS tab (evF tab (k + 2)) (ev2 tab (k + 2)).2 (.setf 0 "held_letters" (.v 1)) [.ow (.obj "Machine" []), .fz (.str l), .fz (rowsV R), a, b] = some (.ok .nx [.ow (.obj "Machine" [("held_letters", .str l)]), .fz (.str l), .fz (rowsV R), a, b]) := by
    simp [evE.eq_1, evE.eq_2, evE.eq_3, evE.eq_4, evE.eq_5, evE.eq_6, evE.eq_7, evE.eq_8, evE.eq_9, evE.eq_10, evE.eq_11, evE.eq_12, evE.eq_13, evE.eq_14, evE.eq_15, evE.eq_16, evE.eq_17, evE.eq_18, evE.eq_19, evE.eq_20, evE.eq_21, evE.eq_25, evE.eq_26, evE.eq_27, evE.eq_28, evE.eq_31, evSs, evS, evOp, evC, evEs, opnd, Opd.val, Slot.val, slotAt, fixv, isiV, isiF, typ, asBool, cmpF, endF, keptIo, lift, pur, bltF, len, assn, assns, evE.eq_22, evAs, argOf, callF, ioNd, order, finish, putBack, Arg.slot, Arg.isN, Arg.isAt, Arg.isV, ownAt, newArg, idxF, ixN, binF, f1, putFs]
  have st5 : evS tab (evF tab (k + 2)) (ev2 tab (k + 2)).2 (.setf 0 "held_states" (.v 2)) [.ow (.obj "Machine" [("held_letters", .str l)]), .fz (.str l), .fz (rowsV R), a, b] = some (.ok .nx [.ow (machV l R), .fz (.str l), .fz (rowsV R), a, b]) := by
    simp [evE.eq_1, evE.eq_2, evE.eq_3, evE.eq_4, evE.eq_5, evE.eq_6, evE.eq_7, evE.eq_8, evE.eq_9, evE.eq_10, evE.eq_11, evE.eq_12, evE.eq_13, evE.eq_14, evE.eq_15, evE.eq_16, evE.eq_17, evE.eq_18, evE.eq_19, evE.eq_20, evE.eq_21, evE.eq_25, evE.eq_26, evE.eq_27, evE.eq_28, evE.eq_31, evSs, evS, evOp, evC, evEs, opnd, Opd.val, Slot.val, slotAt, fixv, isiV, isiF, typ, asBool, cmpF, endF, keptIo, lift, pur, bltF, len, assn, assns, evE.eq_22, evAs, argOf, callF, ioNd, order, finish, putBack, Arg.slot, Arg.isN, Arg.isAt, Arg.isV, ownAt, newArg, idxF, ixN, binF, f2, putFs, machV]
  have e : evSs tab (evF tab (k + 2)) (ev2 tab (k + 2)).2 ir_Machine___init__.body [.ow (.obj "Machine" []), .fz (.str l), .fz (rowsV R), .un, .un] = some (.ok .nx [.ow (machV l R), .fz (.str l), .fz (rowsV R), a, b]) := by
    simp only [ir_Machine___init__, evSs, st1, st2, st3, st4, st5, bnd_ok, pur]
  show endF _ _ (evSs tab (evF tab (k + 2)) (ev2 tab (k + 2)).2 ir_Machine___init__.body [.ow (.obj "Machine" []), .fz (.str l), .fz (rowsV R), .un, .un]) = _
  rw [e]
  simp [endF, keptIo, ir_Machine___init__]
end EV
namespace EV
open PySem
theorem q_let (k : Nat) (i : Int) (h0 : 0 ≤ i) (h8 : i < 8) : evF tab (k + 2) "are_letters" [.fz (.str (sgn i))] = some (.ok (.fz (.bl true)) [.fz (.str (sgn i))]) := by
  have : i = 0 ∨ i = 1 ∨ i = 2 ∨ i = 3 ∨ i = 4 ∨ i = 5 ∨ i = 6 ∨ i = 7 := by omega
  rcases this with rfl | rfl | rfl | rfl | rfl | rfl | rfl | rfl <;> kernel_rfl
theorem sgn_len (i : Int) (h0 : 0 ≤ i) (h8 : i < 8) : 1 ≤ (sgn i).length ∧ (sgn i).length ≤ 3 := by
  have : i = 0 ∨ i = 1 ∨ i = 2 ∨ i = 3 ∨ i = 4 ∨ i = 5 ∨ i = 6 ∨ i = 7 := by omega
  rcases this with rfl | rfl | rfl | rfl | rfl | rfl | rfl | rfl <;> decide +kernel
end EV
namespace EV
open PySem
abbrev tkC : Ex := .ite (.cmp .eq (.v 7) (.int 0)) (.v 6) (.call "_law_take" [.v 0, .v 3] [])
/-- the state in the rows' loop -/
def rRo (b : Int × Int × Int) (l : List Nat) (most many : Int) (fnd : List Val) (top at_ way col : Int) (s9 s10 : Slot) : Ro := [.ow (bagV b), .fz (.str l), .fz (.int most), .fz (.int many), .ow (.lst fnd), .fz (.int top), .fz (.int at_), .fz (.int way), .fz (.int col), s9, s10]
theorem q_goals (k : Nat) (b : Int × Int × Int) (l : List Nat) (most many : Int) (fnd : List Val) (top at_ way col : Int) (s9 s10 : Slot) (hs : ∀ v, s10 ≠ .ow v) (hm : 0 < many) (hm2 : many < 1000) (ha : 0 ≤ at_ ∧ at_ < many) (hl : l.length ≤ 3) :
    ∃ (b' : Int × Int × Int) (G : List Int), evE tab (evF tab (k + 1)) (ev2 tab (k + 1)).2 (.lc [10] (.nm 10) (.seq (.v 1)) none tkC) (rRo b l most many fnd top at_ way col s9 s10) = some (.ok (.ow (.lst (G.map .int))) (rRo b' l most many fnd top at_ way col s9 s10)) ∧ G.length = l.length ∧ ∀ t ∈ G, 0 ≤ t ∧ t < many := by
  have hit : evIt tab (evF tab (k + 1)) (ev2 tab (k + 1)).2 (.seq (.v 1)) (rRo b l most many fnd top at_ way col s9 s10) = some (.ok (l.map fun c => .str [c]) (rRo b l most many fnd top at_ way col s9 s10)) := by
    simp [evIt, itemsF, rRo, evE.eq_1, evE.eq_2, evE.eq_3, evE.eq_4, evE.eq_5, evE.eq_6, evE.eq_7, evE.eq_8, evE.eq_9, evE.eq_10, evE.eq_11, evE.eq_12, evE.eq_13, evE.eq_14, evE.eq_15, evE.eq_16, evE.eq_17, evE.eq_18, evE.eq_19, evE.eq_20, evE.eq_21, evE.eq_25, evE.eq_26, evE.eq_27, evE.eq_28, evE.eq_31, evSs, evS, evOp, evC, evEs, opnd, Opd.val, Slot.val, slotAt, fixv, isiV, isiF, typ, asBool, cmpF, endF, keptIo, lift, pur, bltF, len, assn, assns, evE.eq_22, evAs, argOf, callF, ioNd, order, finish, putBack, Arg.slot, Arg.isN, Arg.isAt, Arg.isV, ownAt, newArg, idxF, ixN, binF]
  obtain ⟨ys, ρ', h1, b', G, h2, h3, h4, h5⟩ := lc_inv (f := lcF tab (evF tab (k + 1)) (ev2 tab (k + 1)).2 none tkC) (t := .nm 10) (ns := [10]) (fun n ρ acc => ∃ (b' : Int × Int × Int) (G : List Int), ρ = rRo b' l most many fnd top at_ way col s9 .un ∧ acc = G.map .int ∧ G.length = n ∧ ∀ t ∈ G, 0 ≤ t ∧ t < many) (l.map fun c => .str [c]) 0 (rRo b l most many fnd top at_ way col s9 .un) [] ⟨b, [], rfl, rfl, rfl, by simp⟩ (fun n x ρ acc hx hI => by
    obtain ⟨b1, G, rfl, rfl, hG, hA⟩ := hI
    by_cases hw : way = 0
    · refine ⟨rRo b1 l most many fnd top at_ way col s9 (.fz x), some (.int at_), rRo b1 l most many fnd top at_ way col s9 (.fz x), rfl, ?_, b1, G ++ [at_], rfl, by simp, by simp; omega, ?_⟩
      · simp [lcF, tkC, rRo, evE.eq_1, evE.eq_2, evE.eq_3, evE.eq_4, evE.eq_5, evE.eq_6, evE.eq_7, evE.eq_8, evE.eq_9, evE.eq_10, evE.eq_11, evE.eq_12, evE.eq_13, evE.eq_14, evE.eq_15, evE.eq_16, evE.eq_17, evE.eq_18, evE.eq_19, evE.eq_20, evE.eq_21, evE.eq_25, evE.eq_26, evE.eq_27, evE.eq_28, evE.eq_31, evSs, evS, evOp, evC, evEs, opnd, Opd.val, Slot.val, slotAt, fixv, isiV, isiF, typ, asBool, cmpF, endF, keptIo, lift, pur, bltF, len, assn, assns, evE.eq_22, evAs, argOf, callF, ioNd, order, finish, putBack, Arg.slot, Arg.isN, Arg.isAt, Arg.isV, ownAt, newArg, idxF, ixN, binF, eqF_int, hw]
      · intro t ht
        rcases List.mem_append.mp ht with h | h
        · exact hA t h
        · have : t = at_ := by simpa using h
          rw [this]; exact ha
    · refine ⟨rRo b1 l most many fnd top at_ way col s9 (.fz x), some (.int (draw b1 many).1), rRo (draw b1 many).2 l most many fnd top at_ way col s9 (.fz x), rfl, ?_, (draw b1 many).2, G ++ [(draw b1 many).1], rfl, by simp, by simp; omega, ?_⟩
      · have hq := q_take k b1 many hm (by omega)
        simp [lcF, tkC, rRo, evE.eq_1, evE.eq_2, evE.eq_3, evE.eq_4, evE.eq_5, evE.eq_6, evE.eq_7, evE.eq_8, evE.eq_9, evE.eq_10, evE.eq_11, evE.eq_12, evE.eq_13, evE.eq_14, evE.eq_15, evE.eq_16, evE.eq_17, evE.eq_18, evE.eq_19, evE.eq_20, evE.eq_21, evE.eq_25, evE.eq_26, evE.eq_27, evE.eq_28, evE.eq_31, evSs, evS, evOp, evC, evEs, opnd, Opd.val, Slot.val, slotAt, fixv, isiV, isiF, typ, asBool, cmpF, endF, keptIo, lift, pur, bltF, len, assn, assns, evE.eq_22, evAs, argOf, callF, ioNd, order, finish, putBack, Arg.slot, Arg.isN, Arg.isAt, Arg.isV, ownAt, newArg, idxF, ixN, binF, eqF_int, hw, fn__law_take, ir__law_take, hq]
      · intro t ht
        rcases List.mem_append.mp ht with h | h
        · exact hA t h
        · have : t = (draw b1 many).1 := by simpa using h
          rw [this]; exact draw_lt hm)
  refine ⟨b', G, ?_, by simpa using h4, h5⟩
  have hcl : clean [10] (rRo b l most many fnd top at_ way col s9 s10) = true := by
    cases s10 with
    | ow v => exact absurd rfl (hs v)
    | fz v => simp [clean, rRo]
    | un => simp [clean, rRo]
  have hw : wipeR (rRo b l most many fnd top at_ way col s9 s10) [10] = rRo b l most many fnd top at_ way col s9 .un := rfl
  have hu : unwipe [10] (rRo b l most many fnd top at_ way col s9 s10) (rRo b' l most many fnd top at_ way col s9 .un) = rRo b' l most many fnd top at_ way col s9 s10 := rfl
  rw [h2] at h1
  rw [List.nil_append] at h3
  subst h3
  have := ev_lcG hit (by rw [List.length_map]; unfold cap; omega) hcl (by rw [hw]; exact h1)
  rw [this, hu]
end EV
namespace EV
open PySem
abbrev rowsBody : List Sx := [(.par [7, 8] [(.call "_law_take" [(.v 0), (.int 5)] []), (.call "_law_take" [(.v 0), (.v 5)] [])]), (.asg (.nm 9) (.lc [10] (.nm 10) (.seq (.v 1)) none tkC)), (.ife (.cmp .eq (.v 7) (.int 1)) [(.sub 9 (.int 0) (.bin .mod (.blt .int [(.bin .add (.v 6) (.int 1))]) (.v 3)))] []), (.mut 4 .append [(.tup [(.v 8), (.blt .tuple [(.v 9)])])])]
def rRo0 (b : Int × Int × Int) (l : List Nat) (most many : Int) (fnd : List Val) (top : Int) (s6 s7 s8 s9 s10 : Slot) : Ro := [.ow (bagV b), .fz (.str l), .fz (.int most), .fz (.int many), .ow (.lst fnd), .fz (.int top), s6, s7, s8, s9, s10]
theorem q_pair (k : Nat) (b : Int × Int × Int) (l : List Nat) (most many : Int) (fnd : List Val) (top at_ : Int) (s7 s8 s9 s10 : Slot) (ht : 0 < top) (ht2 : top < 1000) :
    evS tab (evF tab (k + 1)) (ev2 tab (k + 1)).2 (.par [7, 8] [(.call "_law_take" [(.v 0), (.int 5)] []), (.call "_law_take" [(.v 0), (.v 5)] [])]) (rRo0 b l most many fnd top (.fz (.int at_)) s7 s8 s9 s10) = some (.ok .nx (rRo (draw (draw b 5).2 top).2 l most many fnd top at_ (draw b 5).1 (draw (draw b 5).2 top).1 s9 s10)) := by
  have h1 := q_take k b 5 (by omega) (by omega)
  have h2 := q_take k (draw b 5).2 top ht (by omega)
  simp [rRo0, rRo, evSl, setAll, evE.eq_1, evE.eq_2, evE.eq_3, evE.eq_4, evE.eq_5, evE.eq_6, evE.eq_7, evE.eq_8, evE.eq_9, evE.eq_10, evE.eq_11, evE.eq_12, evE.eq_13, evE.eq_14, evE.eq_15, evE.eq_16, evE.eq_17, evE.eq_18, evE.eq_19, evE.eq_20, evE.eq_21, evE.eq_25, evE.eq_26, evE.eq_27, evE.eq_28, evE.eq_31, evSs, evS, evOp, evC, evEs, opnd, Opd.val, Slot.val, slotAt, fixv, isiV, isiF, typ, asBool, cmpF, endF, keptIo, lift, pur, bltF, len, assn, assns, evE.eq_22, evAs, argOf, callF, ioNd, order, finish, putBack, Arg.slot, Arg.isN, Arg.isAt, Arg.isV, ownAt, newArg, idxF, ixN, binF, fn__law_take, ir__law_take, h1, h2]
theorem q_turn (k : Nat) (b : Int × Int × Int) (l : List Nat) (most many : Int) (fnd : List Val) (top at_ : Int) (s7 s8 s9 s10 : Slot) (hs : ∀ v, s10 ≠ .ow v) (ht : 0 < top) (ht2 : top ≤ 7) (hm : 0 < many) (hm2 : many < 1000) (ha : 0 ≤ at_ ∧ at_ < many) (hl1 : 1 ≤ l.length) (hl : l.length ≤ 3) (hf : fnd.length < 1000) :
    ∃ (b' : Int × Int × Int) (r : RowI) (way : Int) (s9' : Slot), evSs tab (evF tab (k + 1)) (ev2 tab (k + 1)).2 rowsBody (rRo0 b l most many fnd top (.fz (.int at_)) s7 s8 s9 s10) = some (.ok .nx (rRo b' l most many (fnd ++ [rowV r]) top at_ way r.1 s9' s10)) ∧ 0 ≤ r.1 ∧ r.1 < top ∧ r.2.length = l.length ∧ ∀ t ∈ r.2, 0 ≤ t ∧ t < many := by
  have hp := q_pair k b l most many fnd top at_ s7 s8 s9 s10 ht (by omega)
  generalize hw : (draw b 5).1 = way at hp
  generalize hb1 : (draw (draw b 5).2 top).2 = b1 at hp
  have hc := draw_lt (b := (draw b 5).2) (n := top) ht
  generalize hcol : (draw (draw b 5).2 top).1 = col at hp hc
  obtain ⟨b2, G, hg, hG, hA⟩ := q_goals k b1 l most many fnd top at_ way col s9 s10 hs hm hm2 ha hl
  have hst2 : evS tab (evF tab (k + 1)) (ev2 tab (k + 1)).2 (.asg (.nm 9) (.lc [10] (.nm 10) (.seq (.v 1)) none tkC)) (rRo b1 l most many fnd top at_ way col s9 s10) = some (.ok .nx (rRo b2 l most many fnd top at_ way col (.ow (.lst (G.map .int))) s10)) := by
    simp only [evS, hg, bnd_ok]
    rfl
  have hst4 : ∀ G' : List Int, G'.length = l.length → evS tab (evF tab (k + 1)) (ev2 tab (k + 1)).2 (.mut 4 .append [(.tup [(.v 8), (.blt .tuple [(.v 9)])])]) (rRo b2 l most many fnd top at_ way col (.ow (.lst (G'.map .int))) s10) = some (.ok .nx (rRo b2 l most many (fnd ++ [rowV (col, G')]) top at_ way col (.ow (.lst (G'.map .int))) s10)) := by
    intro G' hG'
    have h1 : fnd.length < cap := by unfold cap; omega
    have h2 : 2 ≤ cap := by unfold cap; omega
    simp [rRo, evE.eq_1, evE.eq_2, evE.eq_3, evE.eq_4, evE.eq_5, evE.eq_6, evE.eq_7, evE.eq_8, evE.eq_9, evE.eq_10, evE.eq_11, evE.eq_12, evE.eq_13, evE.eq_14, evE.eq_15, evE.eq_16, evE.eq_17, evE.eq_18, evE.eq_19, evE.eq_20, evE.eq_21, evE.eq_25, evE.eq_26, evE.eq_27, evE.eq_28, evE.eq_31, evSs, evS, evOp, evC, evEs, opnd, Opd.val, Slot.val, slotAt, fixv, isiV, isiF, typ, asBool, cmpF, endF, keptIo, lift, pur, bltF, len, assn, assns, evE.eq_22, evAs, argOf, callF, ioNd, order, finish, putBack, Arg.slot, Arg.isN, Arg.isAt, Arg.isV, ownAt, newArg, idxF, ixN, binF, mutK, mutF, rowV, h1, h2]
  by_cases h1 : way = 1
  · have hst3 : evS tab (evF tab (k + 1)) (ev2 tab (k + 1)).2 (.ife (.cmp .eq (.v 7) (.int 1)) [(.sub 9 (.int 0) (.bin .mod (.blt .int [(.bin .add (.v 6) (.int 1))]) (.v 3)))] []) (rRo b2 l most many fnd top at_ way col (.ow (.lst (G.map .int))) s10) = some (.ok .nx (rRo b2 l most many fnd top at_ way col (.ow (.lst ((G.set 0 ((at_ + 1) % many)).map .int))) s10)) := by
      have hz : 0 < G.length := by omega
      simp [rRo, evE.eq_1, evE.eq_2, evE.eq_3, evE.eq_4, evE.eq_5, evE.eq_6, evE.eq_7, evE.eq_8, evE.eq_9, evE.eq_10, evE.eq_11, evE.eq_12, evE.eq_13, evE.eq_14, evE.eq_15, evE.eq_16, evE.eq_17, evE.eq_18, evE.eq_19, evE.eq_20, evE.eq_21, evE.eq_25, evE.eq_26, evE.eq_27, evE.eq_28, evE.eq_31, evSs, evS, evOp, evC, evEs, opnd, Opd.val, Slot.val, slotAt, fixv, isiV, isiF, typ, asBool, cmpF, endF, keptIo, lift, pur, bltF, len, assn, assns, evE.eq_22, evAs, argOf, callF, ioNd, order, finish, putBack, Arg.slot, Arg.isN, Arg.isAt, Arg.isV, ownAt, newArg, idxF, ixN, binF, eqF_int, h1, hm, setF, hz, List.map_set]
    refine ⟨b2, (col, G.set 0 ((at_ + 1) % many)), way, .ow (.lst ((G.set 0 ((at_ + 1) % many)).map .int)), ?_, hc.1, hc.2, by simp [hG], fun t htm => ?_⟩
    · have h4 := hst4 (G.set 0 ((at_ + 1) % many)) (by simp [hG])
      simp only [rowsBody, evSs, hp, hst2, hst3, h4, bnd_ok, pur]
    · rcases List.mem_or_eq_of_mem_set htm with h | h
      · exact hA t h
      · rw [h]; exact ⟨Int.emod_nonneg _ (by omega), Int.emod_lt_of_pos _ hm⟩
  · have hst3 : evS tab (evF tab (k + 1)) (ev2 tab (k + 1)).2 (.ife (.cmp .eq (.v 7) (.int 1)) [(.sub 9 (.int 0) (.bin .mod (.blt .int [(.bin .add (.v 6) (.int 1))]) (.v 3)))] []) (rRo b2 l most many fnd top at_ way col (.ow (.lst (G.map .int))) s10) = some (.ok .nx (rRo b2 l most many fnd top at_ way col (.ow (.lst (G.map .int))) s10)) := by
      simp [rRo, evE.eq_1, evE.eq_2, evE.eq_3, evE.eq_4, evE.eq_5, evE.eq_6, evE.eq_7, evE.eq_8, evE.eq_9, evE.eq_10, evE.eq_11, evE.eq_12, evE.eq_13, evE.eq_14, evE.eq_15, evE.eq_16, evE.eq_17, evE.eq_18, evE.eq_19, evE.eq_20, evE.eq_21, evE.eq_25, evE.eq_26, evE.eq_27, evE.eq_28, evE.eq_31, evSs, evS, evOp, evC, evEs, opnd, Opd.val, Slot.val, slotAt, fixv, isiV, isiF, typ, asBool, cmpF, endF, keptIo, lift, pur, bltF, len, assn, assns, evE.eq_22, evAs, argOf, callF, ioNd, order, finish, putBack, Arg.slot, Arg.isN, Arg.isAt, Arg.isV, ownAt, newArg, idxF, ixN, binF, eqF_int, h1]
    refine ⟨b2, (col, G), way, .ow (.lst (G.map .int)), ?_, hc.1, hc.2, hG, hA⟩
    have h4 := hst4 G hG
    simp only [rowsBody, evSs, hp, hst2, hst3, h4, bnd_ok, pur]
end EV
namespace EV
open PySem
def topOf (i : Int) : Int := ([2, 3, 4, 7] : List Int).getD i.toNat 2
theorem topOf_le (i : Int) (h0 : 0 ≤ i) (h4 : i < 4) : 0 < topOf i ∧ topOf i ≤ 7 := by
  have : i = 0 ∨ i = 1 ∨ i = 2 ∨ i = 3 := by omega
  rcases this with rfl | rfl | rfl | rfl <;> decide
theorem q_rows (k : Nat) (b : Int × Int × Int) (l : List Nat) (hl1 : 1 ≤ l.length) (hl : l.length ≤ 3) :
    ∃ (b' : Int × Int × Int) (R : List RowI), evF tab (k + 2) "_law_rows" [.ow (bagV b), .fz (.str l), .fz (.int 6)] = some (.ok (.fz (rowsV R)) [.ow (bagV b'), .fz (.str l), .fz (.int 6)]) ∧ GoodM l R := by
  have d1 := draw_lt (b := b) (n := 6) (by omega)
  have d2 := draw_lt (b := (draw b 6).2) (n := 4) (by omega)
  have tp := topOf_le _ d2.1 d2.2
  have st1 : evS tab (evF tab (k + 1)) (ev2 tab (k + 1)).2 (.par [3, 4, 5] [(.bin .add (.int 1) (.call "_law_take" [(.v 0), (.v 2)] [])), (.lst []), (.idx (.lst [(.int 2), (.int 3), (.int 4), (.int 7)]) (.call "_law_take" [(.v 0), (.int 4)] []))]) [.ow (bagV b), .fz (.str l), .fz (.int 6), .un, .un, .un, .un, .un, .un, .un, .un] = some (.ok .nx (rRo0 (draw (draw b 6).2 4).2 l 6 (1 + (draw b 6).1) [] (topOf (draw (draw b 6).2 4).1) .un .un .un .un .un)) := by
    have h1 := q_take k b 6 (by omega) (by omega)
    have h2 := q_take k (draw b 6).2 4 (by omega) (by omega)
    have : (draw (draw b 6).2 4).1 = 0 ∨ (draw (draw b 6).2 4).1 = 1 ∨ (draw (draw b 6).2 4).1 = 2 ∨ (draw (draw b 6).2 4).1 = 3 := by omega
    rcases this with hi | hi | hi | hi <;> simp [rRo0, evSl, setAll, evE.eq_1, evE.eq_2, evE.eq_3, evE.eq_4, evE.eq_5, evE.eq_6, evE.eq_7, evE.eq_8, evE.eq_9, evE.eq_10, evE.eq_11, evE.eq_12, evE.eq_13, evE.eq_14, evE.eq_15, evE.eq_16, evE.eq_17, evE.eq_18, evE.eq_19, evE.eq_20, evE.eq_21, evE.eq_25, evE.eq_26, evE.eq_27, evE.eq_28, evE.eq_31, evSs, evS, evOp, evC, evEs, opnd, Opd.val, Slot.val, slotAt, fixv, isiV, isiF, typ, asBool, cmpF, endF, keptIo, lift, pur, bltF, len, assn, assns, evE.eq_22, evAs, argOf, callF, ioNd, order, finish, putBack, Arg.slot, Arg.isN, Arg.isAt, Arg.isV, ownAt, newArg, idxF, ixN, binF, fn__law_take, ir__law_take, h1, h2, hi, topOf, cap]
  generalize hmany : 1 + (draw b 6).1 = many at st1
  generalize htop : topOf (draw (draw b 6).2 4).1 = top at st1 tp
  generalize hb0 : (draw (draw b 6).2 4).2 = b0 at st1
  obtain ⟨ρ', h1, bE, R, s6, s7, s8, s9, s10, rfl, _, hRl, hRg⟩ := forF_inv (body := evSs tab (evF tab (k + 1)) (ev2 tab (k + 1)).2 rowsBody) (t := .nm 6) (fun n ρ => ∃ (b : Int × Int × Int) (R : List RowI) (s6 s7 s8 s9 s10 : Slot), ρ = rRo0 b l 6 many (R.map rowV) top s6 s7 s8 s9 s10 ∧ (∀ v, s10 ≠ .ow v) ∧ R.length = n ∧ ∀ r ∈ R, 0 ≤ r.1 ∧ r.1 < top ∧ r.2.length = l.length ∧ ∀ t ∈ r.2, 0 ≤ t ∧ t < many) (rng 0 many) 0 (rRo0 b0 l 6 many [] top .un .un .un .un .un) ⟨b0, [], .un, .un, .un, .un, .un, rfl, nofun, rfl, by simp⟩ (fun n x ρ hx hI => by
    obtain ⟨b1, R, s6, s7, s8, s9, s10, rfl, hs, hR, hg⟩ := hI
    unfold rng at hx
    rw [List.getElem?_map] at hx
    obtain ⟨i, hi, rfl⟩ := Option.map_eq_some_iff.mp hx
    obtain ⟨hi1, hi2⟩ := List.getElem?_eq_some_iff.mp hi
    rw [List.getElem_range] at hi2
    rw [List.length_range] at hi1
    subst hi2
    obtain ⟨b2, r, way, s9', e, r1, r2, r3, r4⟩ := q_turn k b1 l 6 many (R.map rowV) top (0 + (n : Nat)) s7 s8 s9 s10 hs tp.1 tp.2 (by omega) (by omega) (by omega) hl1 hl (by rw [List.length_map]; omega)
    refine ⟨_, _, rfl, e, b2, R ++ [r], .fz (.int (0 + (n : Nat))), .fz (.int way), .fz (.int r.1), s9', s10, ?_, hs, by simp [hR], ?_⟩
    · simp [rRo, rRo0]
    · intro q hq
      rcases List.mem_append.mp hq with h | h
      · exact hg q h
      · have : q = r := by simpa using h
        subst this
        exact ⟨r1, r2, r3, r4⟩)
  have hlen : (rng 0 many).length = many.toNat := by unfold rng; simp
  rw [hlen] at hRl
  have st2 : evS tab (evF tab (k + 1)) (ev2 tab (k + 1)).2 (.for_ (.nm 6) (.rng (.v 3)) rowsBody) (rRo0 b0 l 6 many [] top .un .un .un .un .un) = some (.ok .nx (rRo0 bE l 6 many (R.map rowV) top s6 s7 s8 s9 s10)) := by
    have hit : evIt tab (evF tab (k + 1)) (ev2 tab (k + 1)).2 (.rng (.v 3)) (rRo0 b0 l 6 many [] top .un .un .un .un .un) = some (.ok (rng 0 many) (rRo0 b0 l 6 many [] top .un .un .un .un .un)) := by
      have hz : -(cap : Int) ≤ many ∧ many ≤ cap := by unfold cap; omega
      simp [evIt, rRo0, evE.eq_1, evE.eq_2, evE.eq_3, evE.eq_4, evE.eq_5, evE.eq_6, evE.eq_7, evE.eq_8, evE.eq_9, evE.eq_10, evE.eq_11, evE.eq_12, evE.eq_13, evE.eq_14, evE.eq_15, evE.eq_16, evE.eq_17, evE.eq_18, evE.eq_19, evE.eq_20, evE.eq_21, evE.eq_25, evE.eq_26, evE.eq_27, evE.eq_28, evE.eq_31, evSs, evS, evOp, evC, evEs, opnd, Opd.val, Slot.val, slotAt, fixv, isiV, isiF, typ, asBool, cmpF, endF, keptIo, lift, pur, bltF, len, assn, assns, evE.eq_22, evAs, argOf, callF, ioNd, order, finish, putBack, Arg.slot, Arg.isN, Arg.isAt, Arg.isV, ownAt, newArg, idxF, ixN, binF, rngF, hz]
    simp only [evS, hit, bnd_ok]
    rw [if_pos (by rw [hlen]; unfold cap; omega), h1]
  refine ⟨bE, R, ?_, ?_⟩
  · rw [evF_succ, run_def fn__law_rows (tab_ext _) rfl]
    have st3 : evS tab (evF tab (k + 1)) (ev2 tab (k + 1)).2 (.ret (.blt .tuple [.v 4])) (rRo0 bE l 6 many (R.map rowV) top s6 s7 s8 s9 s10) = some (.ok (.rt (.fz (rowsV R))) (rRo0 bE l 6 many (R.map rowV) top s6 s7 s8 s9 s10)) := by
      simp [rRo0, evE.eq_1, evE.eq_2, evE.eq_3, evE.eq_4, evE.eq_5, evE.eq_6, evE.eq_7, evE.eq_8, evE.eq_9, evE.eq_10, evE.eq_11, evE.eq_12, evE.eq_13, evE.eq_14, evE.eq_15, evE.eq_16, evE.eq_17, evE.eq_18, evE.eq_19, evE.eq_20, evE.eq_21, evE.eq_25, evE.eq_26, evE.eq_27, evE.eq_28, evE.eq_31, evSs, evS, evOp, evC, evEs, opnd, Opd.val, Slot.val, slotAt, fixv, isiV, isiF, typ, asBool, cmpF, endF, keptIo, lift, pur, bltF, len, assn, assns, evE.eq_22, evAs, argOf, callF, ioNd, order, finish, putBack, Arg.slot, Arg.isN, Arg.isAt, Arg.isV, ownAt, newArg, idxF, ixN, binF, rowsV]
    have e : evSs tab (evF tab (k + 1)) (ev2 tab (k + 1)).2 ir__law_rows.body [.ow (bagV b), .fz (.str l), .fz (.int 6), .un, .un, .un, .un, .un, .un, .un, .un] = some (.ok (.rt (.fz (rowsV R))) (rRo0 bE l 6 many (R.map rowV) top s6 s7 s8 s9 s10)) := by
      simp only [ir__law_rows, evSs, st1, bnd_ok]
      simp only [rowsBody, tkC] at st2
      simp only [st2, st3, bnd_ok, pur]
    show endF _ _ (evSs tab (evF tab (k + 1)) (ev2 tab (k + 1)).2 ir__law_rows.body [.ow (bagV b), .fz (.str l), .fz (.int 6), .un, .un, .un, .un, .un, .un, .un, .un]) = _
    rw [e]
    simp [endF, keptIo, ir__law_rows, rRo0]
  · have hn : (R.length : Int) = many := by omega
    refine ⟨fun z => ?_, by omega, hl, fun r hr => ?_⟩
    · rw [z] at hRl; simp at hRl; omega
    · obtain ⟨a1, a2, a3, a4⟩ := hRg r hr
      refine ⟨a1, by omega, a3, fun t ht => ?_⟩
      have := a4 t ht
      omega
end EV
namespace EV
open PySem GH Pl
section
variable {α : Type} [DecidableEq α] [Pl α]
/-- a graph as a value: letters, places, arrows, colours -/
def graphV (L : List Nat) (D : List α) (A : α → List α) (C : α → List Int) : Val := .obj "Graph" [("signs", .str L), ("arrows", .dct (D.map fun a => (pv a, .tup ((A a).map pv)))), ("colours", .dct (D.map fun a => (pv a, .tup ((C a).map .int))))]
def fndV (f : FndG α) : Val := .dct (f.map fun p => (pv p.1, .str p.2))
def wRo (g : Val) (first : α) (iv : Val) (f : FndG α) (k : Nat) (s6 s7 s8 : Slot) : Ro := [.fz g, .fz (pv first), .fz iv, .ow (fndV f), .ow (.lst ((keysG f).map pv)), .fz (.int (k : Nat)), s6, s7, s8]
abbrev wIn : List Sx := [(.ife (.and (.cmp .isin (.v 8) (.v 2)) (.cmp .notin (.v 8) (.v 3))) [(.sub 3 (.v 8) (.bin .add (.idx (.v 3) (.v 6)) (.v 7))), (.mut 4 .append [(.v 8)])] [])]
theorem in_fnd (x : α) (f : FndG α) : inF (pv x) (fndV f) = some (decide (x ∈ keysG f)) := in_dct x f (·.1) fun p => .str p.2
theorem find_fnd {f : FndG α} {p : α × List Nat} (hn : (keysG f).Nodup) (hp : p ∈ f) : (f.find? fun b => decide (b.1 = p.1)) = some p := by
  induction f with
  | nil => exact absurd hp List.not_mem_nil
  | cons q f ih =>
    rw [keysG, List.map_cons, List.nodup_cons] at hn
    rcases List.mem_cons.mp hp with rfl | hp
    · simp
    · have : q.1 ≠ p.1 := fun e => hn.1 (List.mem_map.mpr ⟨p, hp, e.symm⟩)
      rw [List.find?_cons_of_neg (by simpa using this)]
      exact ih hn.2 hp
theorem idx_fnd {f : FndG α} {p : α × List Nat} (hn : (keysG f).Nodup) (hp : p ∈ f) : idxF (fndV f) (pv p.1) = some (.str p.2) := by
  have e : idxF (fndV f) (pv p.1) = if dkey (pv p.1) && fits (f.map fun p => (pv p.1, .str p.2)) (pv p.1) then look (f.map fun p => (pv p.1, .str p.2)) (pv p.1) else none := rfl
  rw [e, dk, fits_dct f (·.1) (fun p => .str p.2) p.1, look_dct f (·.1) (fun p => .str p.2) p.1, find_fnd hn hp]; rfl
theorem set_fnd {f : FndG α} {t : α} (h : t ∉ keysG f) (hl : f.length < cap) (w : List Nat) : setF (fndV f) (pv t) (.str w) = some (fndV (f ++ [(t, w)])) := by
  have e : setF (fndV f) (pv t) (.str w) = if (f.map fun p => (pv p.1, Val.str p.2)).length < cap ∧ dkey (pv t) = true ∧ fits (f.map fun p => (pv p.1, Val.str p.2)) (pv t) = true then some (.dct (put (f.map fun p => (pv p.1, Val.str p.2)) (pv t) (.str w))) else none := by
    unfold setF fndV
    rfl
  rw [e, if_pos ⟨by rw [List.length_map]; exact hl, dk t, fits_dct f (·.1) _ t⟩, put_new (f := fun p : α × List Nat => p.1) h]
  simp [fndV]
theorem w_turn (cal mkc : Cal) (g : Val) (first : α) (iv : Val) (ins : List α) (hI : InsV iv ins) (f : FndG α) (k : Nat) (p : α × List Nat) (c : Nat) (t : α) (hn : (keysG f).Nodup) (hp : p ∈ f) (hl : f.length < 1000) (hw : p.2.length < 10000) :
    evSs tab cal mkc wIn (wRo g first iv f k (.fz (pv p.1)) (.fz (.str [c])) (.fz (pv t))) = some (.ok .nx (wRo g first iv (pushG ins p.2 f (c, t)) k (.fz (pv p.1)) (.fz (.str [c])) (.fz (pv t)))) := by
  have i1 := hI.is t
  have i2 := in_fnd t f
  have i3 := idx_fnd hn hp
  have c1 : f.length < cap := by unfold cap; omega
  have c2 : (keysG f).length < cap := by unfold keysG; rw [List.length_map]; exact c1
  have c3 : p.2.length + 1 ≤ cap := by unfold cap; omega
  unfold pushG
  by_cases h1 : t ∈ ins
  · by_cases h2 : t ∈ keysG f
    · rw [if_neg (fun z => z.2 h2)]
      simp [wRo, evE.eq_1, evE.eq_2, evE.eq_3, evE.eq_4, evE.eq_5, evE.eq_6, evE.eq_7, evE.eq_8, evE.eq_9, evE.eq_10, evE.eq_11, evE.eq_12, evE.eq_13, evE.eq_14, evE.eq_15, evE.eq_16, evE.eq_17, evE.eq_18, evE.eq_19, evE.eq_20, evE.eq_21, evE.eq_25, evE.eq_26, evE.eq_27, evE.eq_28, evE.eq_31, evSs, evS, evOp, evC, evEs, opnd, Opd.val, Slot.val, slotAt, fixv, isiV, isiF, typ, asBool, cmpF, endF, keptIo, lift, pur, bltF, len, assn, assns, i1, i2, h1, h2]
    · rw [if_pos ⟨h1, h2⟩]
      have i4 := set_fnd h2 c1 (p.2 ++ [c])
      simp [wRo, evE.eq_1, evE.eq_2, evE.eq_3, evE.eq_4, evE.eq_5, evE.eq_6, evE.eq_7, evE.eq_8, evE.eq_9, evE.eq_10, evE.eq_11, evE.eq_12, evE.eq_13, evE.eq_14, evE.eq_15, evE.eq_16, evE.eq_17, evE.eq_18, evE.eq_19, evE.eq_20, evE.eq_21, evE.eq_25, evE.eq_26, evE.eq_27, evE.eq_28, evE.eq_31, evSs, evS, evOp, evC, evEs, opnd, Opd.val, Slot.val, slotAt, fixv, isiV, isiF, typ, asBool, cmpF, endF, keptIo, lift, pur, bltF, len, assn, assns, i1, i2, i3, i4, h1, h2, binF, c3, ownAt, mutK, mutF, c2, keysG_app]
      simp [keysG]
  · rw [if_neg (fun z => h1 z.1)]
    simp [wRo, evE.eq_1, evE.eq_2, evE.eq_3, evE.eq_4, evE.eq_5, evE.eq_6, evE.eq_7, evE.eq_8, evE.eq_9, evE.eq_10, evE.eq_11, evE.eq_12, evE.eq_13, evE.eq_14, evE.eq_15, evE.eq_16, evE.eq_17, evE.eq_18, evE.eq_19, evE.eq_20, evE.eq_21, evE.eq_25, evE.eq_26, evE.eq_27, evE.eq_28, evE.eq_31, evSs, evS, evOp, evC, evEs, opnd, Opd.val, Slot.val, slotAt, fixv, isiV, isiF, typ, asBool, cmpF, endF, keptIo, lift, pur, bltF, len, assn, assns, i1, h1]
theorem w_for (cal mkc : Cal) (g : Val) (first : α) (iv : Val) (ins : List α) (hI : InsV iv ins) (k : Nat) (p : α × List Nat) (hw : p.2.length < 10000) : ∀ (as : List (Nat × α)) (f : FndG α) (s7 s8 : Slot), (keysG f).Nodup → p ∈ f → f.length + as.length < 1000 →
    ∃ s7' s8', forF (evSs tab cal mkc wIn) (.tp [.nm 7, .nm 8]) (as.map fun a => .tup [.str [a.1], pv a.2]) (wRo g first iv f k (.fz (pv p.1)) s7 s8) = some (.ok .nx (wRo g first iv (as.foldl (pushG ins p.2) f) k (.fz (pv p.1)) s7' s8'))
  | [], f, s7, s8, _, _, _ => ⟨s7, s8, rfl⟩
  | a :: as, f, s7, s8, hn, hp, hl => by
    rw [List.length_cons] at hl
    obtain ⟨q, e⟩ := pushG_pre ins p.2 f a
    have hq : (pushG ins p.2 f a).length ≤ f.length + 1 := by
      unfold pushG
      split <;> simp
    obtain ⟨s7', s8', ih⟩ := w_for cal mkc g first iv ins hI k p hw as (pushG ins p.2 f a) (.fz (.str [a.1])) (.fz (pv a.2)) (pushG_nodup hn) (by rw [e]; exact List.mem_append_left _ hp) (by omega)
    have t1 := w_turn cal mkc g first iv ins hI f k p a.1 a.2 hn hp (by omega) hw
    refine ⟨s7', s8', ?_⟩
    have as1 : assn (.tp [.nm 7, .nm 8]) (.fz (.tup [.str [a.1], pv a.2])) (wRo g first iv f k (.fz (pv p.1)) s7 s8) = some (wRo g first iv f k (.fz (pv p.1)) (.fz (.str [a.1])) (.fz (pv a.2))) := by
      simp [assn, assns, wRo]
    rw [List.map_cons, List.foldl_cons]
    simp only [forF, as1, t1, bnd_ok]
    exact ih
abbrev wOut : List Sx := [(.asg (.nm 6) (.idx (.v 4) (.v 5))), (.for_ (.tp [(.nm 7), (.nm 8)]) (.zip (.fld (.v 0) "signs") (.idx (.fld (.v 0) "arrows") (.v 6))) wIn), (.aug 5 (.int 1))]
theorem q_ways (k : Nat) {L : List Nat} {D : List α} {A : α → List α} {C : α → List Int} (G : GrOk L D A) (hL : L.length ≤ 100) {iv : Val} {ins : List α} (hI : InsV iv ins) (hi : ∀ x ∈ ins, x ∈ D) {first : α} (hf : first ∈ D) :
    evF tab (k + 1) "Graph.ways" [.fz (graphV L D A C), .fz (pv first), .fz iv] = some (.ok (.ow (fndV (waysG L A ins first))) [.fz (graphV L D A C), .fz (pv first), .fz iv]) := by
  rw [evF_succ, run_def fn_Graph_ways (tab_ext _) rfl]
  have fl1 : tab.fld "Graph" "signs" = true := by kernel_rfl
  have fl2 : tab.fld "Graph" "arrows" = true := by kernel_rfl
  have hD := G.small
  have lenB := fun j => bfsG_len (L := L) (A := A) hf hi j
  have st0 : ∀ s7 s8, evSs tab (evF tab k) (ev2 tab k).2 [(.asg (.nm 3) (.dct [(.v 1)] [(.str "")])), (.asg (.nm 4) (.lst [(.v 1)])), (.asg (.nm 5) (.int 0))] [.fz (graphV L D A C), .fz (pv first), .fz iv, .un, .un, .un, .un, s7, s8] = some (.ok .nx (wRo (graphV L D A C) first iv (bfsG L A ins first 0) 0 .un s7 s8)) := by
    intro s7 s8
    have c1 : 1 ≤ cap := by unfold cap; omega
    have c2 : asStr "" = [] := by kernel_rfl
    simp [wRo, evE.eq_1, evE.eq_2, evE.eq_3, evE.eq_4, evE.eq_5, evE.eq_6, evE.eq_7, evE.eq_8, evE.eq_9, evE.eq_10, evE.eq_11, evE.eq_12, evE.eq_13, evE.eq_14, evE.eq_15, evE.eq_16, evE.eq_17, evE.eq_18, evE.eq_19, evE.eq_20, evE.eq_21, evE.eq_25, evE.eq_26, evE.eq_27, evE.eq_28, evE.eq_31, evSs, evS, evOp, evC, evEs, opnd, Opd.val, Slot.val, slotAt, fixv, isiV, isiF, typ, asBool, cmpF, endF, keptIo, lift, pur, bltF, len, assn, assns, dct1, key, bfsG, fndV, keysG, c1, c2]
  have body : ∀ (j : Nat) (s6 s7 s8 : Slot), j < (bfsG L A ins first j).length → ∃ s6' s7' s8', evSs tab (evF tab k) (ev2 tab k).2 wOut (wRo (graphV L D A C) first iv (bfsG L A ins first j) j s6 s7 s8) = some (.ok .nx (wRo (graphV L D A C) first iv (bfsG L A ins first (j + 1)) (j + 1) s6' s7' s8')) := by
    intro j s6 s7 s8 hj
    obtain ⟨p, hp⟩ : ∃ p, (bfsG L A ins first j)[j]? = some p := ⟨_, List.getElem?_eq_getElem hj⟩
    have hpm : p ∈ bfsG L A ins first j := List.mem_of_getElem? hp
    have hpD : p.1 ∈ D := (bfsG_in L A ins first j p.1 (List.mem_map.mpr ⟨p, hpm, rfl⟩)).elim (fun e => e ▸ hf) (hi _)
    have hw := bfsG_words L A ins first j p hpm
    have hk : ((keysG (bfsG L A ins first j)).map pv)[j]? = some (pv p.1) := by
      unfold keysG
      rw [List.getElem?_map, List.getElem?_map, hp]; rfl
    have hkl : j < (keysG (bfsG L A ins first j)).length := by unfold keysG; rw [List.length_map]; exact hj
    have b1 : evS tab (evF tab k) (ev2 tab k).2 (.asg (.nm 6) (.idx (.v 4) (.v 5))) (wRo (graphV L D A C) first iv (bfsG L A ins first j) j s6 s7 s8) = some (.ok .nx (wRo (graphV L D A C) first iv (bfsG L A ins first j) j (.fz (pv p.1)) s7 s8)) := by
      have : idxF (.lst ((keysG (bfsG L A ins first j)).map pv)) (.int (j : Nat)) = some (pv p.1) := by
        simp only [idxF, ixN]
        rw [if_pos ⟨by omega, by rw [List.length_map]; omega⟩]
        simpa using hk
      simp [wRo, evE.eq_1, evE.eq_2, evE.eq_3, evE.eq_4, evE.eq_5, evE.eq_6, evE.eq_7, evE.eq_8, evE.eq_9, evE.eq_10, evE.eq_11, evE.eq_12, evE.eq_13, evE.eq_14, evE.eq_15, evE.eq_16, evE.eq_17, evE.eq_18, evE.eq_19, evE.eq_20, evE.eq_21, evE.eq_25, evE.eq_26, evE.eq_27, evE.eq_28, evE.eq_31, evSs, evS, evOp, evC, evEs, opnd, Opd.val, Slot.val, slotAt, fixv, isiV, isiF, typ, asBool, cmpF, endF, keptIo, lift, pur, bltF, len, assn, assns, this]
    have z1 : (L.zip (A p.1)).length ≤ 100 := by rw [List.length_zip]; omega
    obtain ⟨s7', s8', b2⟩ := w_for (evF tab k) (ev2 tab k).2 (graphV L D A C) first iv ins hI j p (by have := lenB j; omega) (L.zip (A p.1)) (bfsG L A ins first j) s7 s8 (bfsG_nodup L A ins first j) hpm (by have := lenB j; omega)
    have b3 : evS tab (evF tab k) (ev2 tab k).2 (.for_ (.tp [(.nm 7), (.nm 8)]) (.zip (.fld (.v 0) "signs") (.idx (.fld (.v 0) "arrows") (.v 6))) wIn) (wRo (graphV L D A C) first iv (bfsG L A ins first j) j (.fz (pv p.1)) s7 s8) = some (.ok .nx (wRo (graphV L D A C) first iv (bfsG L A ins first (j + 1)) j (.fz (pv p.1)) s7' s8')) := by
      have ix := idx_dct hpD fun a => .tup ((A a).map pv)
      have hit : evIt tab (evF tab k) (ev2 tab k).2 (.zip (.fld (.v 0) "signs") (.idx (.fld (.v 0) "arrows") (.v 6))) (wRo (graphV L D A C) first iv (bfsG L A ins first j) j (.fz (pv p.1)) s7 s8) = some (.ok ((L.zip (A p.1)).map fun a => .tup [.str [a.1], pv a.2]) (wRo (graphV L D A C) first iv (bfsG L A ins first j) j (.fz (pv p.1)) s7 s8)) := by
        have ix' := ix
        simp [evIt, wRo, graphV, evE.eq_1, evE.eq_2, evE.eq_3, evE.eq_4, evE.eq_5, evE.eq_6, evE.eq_7, evE.eq_8, evE.eq_9, evE.eq_10, evE.eq_11, evE.eq_12, evE.eq_13, evE.eq_14, evE.eq_15, evE.eq_16, evE.eq_17, evE.eq_18, evE.eq_19, evE.eq_20, evE.eq_21, evE.eq_25, evE.eq_26, evE.eq_27, evE.eq_28, evE.eq_31, evSs, evS, evOp, evC, evEs, opnd, Opd.val, Slot.val, slotAt, fixv, isiV, isiF, typ, asBool, cmpF, endF, keptIo, lift, pur, bltF, len, assn, assns, fl1, fl2, lk2, ix', seqOf, zipL_map (fun c => Val.str [c]) pv]
      have e : bfsG L A ins first (j + 1) = (L.zip (A p.1)).foldl (pushG ins p.2) (bfsG L A ins first j) := by
        conv => lhs; unfold bfsG
        rw [hp]; rfl
      simp only [evS, hit, bnd_ok]
      rw [if_pos (by rw [List.length_map]; unfold cap; omega), b2, e]
    refine ⟨.fz (pv p.1), s7', s8', ?_⟩
    have b4 : evS tab (evF tab k) (ev2 tab k).2 (.aug 5 (.int 1)) (wRo (graphV L D A C) first iv (bfsG L A ins first (j + 1)) j (.fz (pv p.1)) s7' s8') = some (.ok .nx (wRo (graphV L D A C) first iv (bfsG L A ins first (j + 1)) (j + 1) (.fz (pv p.1)) s7' s8')) := by
      simp [wRo, evE.eq_1, evE.eq_2, evE.eq_3, evE.eq_4, evE.eq_5, evE.eq_6, evE.eq_7, evE.eq_8, evE.eq_9, evE.eq_10, evE.eq_11, evE.eq_12, evE.eq_13, evE.eq_14, evE.eq_15, evE.eq_16, evE.eq_17, evE.eq_18, evE.eq_19, evE.eq_20, evE.eq_21, evE.eq_25, evE.eq_26, evE.eq_27, evE.eq_28, evE.eq_31, evSs, evS, evOp, evC, evEs, opnd, Opd.val, Slot.val, slotAt, fixv, isiV, isiF, typ, asBool, cmpF, endF, keptIo, lift, pur, bltF, len, assn, assns, binF]
    simp only [wOut, evSs, b1, b3, b4, bnd_ok, pur]
  obtain ⟨ρ', h1, j, s6, s7, s8, rfl, hj, hj2⟩ := whlF_inv (test := fun ρ => bnd (evE tab (evF tab k) (ev2 tab k).2 (.cmp .lt (.v 5) (.blt .len [(.v 4)])) ρ) asBool) (body := evSs tab (evF tab k) (ev2 tab k).2 wOut)
    (fun ρ => ∃ j s6 s7 s8, ρ = wRo (graphV L D A C) first iv (bfsG L A ins first j) j s6 s7 s8 ∧ j ≤ 400)
    (fun ρ => ∃ j s6 s7 s8, ρ = wRo (graphV L D A C) first iv (bfsG L A ins first j) j s6 s7 s8 ∧ j ≤ 400 ∧ (bfsG L A ins first j).length ≤ j)
    (fun ρ => match ρ with | [_, _, _, _, _, .fz (.int k), _, _, _] => 1000 - k.toNat | _ => 0)
    (fun ρ hI => by
      obtain ⟨j, s6, s7, s8, rfl, hj⟩ := hI
      have ht : bnd (evE tab (evF tab k) (ev2 tab k).2 (.cmp .lt (.v 5) (.blt .len [(.v 4)])) (wRo (graphV L D A C) first iv (bfsG L A ins first j) j s6 s7 s8)) asBool = some (.ok (decide (j < (bfsG L A ins first j).length)) (wRo (graphV L D A C) first iv (bfsG L A ins first j) j s6 s7 s8)) := by
        simp [wRo, evE.eq_1, evE.eq_2, evE.eq_3, evE.eq_4, evE.eq_5, evE.eq_6, evE.eq_7, evE.eq_8, evE.eq_9, evE.eq_10, evE.eq_11, evE.eq_12, evE.eq_13, evE.eq_14, evE.eq_15, evE.eq_16, evE.eq_17, evE.eq_18, evE.eq_19, evE.eq_20, evE.eq_21, evE.eq_25, evE.eq_26, evE.eq_27, evE.eq_28, evE.eq_31, evSs, evS, evOp, evC, evEs, opnd, Opd.val, Slot.val, slotAt, fixv, isiV, isiF, typ, asBool, cmpF, endF, keptIo, lift, pur, bltF, len, assn, assns, keysG]
      by_cases h : j < (bfsG L A ins first j).length
      · left
        obtain ⟨s6', s7', s8', hb⟩ := body j s6 s7 s8 h
        have := lenB j
        refine ⟨_, _, by rw [ht, decide_eq_true h], hb, ⟨j + 1, s6', s7', s8', rfl, by omega⟩, ?_⟩
        simp only [wRo]
        omega
      · right
        exact ⟨_, by rw [ht, decide_eq_false h], j, s6, s7, s8, rfl, hj, by omega⟩) fuel (wRo (graphV L D A C) first iv (bfsG L A ins first 0) 0 .un .un .un) ⟨0, _, _, _, rfl, by omega⟩ (by simp only [wRo]; unfold fuel; omega)
  have e : evSs tab (evF tab k) (ev2 tab k).2 ir_Graph_ways.body [.fz (graphV L D A C), .fz (pv first), .fz iv, .un, .un, .un, .un, .un, .un] = some (.ok (.rt (.ow (fndV (waysG L A ins first)))) ((wRo (graphV L D A C) first iv (bfsG L A ins first j) j s6 s7 s8).set 3 .un)) := by
    have s0 := st0 .un .un
    have hs : evS tab (evF tab k) (ev2 tab k).2 (.whl (.cmp .lt (.v 5) (.blt .len [(.v 4)])) wOut) (wRo (graphV L D A C) first iv (bfsG L A ins first 0) 0 .un .un .un) = some (.ok .nx (wRo (graphV L D A C) first iv (bfsG L A ins first j) j s6 s7 s8)) := by
      simp only [evS]; exact h1
    have hr : evS tab (evF tab k) (ev2 tab k).2 (.ret (.v 3)) (wRo (graphV L D A C) first iv (bfsG L A ins first j) j s6 s7 s8) = some (.ok (.rt (.ow (fndV (waysG L A ins first)))) ((wRo (graphV L D A C) first iv (bfsG L A ins first j) j s6 s7 s8).set 3 .un)) := by
      rw [← waysG_of hj2 (by omega)]
      rfl
    have spl : ir_Graph_ways.body = [(.asg (.nm 3) (.dct [(.v 1)] [(.str "")])), (.asg (.nm 4) (.lst [(.v 1)])), (.asg (.nm 5) (.int 0))] ++ [(.whl (.cmp .lt (.v 5) (.blt .len [(.v 4)])) wOut), .ret (.v 3)] := rfl
    rw [spl, evSs_app, s0, bnd_ok]
    simp only [evSs, hs, hr, bnd_ok, pur]
  show endF _ _ (evSs tab (evF tab k) (ev2 tab k).2 ir_Graph_ways.body [.fz (graphV L D A C), .fz (pv first), .fz iv, .un, .un, .un, .un, .un, .un]) = _
  rw [e]
  simp [endF, keptIo, ir_Graph_ways, wRo]
end
end EV
namespace EV
open PySem GH Pl
theorem fm_if {α β : Type} (P : α → Bool) (f : α → β) : ∀ xs : List α, xs.filterMap (fun p => if P p then some (f p) else none) = (xs.filter P).map f
  | [] => rfl
  | x :: xs => by
    rw [List.filterMap_cons, List.filter_cons]
    by_cases h : P x <;> simp [h, fm_if P f xs]
section
variable {α : Type} [DecidableEq α] [Pl α]
theorem g_obj {L : List Nat} {D : List α} {A : α → List α} {C : α → List Int} (ρ : Ro) {m : String} (h : m = "ways" ∨ m = "part" ∨ m = "parts" ∨ m = "up_to" ∨ m = "has") : Arg.isObj ρ "Graph" m (.va (graphV L D A C)) = true := by
  rcases h with rfl | rfl | rfl | rfl | rfl <;> rfl
theorem items_fnd (f : FndG α) : itemsF (fndV f) = some ((keysG f).map pv) := by simp [itemsF, fndV, keysG]
variable {L : List Nat} {D : List α} {A : α → List α} {C : α → List Int} (G : GrOk L D A) (hL : L.length ≤ 100) {iv : Val} {ins : List α} (hI : InsV iv ins) (hi : ∀ x ∈ ins, x ∈ D)
include G hL hI hi
theorem q_part (k : Nat) {first : α} (hf : first ∈ D) :
    evF tab (k + 2) "Graph.part" [.fz (graphV L D A C), .fz (pv first), .fz iv] = some (.ok (.ow (.lst ((partG L A ins first).map pv))) [.fz (graphV L D A C), .fz (pv first), .fz iv]) := by
  rw [evF_succ, run_def fn_Graph_part (tab_ext _) rfl]
  have hit : evIt tab (evF tab (k + 1)) (ev2 tab (k + 1)).2 (.seq (.mth "Graph.ways" "Graph" "ways" (.v 0) [(.v 1), (.v 2)])) [.fz (graphV L D A C), .fz (pv first), .fz iv, .un] = some (.ok ((keysG (waysG L A ins first)).map pv) [.fz (graphV L D A C), .fz (pv first), .fz iv, .un]) := by
    have qw := q_ways k (C := C) G hL hI hi hf
    simp [evIt, evE.eq_1, evE.eq_2, evE.eq_3, evE.eq_4, evE.eq_5, evE.eq_6, evE.eq_7, evE.eq_8, evE.eq_9, evE.eq_10, evE.eq_11, evE.eq_12, evE.eq_13, evE.eq_14, evE.eq_15, evE.eq_16, evE.eq_17, evE.eq_18, evE.eq_19, evE.eq_20, evE.eq_21, evE.eq_25, evE.eq_26, evE.eq_27, evE.eq_28, evE.eq_31, evSs, evS, evOp, evC, evEs, opnd, Opd.val, Slot.val, slotAt, fixv, isiV, isiF, typ, asBool, cmpF, endF, keptIo, lift, pur, bltF, len, assn, assns, evE.eq_22, evAs, argOf, callF, ioNd, order, finish, putBack, Arg.slot, Arg.isN, Arg.isAt, Arg.isV, ownAt, newArg, idxF, ixN, binF, evE.eq_24, fn_Graph_ways, ir_Graph_ways, g_obj, qw, items_fnd]
  have hlc : evE tab (evF tab (k + 1)) (ev2 tab (k + 1)).2 (.lc [3] (.nm 3) (.seq (.mth "Graph.ways" "Graph" "ways" (.v 0) [(.v 1), (.v 2)])) (some (.cmp .isin (.v 1) (.mth "Graph.ways" "Graph" "ways" (.v 0) [(.v 3), (.v 2)]))) (.v 3)) [.fz (graphV L D A C), .fz (pv first), .fz iv, .un] = some (.ok (.ow (.lst ((partG L A ins first).map pv))) [.fz (graphV L D A C), .fz (pv first), .fz iv, .un]) := by
    have := ev_lcB pv (fun p => if decide (first ∈ keysG (waysG L A ins p)) then some (pv p) else none) hit (ns := [3]) (t := .nm 3) (c := (some (.cmp .isin (.v 1) (.mth "Graph.ways" "Graph" "ways" (.v 0) [(.v 3), (.v 2)])))) (e := .v 3) (by have := waysG_len (L := L) (A := A) hf hi; have := G.small; unfold keysG; rw [List.length_map]; unfold cap; omega) rfl rfl (fun x hx => by
      have hxD : x ∈ D := (waysG_in hx).elim (fun e => e ▸ hf) (hi x)
      refine ⟨[.fz (graphV L D A C), .fz (pv first), .fz iv, .fz (pv x)], [.fz (graphV L D A C), .fz (pv first), .fz iv, .fz (pv x)], rfl, ?_, rfl⟩
      have qw := q_ways k (C := C) G hL hI hi hxD
      have i1 := in_fnd first (waysG L A ins x)
      by_cases h : first ∈ keysG (waysG L A ins x) <;> simp [lcF, evE.eq_1, evE.eq_2, evE.eq_3, evE.eq_4, evE.eq_5, evE.eq_6, evE.eq_7, evE.eq_8, evE.eq_9, evE.eq_10, evE.eq_11, evE.eq_12, evE.eq_13, evE.eq_14, evE.eq_15, evE.eq_16, evE.eq_17, evE.eq_18, evE.eq_19, evE.eq_20, evE.eq_21, evE.eq_25, evE.eq_26, evE.eq_27, evE.eq_28, evE.eq_31, evSs, evS, evOp, evC, evEs, opnd, Opd.val, Slot.val, slotAt, fixv, isiV, isiF, typ, asBool, cmpF, endF, keptIo, lift, pur, bltF, len, assn, assns, evE.eq_22, evAs, argOf, callF, ioNd, order, finish, putBack, Arg.slot, Arg.isN, Arg.isAt, Arg.isV, ownAt, newArg, idxF, ixN, binF, evE.eq_24, fn_Graph_ways, ir_Graph_ways, g_obj, qw, i1, h])
    rw [this, fm_if]
    rfl
  have e : evSs tab (evF tab (k + 1)) (ev2 tab (k + 1)).2 ir_Graph_part.body [.fz (graphV L D A C), .fz (pv first), .fz iv, .un] = some (.ok (.rt (.ow (.lst ((partG L A ins first).map pv)))) [.fz (graphV L D A C), .fz (pv first), .fz iv, .un]) := by
    simp only [ir_Graph_part, evSs, evS, hlc, bnd_ok, pur]
  show endF _ _ (evSs tab (evF tab (k + 1)) (ev2 tab (k + 1)).2 ir_Graph_part.body [.fz (graphV L D A C), .fz (pv first), .fz iv, .un]) = _
  rw [e]
  simp [endF, keptIo, ir_Graph_part]
omit hL G in
theorem idx_col {col : Nat} (hC : ∀ a ∈ D, col < (C a).length) {a : α} (ha : a ∈ D) : idxF (.tup ((C a).map .int)) (.int (col : Nat)) = some (.int ((C a).getD col 0)) := by
  have h := hC a ha
  simp only [idxF, ixN]
  rw [if_pos ⟨by omega, by rw [List.length_map]; omega⟩]
  simp [List.getD_eq_getElem?_getD, h]
theorem q_up_to (k : Nat) {col : Nat} (hC : ∀ a ∈ D, col < (C a).length) (c : Int) (hn : ins.length ≤ 1000) :
    evF tab (k + 1) "Graph.up_to" [.fz (graphV L D A C), .fz iv, .fz (.int (col : Nat)), .fz (.int c)] = some (.ok (.ow (.lst ((uptoG (fun a => (C a).getD col 0) ins c).map pv))) [.fz (graphV L D A C), .fz iv, .fz (.int (col : Nat)), .fz (.int c)]) := by
  rw [evF_succ, run_def fn_Graph_up_to (tab_ext _) rfl]
  have fl : tab.fld "Graph" "colours" = true := by kernel_rfl
  have hit : evIt tab (evF tab k) (ev2 tab k).2 (.seq (.v 1)) [.fz (graphV L D A C), .fz iv, .fz (.int (col : Nat)), .fz (.int c), .un] = some (.ok (ins.map pv) [.fz (graphV L D A C), .fz iv, .fz (.int (col : Nat)), .fz (.int c), .un]) := by
    simp [evIt, evE.eq_1, evE.eq_2, evE.eq_3, evE.eq_4, evE.eq_5, evE.eq_6, evE.eq_7, evE.eq_8, evE.eq_9, evE.eq_10, evE.eq_11, evE.eq_12, evE.eq_13, evE.eq_14, evE.eq_15, evE.eq_16, evE.eq_17, evE.eq_18, evE.eq_19, evE.eq_20, evE.eq_21, evE.eq_25, evE.eq_26, evE.eq_27, evE.eq_28, evE.eq_31, evSs, evS, evOp, evC, evEs, opnd, Opd.val, Slot.val, slotAt, fixv, isiV, isiF, typ, asBool, cmpF, endF, keptIo, lift, pur, bltF, len, assn, assns, evE.eq_22, evAs, argOf, callF, ioNd, order, finish, putBack, Arg.slot, Arg.isN, Arg.isAt, Arg.isV, ownAt, newArg, idxF, ixN, binF, hI.items]
  have hlc : evE tab (evF tab k) (ev2 tab k).2 (.lc [4] (.nm 4) (.seq (.v 1)) (some (.cmp .le (.idx (.idx (.fld (.v 0) "colours") (.v 4)) (.v 2)) (.v 3))) (.v 4)) [.fz (graphV L D A C), .fz iv, .fz (.int (col : Nat)), .fz (.int c), .un] = some (.ok (.ow (.lst ((uptoG (fun a => (C a).getD col 0) ins c).map pv))) [.fz (graphV L D A C), .fz iv, .fz (.int (col : Nat)), .fz (.int c), .un]) := by
    have := ev_lcB pv (fun p => if decide ((C p).getD col 0 ≤ c) then some (pv p) else none) hit (ns := [4]) (t := .nm 4) (c := (some (.cmp .le (.idx (.idx (.fld (.v 0) "colours") (.v 4)) (.v 2)) (.v 3)))) (e := .v 4) (by unfold cap; omega) rfl rfl (fun x hx => by
      refine ⟨[.fz (graphV L D A C), .fz iv, .fz (.int (col : Nat)), .fz (.int c), .fz (pv x)], [.fz (graphV L D A C), .fz iv, .fz (.int (col : Nat)), .fz (.int c), .fz (pv x)], rfl, ?_, rfl⟩
      have i1 := idx_dct (hi x hx) fun a => .tup ((C a).map .int)
      have i2 := idx_col (C := C) hI hi hC (hi x hx)
      generalize (C x).getD col 0 = d at i2 ⊢
      by_cases h : d ≤ c <;> simp only [lcF, evE.eq_1, evE.eq_2, evE.eq_3, evE.eq_4, evE.eq_5, evE.eq_6, evE.eq_7, evE.eq_8, evE.eq_9, evE.eq_10, evE.eq_11, evE.eq_12, evE.eq_13, evE.eq_14, evE.eq_15, evE.eq_16, evE.eq_17, evE.eq_18, evE.eq_19, evE.eq_20, evE.eq_21, evE.eq_25, evE.eq_26, evE.eq_27, evE.eq_28, evE.eq_31, evSs, evS, evOp, evC, evEs, opnd, Opd.val, Slot.val, slotAt, fixv, isiV, isiF, typ, asBool, cmpF, endF, keptIo, lift, pur, bltF, len, assn, assns, graphV, List.getElem?_cons_succ, List.getElem?_cons_zero, Option.bind_some, Option.isSome_some, if_true, bnd_ok, bnd_pur, pur, fl, lk3, i1, i2, Option.map_some] <;> simp [h, i1, i2])
    rw [this, fm_if]
    rfl
  have e : evSs tab (evF tab k) (ev2 tab k).2 ir_Graph_up_to.body [.fz (graphV L D A C), .fz iv, .fz (.int (col : Nat)), .fz (.int c), .un] = some (.ok (.rt (.ow (.lst ((uptoG (fun a => (C a).getD col 0) ins c).map pv)))) [.fz (graphV L D A C), .fz iv, .fz (.int (col : Nat)), .fz (.int c), .un]) := by
    simp only [ir_Graph_up_to, evSs, evS, hlc, bnd_ok, pur]
  show endF _ _ (evSs tab (evF tab k) (ev2 tab k).2 ir_Graph_up_to.body [.fz (graphV L D A C), .fz iv, .fz (.int (col : Nat)), .fz (.int c), .un]) = _
  rw [e]
  simp [endF, keptIo, ir_Graph_up_to]
theorem q_has (k : Nat) {col : Nat} (hC : ∀ a ∈ D, col < (C a).length) (c : Int) (hn : ins.length ≤ 1000) :
    evF tab (k + 1) "Graph.has" [.fz (graphV L D A C), .fz iv, .fz (.int (col : Nat)), .fz (.int c)] = some (.ok (.ow (.lst ((hasG (fun a => (C a).getD col 0) ins c).map pv))) [.fz (graphV L D A C), .fz iv, .fz (.int (col : Nat)), .fz (.int c)]) := by
  rw [evF_succ, run_def fn_Graph_has (tab_ext _) rfl]
  have fl : tab.fld "Graph" "colours" = true := by kernel_rfl
  have hit : evIt tab (evF tab k) (ev2 tab k).2 (.seq (.v 1)) [.fz (graphV L D A C), .fz iv, .fz (.int (col : Nat)), .fz (.int c), .un] = some (.ok (ins.map pv) [.fz (graphV L D A C), .fz iv, .fz (.int (col : Nat)), .fz (.int c), .un]) := by
    simp [evIt, evE.eq_1, evE.eq_2, evE.eq_3, evE.eq_4, evE.eq_5, evE.eq_6, evE.eq_7, evE.eq_8, evE.eq_9, evE.eq_10, evE.eq_11, evE.eq_12, evE.eq_13, evE.eq_14, evE.eq_15, evE.eq_16, evE.eq_17, evE.eq_18, evE.eq_19, evE.eq_20, evE.eq_21, evE.eq_25, evE.eq_26, evE.eq_27, evE.eq_28, evE.eq_31, evSs, evS, evOp, evC, evEs, opnd, Opd.val, Slot.val, slotAt, fixv, isiV, isiF, typ, asBool, cmpF, endF, keptIo, lift, pur, bltF, len, assn, assns, evE.eq_22, evAs, argOf, callF, ioNd, order, finish, putBack, Arg.slot, Arg.isN, Arg.isAt, Arg.isV, ownAt, newArg, idxF, ixN, binF, hI.items]
  have hlc : evE tab (evF tab k) (ev2 tab k).2 (.lc [4] (.nm 4) (.seq (.v 1)) (some (.cmp .eq (.idx (.idx (.fld (.v 0) "colours") (.v 4)) (.v 2)) (.v 3))) (.v 4)) [.fz (graphV L D A C), .fz iv, .fz (.int (col : Nat)), .fz (.int c), .un] = some (.ok (.ow (.lst ((hasG (fun a => (C a).getD col 0) ins c).map pv))) [.fz (graphV L D A C), .fz iv, .fz (.int (col : Nat)), .fz (.int c), .un]) := by
    have := ev_lcB pv (fun p => if decide ((C p).getD col 0 = c) then some (pv p) else none) hit (ns := [4]) (t := .nm 4) (c := (some (.cmp .eq (.idx (.idx (.fld (.v 0) "colours") (.v 4)) (.v 2)) (.v 3)))) (e := .v 4) (by unfold cap; omega) rfl rfl (fun x hx => by
      refine ⟨[.fz (graphV L D A C), .fz iv, .fz (.int (col : Nat)), .fz (.int c), .fz (pv x)], [.fz (graphV L D A C), .fz iv, .fz (.int (col : Nat)), .fz (.int c), .fz (pv x)], rfl, ?_, rfl⟩
      have i1 := idx_dct (hi x hx) fun a => .tup ((C a).map .int)
      have i2 := idx_col (C := C) hI hi hC (hi x hx)
      generalize (C x).getD col 0 = d at i2 ⊢
      by_cases h : d = c <;> simp only [lcF, evE.eq_1, evE.eq_2, evE.eq_3, evE.eq_4, evE.eq_5, evE.eq_6, evE.eq_7, evE.eq_8, evE.eq_9, evE.eq_10, evE.eq_11, evE.eq_12, evE.eq_13, evE.eq_14, evE.eq_15, evE.eq_16, evE.eq_17, evE.eq_18, evE.eq_19, evE.eq_20, evE.eq_21, evE.eq_25, evE.eq_26, evE.eq_27, evE.eq_28, evE.eq_31, evSs, evS, evOp, evC, evEs, opnd, Opd.val, Slot.val, slotAt, fixv, isiV, isiF, typ, asBool, cmpF, endF, keptIo, lift, pur, bltF, len, assn, assns, graphV, List.getElem?_cons_succ, List.getElem?_cons_zero, Option.bind_some, Option.isSome_some, if_true, bnd_ok, bnd_pur, pur, fl, lk3, i1, i2, Option.map_some, eqF_int] <;> simp [h, i1, i2, eqF_int])
    rw [this, fm_if]
    rfl
  have e : evSs tab (evF tab k) (ev2 tab k).2 ir_Graph_has.body [.fz (graphV L D A C), .fz iv, .fz (.int (col : Nat)), .fz (.int c), .un] = some (.ok (.rt (.ow (.lst ((hasG (fun a => (C a).getD col 0) ins c).map pv)))) [.fz (graphV L D A C), .fz iv, .fz (.int (col : Nat)), .fz (.int c), .un]) := by
    simp only [ir_Graph_has, evSs, evS, hlc, bnd_ok, pur]
  show endF _ _ (evSs tab (evF tab k) (ev2 tab k).2 ir_Graph_has.body [.fz (graphV L D A C), .fz iv, .fz (.int (col : Nat)), .fz (.int c), .un]) = _
  rw [e]
  simp [endF, keptIo, ir_Graph_has]
end
end EV
namespace EV
open PySem GH Pl
section
variable {α : Type} [DecidableEq α] [Pl α]
def lotV (P : List α) : Val := .lst (P.map pv)
def doneV (l : List α) : Val := .dct (l.map fun a => (pv a, .bl true))
def pRo (g iv : Val) (st : List (List α) × List α) (s4 s5 s6 : Slot) : Ro := [.fz g, .fz iv, .ow (.lst (st.1.map lotV)), .ow (doneV st.2), s4, s5, s6]
abbrev pBody : List Sx := [(.ife (.cmp .notin (.v 4) (.v 3)) [(.asg (.nm 5) (.mth "Graph.part" "Graph" "part" (.v 0) [(.v 4), (.v 1)])), (.mut 3 .update [(.dc [6] (.nm 6) (.seq (.v 5)) (.v 6) (.bl true))]), (.ife (.or (.cmp .gt (.blt .len [(.v 5)]) (.int 1)) (.cmp .isin (.v 4) (.idx (.fld (.v 0) "arrows") (.v 4)))) [(.mut 2 .append [(.v 5)])] [])] [])]
theorem in_done (x : α) (l : List α) : inF (pv x) (doneV l) = some (decide (x ∈ l)) := by
  have := in_dct x l id fun _ => .bl true
  simpa [doneV] using this
theorem upd_done {l r : List α} (hr : r.Nodup) (h : l.length + r.length ≤ 1000) : mutF .update (doneV l) [.dct (r.map fun a => (pv a, .bl true))] = some (doneV (l ++ r.filter fun x => decide (x ∉ l))) := by
  have h1 : ∀ m : List α, ((m.map fun a => (pv a, Val.bl true)).all fun p => keyOk p.1) = true := by
    intro m
    rw [List.all_map, List.all_eq_true]
    exact fun x _ => key x
  simp only [mutF, doneV]
  rw [h1, h1, if_pos (by simp [h]), put_trues r l hr]
variable {L : List Nat} {D : List α} {A : α → List α} {C : α → List Int} (G : GrOk L D A) (hL : L.length ≤ 100) {iv : Val} {ins : List α} (hI : InsV iv ins) (hi : ∀ x ∈ ins, x ∈ D)
include G hL hI hi
theorem partG_le {x : α} (hx : x ∈ D) : (partG L A ins x).length ≤ D.length := by
  have h1 := waysG_len (L := L) (A := A) hx hi
  have h2 : (partG L A ins x).length ≤ (keysG (waysG L A ins x)).length := List.length_filter_le _ _
  unfold keysG at h2
  rw [List.length_map] at h2
  omega
theorem p_turn (k : Nat) (st : List (List α) × List α) (x : α) (hx : x ∈ ins) (s5 s6 : Slot) (h6 : ∀ v, s6 ≠ .ow v) (hd : st.2.length ≤ 400) (h1 : st.1.length ≤ 1000) :
    ∃ s5', evSs tab (evF tab (k + 2)) (ev2 tab (k + 2)).2 pBody (pRo (graphV L D A C) iv st (.fz (pv x)) s5 s6) = some (.ok .nx (pRo (graphV L D A C) iv (partsStepG L A ins st x) (.fz (pv x)) s5' s6)) := by
  have hs := G.small
  have i1 := in_done x st.2
  by_cases h : x ∈ st.2
  · refine ⟨s5, ?_⟩
    have e : partsStepG L A ins st x = st := by unfold partsStepG; rw [if_pos h]
    rw [e]
    simp [pRo, evE.eq_1, evE.eq_2, evE.eq_3, evE.eq_4, evE.eq_5, evE.eq_6, evE.eq_7, evE.eq_8, evE.eq_9, evE.eq_10, evE.eq_11, evE.eq_12, evE.eq_13, evE.eq_14, evE.eq_15, evE.eq_16, evE.eq_17, evE.eq_18, evE.eq_19, evE.eq_20, evE.eq_21, evE.eq_25, evE.eq_26, evE.eq_27, evE.eq_28, evE.eq_31, evSs, evS, evOp, evC, evEs, opnd, Opd.val, Slot.val, slotAt, fixv, isiV, isiF, typ, asBool, cmpF, endF, keptIo, lift, pur, bltF, len, assn, assns, i1, h]
  · refine ⟨.fz (lotV (partG L A ins x)), ?_⟩
    have e : partsStepG L A ins st x = (if 1 < (partG L A ins x).length ∨ x ∈ A x then st.1 ++ [partG L A ins x] else st.1, st.2 ++ (partG L A ins x).filter fun x => decide (x ∉ st.2)) := by unfold partsStepG; rw [if_neg h]
    have hl := partG_le G hL hI hi (hi x hx)
    have qp := q_part (C := C) G hL hI hi k (hi x hx)
    have b1 : evS tab (evF tab (k + 2)) (ev2 tab (k + 2)).2 (.asg (.nm 5) (.mth "Graph.part" "Graph" "part" (.v 0) [(.v 4), (.v 1)])) (pRo (graphV L D A C) iv st (.fz (pv x)) s5 s6) = some (.ok .nx (pRo (graphV L D A C) iv st (.fz (pv x)) (.ow (lotV (partG L A ins x))) s6)) := by
      simp [pRo, evE.eq_1, evE.eq_2, evE.eq_3, evE.eq_4, evE.eq_5, evE.eq_6, evE.eq_7, evE.eq_8, evE.eq_9, evE.eq_10, evE.eq_11, evE.eq_12, evE.eq_13, evE.eq_14, evE.eq_15, evE.eq_16, evE.eq_17, evE.eq_18, evE.eq_19, evE.eq_20, evE.eq_21, evE.eq_25, evE.eq_26, evE.eq_27, evE.eq_28, evE.eq_31, evSs, evS, evOp, evC, evEs, opnd, Opd.val, Slot.val, slotAt, fixv, isiV, isiF, typ, asBool, cmpF, endF, keptIo, lift, pur, bltF, len, assn, assns, evE.eq_22, evAs, argOf, callF, ioNd, order, finish, putBack, Arg.slot, Arg.isN, Arg.isAt, Arg.isV, ownAt, newArg, idxF, ixN, binF, evE.eq_24, fn_Graph_part, ir_Graph_part, g_obj, qp, lotV]
    have hdc : evE tab (evF tab (k + 2)) (ev2 tab (k + 2)).2 (.dc [6] (.nm 6) (.seq (.v 5)) (.v 6) (.bl true)) (pRo (graphV L D A C) iv st (.fz (pv x)) (.ow (lotV (partG L A ins x))) s6) = some (.ok (.ow (.dct ((partG L A ins x).map fun a => (pv a, .bl true)))) (pRo (graphV L D A C) iv st (.fz (pv x)) (.fz (lotV (partG L A ins x))) s6)) := by
      have hit : evIt tab (evF tab (k + 2)) (ev2 tab (k + 2)).2 (.seq (.v 5)) (pRo (graphV L D A C) iv st (.fz (pv x)) (.ow (lotV (partG L A ins x))) s6) = some (.ok ((partG L A ins x).map pv) (pRo (graphV L D A C) iv st (.fz (pv x)) (.fz (lotV (partG L A ins x))) s6)) := by
        simp [evIt, pRo, evE.eq_1, evE.eq_2, evE.eq_3, evE.eq_4, evE.eq_5, evE.eq_6, evE.eq_7, evE.eq_8, evE.eq_9, evE.eq_10, evE.eq_11, evE.eq_12, evE.eq_13, evE.eq_14, evE.eq_15, evE.eq_16, evE.eq_17, evE.eq_18, evE.eq_19, evE.eq_20, evE.eq_21, evE.eq_25, evE.eq_26, evE.eq_27, evE.eq_28, evE.eq_31, evSs, evS, evOp, evC, evEs, opnd, Opd.val, Slot.val, slotAt, fixv, isiV, isiF, typ, asBool, cmpF, endF, keptIo, lift, pur, bltF, len, assn, assns, evE.eq_22, evAs, argOf, callF, ioNd, order, finish, putBack, Arg.slot, Arg.isN, Arg.isAt, Arg.isV, ownAt, newArg, idxF, ixN, binF, lotV, itemsF]
      exact ev_dcB pv id (fun _ => .bl true) (by simpa using partG_nodup L A ins x) hit (ns := [6]) (t := .nm 6) (k := .v 6) (e := .bl true) (by unfold cap; omega) (by cases s6 with
        | ow v => exact absurd rfl (h6 v)
        | fz v => rfl
        | un => rfl) rfl (fun y _ => ⟨(pRo (graphV L D A C) iv st (.fz (pv x)) (.fz (lotV (partG L A ins x))) (.fz (pv y))), (pRo (graphV L D A C) iv st (.fz (pv x)) (.fz (lotV (partG L A ins x))) (.fz (pv y))), rfl, by simp [dcF, pRo, evE.eq_1, evE.eq_2, evE.eq_3, evE.eq_4, evE.eq_5, evE.eq_6, evE.eq_7, evE.eq_8, evE.eq_9, evE.eq_10, evE.eq_11, evE.eq_12, evE.eq_13, evE.eq_14, evE.eq_15, evE.eq_16, evE.eq_17, evE.eq_18, evE.eq_19, evE.eq_20, evE.eq_21, evE.eq_25, evE.eq_26, evE.eq_27, evE.eq_28, evE.eq_31, evSs, evS, evOp, evC, evEs, opnd, Opd.val, Slot.val, slotAt, fixv, isiV, isiF, typ, asBool, cmpF, endF, keptIo, lift, pur, bltF, len, assn, assns, evE.eq_22, evAs, argOf, callF, ioNd, order, finish, putBack, Arg.slot, Arg.isN, Arg.isAt, Arg.isV, ownAt, newArg, idxF, ixN, binF], rfl⟩)
    have up := upd_done (l := st.2) (partG_nodup L A ins x) (by omega)
    have b2 : evS tab (evF tab (k + 2)) (ev2 tab (k + 2)).2 (.mut 3 .update [(.dc [6] (.nm 6) (.seq (.v 5)) (.v 6) (.bl true))]) (pRo (graphV L D A C) iv st (.fz (pv x)) (.ow (lotV (partG L A ins x))) s6) = some (.ok .nx (pRo (graphV L D A C) iv (st.1, st.2 ++ (partG L A ins x).filter fun x => decide (x ∉ st.2)) (.fz (pv x)) (.fz (lotV (partG L A ins x))) s6)) := by
      have o1 : ∀ s5, ownAt 3 (pRo (graphV L D A C) iv st (.fz (pv x)) s5 s6) = some (doneV st.2) := fun _ => rfl
      simp only [evS, o1, evEs, hdc, bnd_ok, fixv, pur, bnd_pur, Option.map_some, mutK, doneV, Option.getD_some, Bool.not_true, Bool.false_eq_true, if_false, Option.bind_some]
      have up' := up
      unfold doneV at up'
      rw [up']
      rfl
    have i2 := in_tup x (A x)
    have i3 := idx_dct (hi x hx) fun a => .tup ((A a).map pv)
    have fl : tab.fld "Graph" "arrows" = true := by kernel_rfl
    have c1 : st.1.length < cap := by unfold cap; omega
    have b3 : ∀ dn : List α, evS tab (evF tab (k + 2)) (ev2 tab (k + 2)).2 (.ife (.or (.cmp .gt (.blt .len [(.v 5)]) (.int 1)) (.cmp .isin (.v 4) (.idx (.fld (.v 0) "arrows") (.v 4)))) [(.mut 2 .append [(.v 5)])] []) (pRo (graphV L D A C) iv (st.1, dn) (.fz (pv x)) (.fz (lotV (partG L A ins x))) s6) = some (.ok .nx (pRo (graphV L D A C) iv (if 1 < (partG L A ins x).length ∨ x ∈ A x then st.1 ++ [partG L A ins x] else st.1, dn) (.fz (pv x)) (.fz (lotV (partG L A ins x))) s6)) := by
      intro dn
      by_cases g1 : 1 < (partG L A ins x).length
      · rw [if_pos (.inl g1)]
        have g1' : (1 : Int) < ((partG L A ins x).length : Nat) := by omega
        simp [pRo, evE.eq_1, evE.eq_2, evE.eq_3, evE.eq_4, evE.eq_5, evE.eq_6, evE.eq_7, evE.eq_8, evE.eq_9, evE.eq_10, evE.eq_11, evE.eq_12, evE.eq_13, evE.eq_14, evE.eq_15, evE.eq_16, evE.eq_17, evE.eq_18, evE.eq_19, evE.eq_20, evE.eq_21, evE.eq_25, evE.eq_26, evE.eq_27, evE.eq_28, evE.eq_31, evSs, evS, evOp, evC, evEs, opnd, Opd.val, Slot.val, slotAt, fixv, isiV, isiF, typ, asBool, cmpF, endF, keptIo, lift, pur, bltF, len, assn, assns, evE.eq_22, evAs, argOf, callF, ioNd, order, finish, putBack, Arg.slot, Arg.isN, Arg.isAt, Arg.isV, ownAt, newArg, idxF, ixN, binF, lotV, g1', mutK, mutF, c1]
      · have g1' : ¬ (1 : Int) < ((partG L A ins x).length : Nat) := by omega
        by_cases g2 : x ∈ A x
        · rw [if_pos (.inr g2)]
          simp [pRo, evE.eq_1, evE.eq_2, evE.eq_3, evE.eq_4, evE.eq_5, evE.eq_6, evE.eq_7, evE.eq_8, evE.eq_9, evE.eq_10, evE.eq_11, evE.eq_12, evE.eq_13, evE.eq_14, evE.eq_15, evE.eq_16, evE.eq_17, evE.eq_18, evE.eq_19, evE.eq_20, evE.eq_21, evE.eq_25, evE.eq_26, evE.eq_27, evE.eq_28, evE.eq_31, evSs, evS, evOp, evC, evEs, opnd, Opd.val, Slot.val, slotAt, fixv, isiV, isiF, typ, asBool, cmpF, endF, keptIo, lift, pur, bltF, len, assn, assns, lotV, g1', g2, mutK, mutF, c1, graphV, fl, lk2, i2, i3, ownAt]
        · rw [if_neg (fun z => z.elim g1 g2)]
          simp [pRo, evE.eq_1, evE.eq_2, evE.eq_3, evE.eq_4, evE.eq_5, evE.eq_6, evE.eq_7, evE.eq_8, evE.eq_9, evE.eq_10, evE.eq_11, evE.eq_12, evE.eq_13, evE.eq_14, evE.eq_15, evE.eq_16, evE.eq_17, evE.eq_18, evE.eq_19, evE.eq_20, evE.eq_21, evE.eq_25, evE.eq_26, evE.eq_27, evE.eq_28, evE.eq_31, evSs, evS, evOp, evC, evEs, opnd, Opd.val, Slot.val, slotAt, fixv, isiV, isiF, typ, asBool, cmpF, endF, keptIo, lift, pur, bltF, len, assn, assns, lotV, g1', g2, mutK, mutF, c1, graphV, fl, lk2, i2, i3, ownAt]
    have ht : evE tab (evF tab (k + 2)) (ev2 tab (k + 2)).2 (.cmp .notin (.v 4) (.v 3)) (pRo (graphV L D A C) iv st (.fz (pv x)) s5 s6) = some (.ok (.fz (.bl true)) (pRo (graphV L D A C) iv st (.fz (pv x)) s5 s6)) := by
      simp [pRo, evE.eq_1, evE.eq_2, evE.eq_3, evE.eq_4, evE.eq_5, evE.eq_6, evE.eq_7, evE.eq_8, evE.eq_9, evE.eq_10, evE.eq_11, evE.eq_12, evE.eq_13, evE.eq_14, evE.eq_15, evE.eq_16, evE.eq_17, evE.eq_18, evE.eq_19, evE.eq_20, evE.eq_21, evE.eq_25, evE.eq_26, evE.eq_27, evE.eq_28, evE.eq_31, evSs, evS, evOp, evC, evEs, opnd, Opd.val, Slot.val, slotAt, fixv, isiV, isiF, typ, asBool, cmpF, endF, keptIo, lift, pur, bltF, len, assn, assns, i1, h]
    rw [e]
    simp only [pBody, evSs]
    rw [evS_ife, ht]
    simp only [asBool, bnd_ok, bnd_pur, pur, if_true, evSs, b1, b2, b3]
theorem q_parts (k : Nat) (hn : ins.length ≤ 400) : evF tab (k + 3) "Graph.parts" [.fz (graphV L D A C), .fz iv] = some (.ok (.ow (.lst ((partsG L A ins).map lotV))) [.fz (graphV L D A C), .fz iv]) := by
  rw [evF_succ, run_def fn_Graph_parts (tab_ext _) rfl]
  have hs := G.small
  have loop : ∀ (xs : List α) (st : List (List α) × List α) (s4 s5 : Slot), (∀ x ∈ xs, x ∈ ins) → st.2.Nodup → (∀ x ∈ st.2, x ∈ D) → st.1.length + xs.length ≤ 1000 → ∃ s4' s5', forF (evSs tab (evF tab (k + 2)) (ev2 tab (k + 2)).2 pBody) (.nm 4) (xs.map pv) (pRo (graphV L D A C) iv st s4 s5 .un) = some (.ok .nx (pRo (graphV L D A C) iv (xs.foldl (partsStepG L A ins) st) s4' s5' .un)) := by
    intro xs
    induction xs with
    | nil => exact fun st s4 s5 _ _ _ _ => ⟨s4, s5, rfl⟩
    | cons x xs ih =>
      intro st s4 s5 hx hn hd hl
      rw [List.length_cons] at hl
      have hxi := hx x List.mem_cons_self
      obtain ⟨s5', t1⟩ := p_turn (C := C) G hL hI hi k st x hxi s5 .un nofun (Nat.le_trans (nodup_le hn hd) hs) (by omega)
      have hst1 : (partsStepG L A ins st x).1.length ≤ st.1.length + 1 := by
        unfold partsStepG
        split
        · omega
        · split <;> simp
      have hst2 : ∀ y ∈ (partsStepG L A ins st x).2, y ∈ D := by
        unfold partsStepG
        split
        · exact hd
        · intro y hy
          rcases List.mem_append.mp hy with z | z
          · exact hd y z
          · exact hi y (partG_sub G hi hxi (List.mem_filter.mp z).1)
      obtain ⟨s4', s5'', ih'⟩ := ih (partsStepG L A ins st x) (.fz (pv x)) s5' (fun y hy => hx y (List.mem_cons_of_mem _ hy)) (partsStepG_done hn) hst2 (by omega)
      refine ⟨s4', s5'', ?_⟩
      have as1 : assn (.nm 4) (.fz (pv x)) (pRo (graphV L D A C) iv st s4 s5 .un) = some (pRo (graphV L D A C) iv st (.fz (pv x)) s5 .un) := rfl
      rw [List.map_cons, List.foldl_cons]
      simp only [forF, as1, t1, bnd_ok]
      exact ih'
  obtain ⟨s4, s5, h1⟩ := loop ins ([], []) .un .un (fun _ h => h) (by simp) (by simp) (by simp; omega)
  have st0 : evS tab (evF tab (k + 2)) (ev2 tab (k + 2)).2 (.par [2, 3] [(.lst []), (.dct [] [])]) [.fz (graphV L D A C), .fz iv, .un, .un, .un, .un, .un] = some (.ok .nx (pRo (graphV L D A C) iv (([], []) : List (List α) × List α) .un .un .un)) := by
    simp [pRo, evSl, setAll, evE.eq_1, evE.eq_2, evE.eq_3, evE.eq_4, evE.eq_5, evE.eq_6, evE.eq_7, evE.eq_8, evE.eq_9, evE.eq_10, evE.eq_11, evE.eq_12, evE.eq_13, evE.eq_14, evE.eq_15, evE.eq_16, evE.eq_17, evE.eq_18, evE.eq_19, evE.eq_20, evE.eq_21, evE.eq_25, evE.eq_26, evE.eq_27, evE.eq_28, evE.eq_31, evSs, evS, evOp, evC, evEs, opnd, Opd.val, Slot.val, slotAt, fixv, isiV, isiF, typ, asBool, cmpF, endF, keptIo, lift, pur, bltF, len, assn, assns, dct0, doneV]
  have st1 : evS tab (evF tab (k + 2)) (ev2 tab (k + 2)).2 (.for_ (.nm 4) (.seq (.v 1)) pBody) (pRo (graphV L D A C) iv (([], []) : List (List α) × List α) .un .un .un) = some (.ok .nx (pRo (graphV L D A C) iv (ins.foldl (partsStepG L A ins) ([], [])) s4 s5 .un)) := by
    have hit : evIt tab (evF tab (k + 2)) (ev2 tab (k + 2)).2 (.seq (.v 1)) (pRo (graphV L D A C) iv (([], []) : List (List α) × List α) .un .un .un) = some (.ok (ins.map pv) (pRo (graphV L D A C) iv (([], []) : List (List α) × List α) .un .un .un)) := by
      simp [evIt, pRo, evE.eq_1, evE.eq_2, evE.eq_3, evE.eq_4, evE.eq_5, evE.eq_6, evE.eq_7, evE.eq_8, evE.eq_9, evE.eq_10, evE.eq_11, evE.eq_12, evE.eq_13, evE.eq_14, evE.eq_15, evE.eq_16, evE.eq_17, evE.eq_18, evE.eq_19, evE.eq_20, evE.eq_21, evE.eq_25, evE.eq_26, evE.eq_27, evE.eq_28, evE.eq_31, evSs, evS, evOp, evC, evEs, opnd, Opd.val, Slot.val, slotAt, fixv, isiV, isiF, typ, asBool, cmpF, endF, keptIo, lift, pur, bltF, len, assn, assns, evE.eq_22, evAs, argOf, callF, ioNd, order, finish, putBack, Arg.slot, Arg.isN, Arg.isAt, Arg.isV, ownAt, newArg, idxF, ixN, binF, hI.items]
    simp only [evS, hit, bnd_ok]
    rw [if_pos (by rw [List.length_map]; unfold cap; omega), h1]
  have e : evSs tab (evF tab (k + 2)) (ev2 tab (k + 2)).2 ir_Graph_parts.body [.fz (graphV L D A C), .fz iv, .un, .un, .un, .un, .un] = some (.ok (.rt (.ow (.lst ((partsG L A ins).map lotV)))) ((pRo (graphV L D A C) iv (ins.foldl (partsStepG L A ins) ([], [])) s4 s5 .un).set 2 .un)) := by
    have st2 : evS tab (evF tab (k + 2)) (ev2 tab (k + 2)).2 (.ret (.v 2)) (pRo (graphV L D A C) iv (ins.foldl (partsStepG L A ins) ([], [])) s4 s5 .un) = some (.ok (.rt (.ow (.lst ((partsG L A ins).map lotV)))) ((pRo (graphV L D A C) iv (ins.foldl (partsStepG L A ins) ([], [])) s4 s5 .un).set 2 .un)) := rfl
    have spl : ir_Graph_parts.body = [(.par [2, 3] [(.lst []), (.dct [] [])]), (.for_ (.nm 4) (.seq (.v 1)) pBody), .ret (.v 2)] := rfl
    rw [spl]
    simp only [evSs, st0, st1, st2, bnd_ok, pur]
  show endF _ _ (evSs tab (evF tab (k + 2)) (ev2 tab (k + 2)).2 ir_Graph_parts.body [.fz (graphV L D A C), .fz iv, .un, .un, .un, .un, .un]) = _
  rw [e]
  simp [endF, keptIo, ir_Graph_parts, pRo]
end
end EV
namespace EV
open PySem GH Pl
section
variable {α : Type} [DecidableEq α] [Pl α]
def loopV (x : List α × α) : Val := .tup [lotV x.1, pv x.2]
def lRo (g iv : Val) (e : Int) (f : List (List α × α)) (s4 s5 : Slot) : Ro := [.fz g, .fz iv, .fz (.int e), .ow (.lst (f.map loopV)), s4, s5]
abbrev lIn : List Sx := [(.ife (.cmp .gt (.blt .len [(.mth "Graph.has" "Graph" "has" (.v 0) [(.v 5), (.int 0), (.v 4)])]) (.int 0)) [(.mut 3 .append [(.tup [(.v 5), (.idx (.mth "Graph.has" "Graph" "has" (.v 0) [(.v 5), (.int 0), (.v 4)]) (.int 0))])])] [])]
abbrev lOut : List Sx := [(.for_ (.nm 5) (.seq (.mth "Graph.parts" "Graph" "parts" (.v 0) [(.mth "Graph.up_to" "Graph" "up_to" (.v 0) [(.v 1), (.int 0), (.v 4)])])) lIn)]
/-- the colour of a place in the first column -/
def col0 (C : α → List Int) (a : α) : Int := (C a).getD 0 0
variable {L : List Nat} {D : List α} {A : α → List α} {C : α → List Int} (G : GrOk L D A) (hL : L.length ≤ 100) (hC : ∀ a ∈ D, 0 < (C a).length) {iv : Val} {ins : List α} (hI : InsV iv ins) (hi : ∀ x ∈ ins, x ∈ D)
include G hL hC
theorem l_turn (k : Nat) (e : Int) (f : List (List α × α)) (c : Int) (P : List α) (hP : ∀ x ∈ P, x ∈ D) (hPl : P.length ≤ 400) (hf : f.length ≤ 100000) :
    evSs tab (evF tab (k + 1)) (ev2 tab (k + 1)).2 lIn (lRo (graphV L D A C) iv e f (.fz (.int c)) (.fz (lotV P))) = some (.ok .nx (lRo (graphV L D A C) iv e (f ++ ((hasG (col0 C) P c).head?.map fun t => (P, t)).toList) (.fz (.int c)) (.fz (lotV P)))) := by
  have qh := q_has (C := C) (col := 0) G hL (insV_lst P) hP k hC c (by omega)
  have qh' : evF tab (k + 1) "Graph.has" [.fz (graphV L D A C), .fz (lotV P), .fz (.int 0), .fz (.int c)] = some (.ok (.ow (.lst ((hasG (col0 C) P c).map pv))) [.fz (graphV L D A C), .fz (lotV P), .fz (.int 0), .fz (.int c)]) := qh
  have c1 : f.length < cap := by unfold cap; omega
  have c2 : 2 ≤ cap := by unfold cap; omega
  have hc : ∀ f' : List (List α × α), evE tab (evF tab (k + 1)) (ev2 tab (k + 1)).2 (.mth "Graph.has" "Graph" "has" (.v 0) [(.v 5), (.int 0), (.v 4)]) (lRo (graphV L D A C) iv e f' (.fz (.int c)) (.fz (lotV P))) = some (.ok (.ow (.lst ((hasG (col0 C) P c).map pv))) (lRo (graphV L D A C) iv e f' (.fz (.int c)) (.fz (lotV P)))) := by
    intro f'
    simp [lRo, evE.eq_1, evE.eq_2, evE.eq_3, evE.eq_4, evE.eq_5, evE.eq_6, evE.eq_7, evE.eq_8, evE.eq_9, evE.eq_10, evE.eq_11, evE.eq_12, evE.eq_13, evE.eq_14, evE.eq_15, evE.eq_16, evE.eq_17, evE.eq_18, evE.eq_19, evE.eq_20, evE.eq_21, evE.eq_25, evE.eq_26, evE.eq_27, evE.eq_28, evE.eq_31, evSs, evS, evOp, evC, evEs, opnd, Opd.val, Slot.val, slotAt, fixv, isiV, isiF, typ, asBool, cmpF, endF, keptIo, lift, pur, bltF, len, assn, assns, evE.eq_22, evAs, argOf, callF, ioNd, order, finish, putBack, Arg.slot, Arg.isN, Arg.isAt, Arg.isV, ownAt, newArg, idxF, ixN, binF, evE.eq_24, fn_Graph_has, ir_Graph_has, g_obj, qh']
  cases hh : hasG (col0 C) P c with
  | nil =>
    rw [hh] at hc
    simp [evE.eq_1, evE.eq_2, evE.eq_3, evE.eq_4, evE.eq_5, evE.eq_6, evE.eq_7, evE.eq_8, evE.eq_9, evE.eq_10, evE.eq_11, evE.eq_12, evE.eq_13, evE.eq_14, evE.eq_15, evE.eq_16, evE.eq_17, evE.eq_18, evE.eq_19, evE.eq_20, evE.eq_21, evE.eq_25, evE.eq_26, evE.eq_27, evE.eq_28, evE.eq_31, evSs, evS, evOp, evC, evEs, opnd, Opd.val, Slot.val, slotAt, fixv, isiV, isiF, typ, asBool, cmpF, endF, keptIo, lift, pur, bltF, len, assn, assns, hc]
  | cons t ts =>
    rw [hh] at hc
    have ix : idxF (.lst ((t :: ts).map pv)) (.int 0) = some (pv t) := by simp [idxF, ixN]
    have h1 : evS tab (evF tab (k + 1)) (ev2 tab (k + 1)).2 (.mut 3 .append [(.tup [(.v 5), (.idx (.mth "Graph.has" "Graph" "has" (.v 0) [(.v 5), (.int 0), (.v 4)]) (.int 0))])]) (lRo (graphV L D A C) iv e f (.fz (.int c)) (.fz (lotV P))) = some (.ok .nx (lRo (graphV L D A C) iv e (f ++ [(P, t)]) (.fz (.int c)) (.fz (lotV P)))) := by
      have he : evE tab (evF tab (k + 1)) (ev2 tab (k + 1)).2 (.idx (.mth "Graph.has" "Graph" "has" (.v 0) [(.v 5), (.int 0), (.v 4)]) (.int 0)) (lRo (graphV L D A C) iv e f (.fz (.int c)) (.fz (lotV P))) = some (.ok (.fz (pv t)) (lRo (graphV L D A C) iv e f (.fz (.int c)) (.fz (lotV P)))) := by
        simp only [evE_idx, opnd, hc, bnd_ok, bnd_pur, pur, evE_int, Opd.val, Option.bind_some, ix, Option.map_some, lift]
      have h5 : evE tab (evF tab (k + 1)) (ev2 tab (k + 1)).2 (.v 5) (lRo (graphV L D A C) iv e f (.fz (.int c)) (.fz (lotV P))) = some (.ok (.fz (lotV P)) (lRo (graphV L D A C) iv e f (.fz (.int c)) (.fz (lotV P)))) := rfl
      have ho : ownAt 3 (lRo (graphV L D A C) iv e f (.fz (.int c)) (.fz (lotV P))) = some (.lst (f.map loopV)) := rfl
      simp only [evS, evEs, evE_tup, h5, he, ho, bnd_ok, bnd_pur, pur, fixv, mutK, Option.map_some, Option.getD_some, Bool.not_true, Bool.false_eq_true, if_false, List.length_cons, List.length_nil, Option.bind_some, mutF]
      rw [if_pos (by unfold cap; omega)]
      simp only [bnd_ok, ho, Option.bind_some]
      rw [if_pos (by rw [List.length_map]; exact c1)]
      simp [lRo, loopV]
    have ht : evE tab (evF tab (k + 1)) (ev2 tab (k + 1)).2 (.cmp .gt (.blt .len [(.mth "Graph.has" "Graph" "has" (.v 0) [(.v 5), (.int 0), (.v 4)])]) (.int 0)) (lRo (graphV L D A C) iv e f (.fz (.int c)) (.fz (lotV P))) = some (.ok (.fz (.bl true)) (lRo (graphV L D A C) iv e f (.fz (.int c)) (.fz (lotV P)))) := by
      simp [evE.eq_1, evE.eq_2, evE.eq_3, evE.eq_4, evE.eq_5, evE.eq_6, evE.eq_7, evE.eq_8, evE.eq_9, evE.eq_10, evE.eq_11, evE.eq_12, evE.eq_13, evE.eq_14, evE.eq_15, evE.eq_16, evE.eq_17, evE.eq_18, evE.eq_19, evE.eq_20, evE.eq_21, evE.eq_25, evE.eq_26, evE.eq_27, evE.eq_28, evE.eq_31, evSs, evS, evOp, evC, evEs, opnd, Opd.val, Slot.val, slotAt, fixv, isiV, isiF, typ, asBool, cmpF, endF, keptIo, lift, pur, bltF, len, assn, assns, hc]
    simp only [lIn, evSs]
    rw [evS_ife, ht]
    simp only [asBool, bnd_ok, bnd_pur, pur, if_true, evSs, h1]
    rfl
theorem l_inner (k : Nat) (e : Int) (c : Int) : ∀ (Ps : List (List α)) (f : List (List α × α)) (s5 : Slot), (∀ P ∈ Ps, (∀ x ∈ P, x ∈ D) ∧ P.length ≤ 400) → f.length + Ps.length ≤ 100000 →
    ∃ s5', forF (evSs tab (evF tab (k + 1)) (ev2 tab (k + 1)).2 lIn) (.nm 5) (Ps.map lotV) (lRo (graphV L D A C) iv e f (.fz (.int c)) s5) = some (.ok .nx (lRo (graphV L D A C) iv e (f ++ Ps.filterMap fun P => (hasG (col0 C) P c).head?.map fun t => (P, t)) (.fz (.int c)) s5'))
  | [], f, s5, _, _ => ⟨s5, by simp [forF, pur]⟩
  | P :: Ps, f, s5, hP, hl => by
    rw [List.length_cons] at hl
    have h0 := hP P List.mem_cons_self
    have t1 := l_turn (iv := iv) G hL hC k e f c P h0.1 h0.2 (by omega)
    have hq : (((hasG (col0 C) P c).head?.map fun t => (P, t)).toList).length ≤ 1 := by
      cases (hasG (col0 C) P c).head? <;> simp
    obtain ⟨s5', ih⟩ := l_inner k e c Ps (f ++ ((hasG (col0 C) P c).head?.map fun t => (P, t)).toList) (.fz (lotV P)) (fun Q hQ => hP Q (List.mem_cons_of_mem _ hQ)) (by rw [List.length_append]; omega)
    refine ⟨s5', ?_⟩
    have as1 : assn (.nm 5) (.fz (lotV P)) (lRo (graphV L D A C) iv e f (.fz (.int c)) s5) = some (lRo (graphV L D A C) iv e f (.fz (.int c)) (.fz (lotV P))) := rfl
    rw [List.map_cons]
    simp only [forF, as1, t1, bnd_ok]
    rw [ih, List.filterMap_cons, List.append_assoc]
    cases (hasG (col0 C) P c).head? <;> rfl
include hI hi
theorem l_outer (k : Nat) (e : Int) (hn : ins.length ≤ 400) : ∀ (cs : List Int) (f : List (List α × α)) (s4 s5 : Slot), f.length + 400 * cs.length ≤ 100000 →
    ∃ s4' s5', forF (evSs tab (evF tab (k + 3)) (ev2 tab (k + 3)).2 lOut) (.nm 4) (cs.map .int) (lRo (graphV L D A C) iv e f s4 s5) = some (.ok .nx (lRo (graphV L D A C) iv e (f ++ loopsG L A (col0 C) ins cs) s4' s5'))
  | [], f, s4, s5, _ => ⟨s4, s5, by simp [forF, pur, loopsG]⟩
  | c :: cs, f, s4, s5, hl => by
    rw [List.length_cons] at hl
    have hu : ∀ x ∈ uptoG (col0 C) ins c, x ∈ D := fun x hx => hi x (uptoG_mem.mp hx).1
    have hul : (uptoG (col0 C) ins c).length ≤ ins.length := List.length_filter_le _ _
    have hpl := partsG_len L A (uptoG (col0 C) ins c)
    obtain ⟨s5', t1⟩ := l_inner (iv := iv) G hL hC (k + 2) e c (partsG L A (uptoG (col0 C) ins c)) f s5 (fun P hP => by
      obtain ⟨q, hq, rfl, _⟩ := partsG_is G hu hP
      refine ⟨fun x hx => hu x (partG_sub G hu hq hx), ?_⟩
      have h1 := nodup_le (partG_nodup L A (uptoG (col0 C) ins c) q) (m := D) (fun x hx => hu x (partG_sub G hu hq hx))
      have h2 := G.small
      omega) (by omega)
    have hfl : ((partsG L A (uptoG (col0 C) ins c)).filterMap fun P => (hasG (col0 C) P c).head?.map fun t => (P, t)).length ≤ (partsG L A (uptoG (col0 C) ins c)).length := List.length_filterMap_le _ _
    obtain ⟨s4', s5'', ih⟩ := l_outer k e hn cs (f ++ (partsG L A (uptoG (col0 C) ins c)).filterMap fun P => (hasG (col0 C) P c).head?.map fun t => (P, t)) (.fz (.int c)) s5' (by rw [List.length_append]; omega)
    refine ⟨s4', s5'', ?_⟩
    have as1 : assn (.nm 4) (.fz (.int c)) (lRo (graphV L D A C) iv e f s4 s5) = some (lRo (graphV L D A C) iv e f (.fz (.int c)) s5) := rfl
    have qu : evF tab (k + 3) "Graph.up_to" [.fz (graphV L D A C), .fz iv, .fz (.int 0), .fz (.int c)] = some (.ok (.ow (lotV (uptoG (col0 C) ins c))) [.fz (graphV L D A C), .fz iv, .fz (.int 0), .fz (.int c)]) := q_up_to (C := C) (col := 0) G hL hI hi (k + 2) hC c (by omega)
    have qp : evF tab (k + 3) "Graph.parts" [.fz (graphV L D A C), .fz (lotV (uptoG (col0 C) ins c))] = some (.ok (.ow (.lst ((partsG L A (uptoG (col0 C) ins c)).map lotV))) [.fz (graphV L D A C), .fz (lotV (uptoG (col0 C) ins c))]) := q_parts (C := C) G hL (insV_lst _) hu k (by omega)
    have hit : evIt tab (evF tab (k + 3)) (ev2 tab (k + 3)).2 (.seq (.mth "Graph.parts" "Graph" "parts" (.v 0) [(.mth "Graph.up_to" "Graph" "up_to" (.v 0) [(.v 1), (.int 0), (.v 4)])])) (lRo (graphV L D A C) iv e f (.fz (.int c)) s5) = some (.ok ((partsG L A (uptoG (col0 C) ins c)).map lotV) (lRo (graphV L D A C) iv e f (.fz (.int c)) s5)) := by
      simp [evIt, lRo, evE.eq_1, evE.eq_2, evE.eq_3, evE.eq_4, evE.eq_5, evE.eq_6, evE.eq_7, evE.eq_8, evE.eq_9, evE.eq_10, evE.eq_11, evE.eq_12, evE.eq_13, evE.eq_14, evE.eq_15, evE.eq_16, evE.eq_17, evE.eq_18, evE.eq_19, evE.eq_20, evE.eq_21, evE.eq_25, evE.eq_26, evE.eq_27, evE.eq_28, evE.eq_31, evSs, evS, evOp, evC, evEs, opnd, Opd.val, Slot.val, slotAt, fixv, isiV, isiF, typ, asBool, cmpF, endF, keptIo, lift, pur, bltF, len, assn, assns, evE.eq_22, evAs, argOf, callF, ioNd, order, finish, putBack, Arg.slot, Arg.isN, Arg.isAt, Arg.isV, ownAt, newArg, idxF, ixN, binF, evE.eq_24, fn_Graph_parts, ir_Graph_parts, fn_Graph_up_to, ir_Graph_up_to, g_obj, qu, qp, itemsF]
    have b1 : evSs tab (evF tab (k + 3)) (ev2 tab (k + 3)).2 lOut (lRo (graphV L D A C) iv e f (.fz (.int c)) s5) = some (.ok .nx (lRo (graphV L D A C) iv e (f ++ (partsG L A (uptoG (col0 C) ins c)).filterMap fun P => (hasG (col0 C) P c).head?.map fun t => (P, t)) (.fz (.int c)) s5')) := by
      refine evSs_1 ?_
      rw [evS_for, hit, bnd_ok, if_pos (by rw [List.length_map]; unfold cap; omega), t1]
    rw [List.map_cons]
    simp only [forF, as1, b1, bnd_ok]
    rw [ih, List.append_assoc]
    rfl
/-- the colours of one evenness -/
def csOf (e : Int) : List Int := (List.range ((8 - e + 2 - 1) / 2).toNat).map fun k => e + (k : Nat) * 2
theorem q_loops_of (k : Nat) (e : Int) (h0 : 0 ≤ e) (h8 : e ≤ 8) (hn : ins.length ≤ 400) : evF tab (k + 4) "loops_of" [.fz (graphV L D A C), .fz iv, .fz (.int e)] = some (.ok (.ow (.lst ((loopsG L A (col0 C) ins (csOf e)).map loopV))) [.fz (graphV L D A C), .fz iv, .fz (.int e)]) := by
  rw [evF_succ, run_def fn_loops_of (tab_ext _) rfl]
  have hcs : (csOf e).length ≤ 5 := by unfold csOf; simp; omega
  obtain ⟨s4, s5, h1⟩ := l_outer (C := C) G hL hC hI hi k e hn (csOf e) [] .un .un (by simp; omega)
  have st0 : evS tab (evF tab (k + 3)) (ev2 tab (k + 3)).2 (.asg (.nm 3) (.lst [])) [.fz (graphV L D A C), .fz iv, .fz (.int e), .un, .un, .un] = some (.ok .nx (lRo (graphV L D A C) iv e ([] : List (List α × α)) .un .un)) := by
    simp [lRo, evE.eq_1, evE.eq_2, evE.eq_3, evE.eq_4, evE.eq_5, evE.eq_6, evE.eq_7, evE.eq_8, evE.eq_9, evE.eq_10, evE.eq_11, evE.eq_12, evE.eq_13, evE.eq_14, evE.eq_15, evE.eq_16, evE.eq_17, evE.eq_18, evE.eq_19, evE.eq_20, evE.eq_21, evE.eq_25, evE.eq_26, evE.eq_27, evE.eq_28, evE.eq_31, evSs, evS, evOp, evC, evEs, opnd, Opd.val, Slot.val, slotAt, fixv, isiV, isiF, typ, asBool, cmpF, endF, keptIo, lift, pur, bltF, len, assn, assns]
  have st1 : evS tab (evF tab (k + 3)) (ev2 tab (k + 3)).2 (.for_ (.nm 4) (.rng3 (.v 2) (.int 8) (.int 2)) lOut) (lRo (graphV L D A C) iv e ([] : List (List α × α)) .un .un) = some (.ok .nx (lRo (graphV L D A C) iv e (loopsG L A (col0 C) ins (csOf e)) s4 s5)) := by
    have hit : evIt tab (evF tab (k + 3)) (ev2 tab (k + 3)).2 (.rng3 (.v 2) (.int 8) (.int 2)) (lRo (graphV L D A C) iv e ([] : List (List α × α)) .un .un) = some (.ok ((csOf e).map .int) (lRo (graphV L D A C) iv e ([] : List (List α × α)) .un .un)) := by
      have hz : 0 ≤ e ∧ e ≤ 1000 := by omega
      simp [evIt, lRo, evE.eq_1, evE.eq_2, evE.eq_3, evE.eq_4, evE.eq_5, evE.eq_6, evE.eq_7, evE.eq_8, evE.eq_9, evE.eq_10, evE.eq_11, evE.eq_12, evE.eq_13, evE.eq_14, evE.eq_15, evE.eq_16, evE.eq_17, evE.eq_18, evE.eq_19, evE.eq_20, evE.eq_21, evE.eq_25, evE.eq_26, evE.eq_27, evE.eq_28, evE.eq_31, evSs, evS, evOp, evC, evEs, opnd, Opd.val, Slot.val, slotAt, fixv, isiV, isiF, typ, asBool, cmpF, endF, keptIo, lift, pur, bltF, len, assn, assns, evE.eq_22, evAs, argOf, callF, ioNd, order, finish, putBack, Arg.slot, Arg.isN, Arg.isAt, Arg.isV, ownAt, newArg, idxF, ixN, binF, rngF, hz, csOf, Function.comp_def]
    simp only [evS, hit, bnd_ok]
    rw [if_pos (by rw [List.length_map]; unfold cap; omega), h1]
    rfl
  have e' : evSs tab (evF tab (k + 3)) (ev2 tab (k + 3)).2 ir_loops_of.body [.fz (graphV L D A C), .fz iv, .fz (.int e), .un, .un, .un] = some (.ok (.rt (.ow (.lst ((loopsG L A (col0 C) ins (csOf e)).map loopV)))) ((lRo (graphV L D A C) iv e (loopsG L A (col0 C) ins (csOf e)) s4 s5).set 3 .un)) := by
    have st2 : evS tab (evF tab (k + 3)) (ev2 tab (k + 3)).2 (.ret (.v 3)) (lRo (graphV L D A C) iv e (loopsG L A (col0 C) ins (csOf e)) s4 s5) = some (.ok (.rt (.ow (.lst ((loopsG L A (col0 C) ins (csOf e)).map loopV)))) ((lRo (graphV L D A C) iv e (loopsG L A (col0 C) ins (csOf e)) s4 s5).set 3 .un)) := rfl
    have spl : ir_loops_of.body = [(.asg (.nm 3) (.lst [])), (.for_ (.nm 4) (.rng3 (.v 2) (.int 8) (.int 2)) lOut), .ret (.v 3)] := rfl
    rw [spl]
    simp only [evSs, st0, st1, st2, bnd_ok, pur]
  show endF _ _ (evSs tab (evF tab (k + 3)) (ev2 tab (k + 3)).2 ir_loops_of.body [.fz (graphV L D A C), .fz iv, .fz (.int e), .un, .un, .un]) = _
  rw [e']
  simp [endF, keptIo, ir_loops_of, lRo]
omit hC in
theorem q_leading_to (k : Nat) (hn : ins.length ≤ 400) (ends : List α) (he : ends.length ≤ 100000) : evF tab (k + 2) "leading_to" [.fz (graphV L D A C), .fz iv, .fz (lotV ends)] = some (.ok (.ow (lotV (leadsG L A ins ends))) [.fz (graphV L D A C), .fz iv, .fz (lotV ends)]) := by
  rw [evF_succ, run_def fn_leading_to (tab_ext _) rfl]
  have hin : ∀ x ∈ ins, evE tab (evF tab (k + 1)) (ev2 tab (k + 1)).2 (.lc [4] (.nm 4) (.seq (.v 2)) none (.cmp .isin (.v 4) (.mth "Graph.ways" "Graph" "ways" (.v 0) [(.v 3), (.v 1)]))) [.fz (graphV L D A C), .fz iv, .fz (lotV ends), .fz (pv x), .un] = some (.ok (.ow (.lst (ends.map fun e => .bl (decide (e ∈ keysG (waysG L A ins x)))))) [.fz (graphV L D A C), .fz iv, .fz (lotV ends), .fz (pv x), .un]) := by
    intro x hx
    have hit : evIt tab (evF tab (k + 1)) (ev2 tab (k + 1)).2 (.seq (.v 2)) [.fz (graphV L D A C), .fz iv, .fz (lotV ends), .fz (pv x), .un] = some (.ok (ends.map pv) [.fz (graphV L D A C), .fz iv, .fz (lotV ends), .fz (pv x), .un]) := by
      simp [evIt, evE.eq_1, evE.eq_2, evE.eq_3, evE.eq_4, evE.eq_5, evE.eq_6, evE.eq_7, evE.eq_8, evE.eq_9, evE.eq_10, evE.eq_11, evE.eq_12, evE.eq_13, evE.eq_14, evE.eq_15, evE.eq_16, evE.eq_17, evE.eq_18, evE.eq_19, evE.eq_20, evE.eq_21, evE.eq_25, evE.eq_26, evE.eq_27, evE.eq_28, evE.eq_31, evSs, evS, evOp, evC, evEs, opnd, Opd.val, Slot.val, slotAt, fixv, isiV, isiF, typ, asBool, cmpF, endF, keptIo, lift, pur, bltF, len, assn, assns, evE.eq_22, evAs, argOf, callF, ioNd, order, finish, putBack, Arg.slot, Arg.isN, Arg.isAt, Arg.isV, ownAt, newArg, idxF, ixN, binF, lotV, itemsF]
    have qw := q_ways k (C := C) G hL hI hi (hi x hx)
    have := ev_lcB pv (fun e => some (.bl (decide (e ∈ keysG (waysG L A ins x))))) hit (ns := [4]) (t := .nm 4) (c := none) (e := (.cmp .isin (.v 4) (.mth "Graph.ways" "Graph" "ways" (.v 0) [(.v 3), (.v 1)]))) (by unfold cap; omega) rfl rfl (fun y _ => by
      refine ⟨[.fz (graphV L D A C), .fz iv, .fz (lotV ends), .fz (pv x), .fz (pv y)], [.fz (graphV L D A C), .fz iv, .fz (lotV ends), .fz (pv x), .fz (pv y)], rfl, ?_, rfl⟩
      have i1 := in_fnd y (waysG L A ins x)
      simp [lcF, evE.eq_1, evE.eq_2, evE.eq_3, evE.eq_4, evE.eq_5, evE.eq_6, evE.eq_7, evE.eq_8, evE.eq_9, evE.eq_10, evE.eq_11, evE.eq_12, evE.eq_13, evE.eq_14, evE.eq_15, evE.eq_16, evE.eq_17, evE.eq_18, evE.eq_19, evE.eq_20, evE.eq_21, evE.eq_25, evE.eq_26, evE.eq_27, evE.eq_28, evE.eq_31, evSs, evS, evOp, evC, evEs, opnd, Opd.val, Slot.val, slotAt, fixv, isiV, isiF, typ, asBool, cmpF, endF, keptIo, lift, pur, bltF, len, assn, assns, evE.eq_22, evAs, argOf, callF, ioNd, order, finish, putBack, Arg.slot, Arg.isN, Arg.isAt, Arg.isV, ownAt, newArg, idxF, ixN, binF, evE.eq_24, fn_Graph_ways, ir_Graph_ways, g_obj, qw, i1])
    rw [this]
    simp
  have hit : evIt tab (evF tab (k + 1)) (ev2 tab (k + 1)).2 (.seq (.v 1)) [.fz (graphV L D A C), .fz iv, .fz (lotV ends), .un, .un] = some (.ok (ins.map pv) [.fz (graphV L D A C), .fz iv, .fz (lotV ends), .un, .un]) := by
    simp [evIt, evE.eq_1, evE.eq_2, evE.eq_3, evE.eq_4, evE.eq_5, evE.eq_6, evE.eq_7, evE.eq_8, evE.eq_9, evE.eq_10, evE.eq_11, evE.eq_12, evE.eq_13, evE.eq_14, evE.eq_15, evE.eq_16, evE.eq_17, evE.eq_18, evE.eq_19, evE.eq_20, evE.eq_21, evE.eq_25, evE.eq_26, evE.eq_27, evE.eq_28, evE.eq_31, evSs, evS, evOp, evC, evEs, opnd, Opd.val, Slot.val, slotAt, fixv, isiV, isiF, typ, asBool, cmpF, endF, keptIo, lift, pur, bltF, len, assn, assns, evE.eq_22, evAs, argOf, callF, ioNd, order, finish, putBack, Arg.slot, Arg.isN, Arg.isAt, Arg.isV, ownAt, newArg, idxF, ixN, binF, hI.items]
  have hlc : evE tab (evF tab (k + 1)) (ev2 tab (k + 1)).2 (.lc [3] (.nm 3) (.seq (.v 1)) (some (.blt .any [(.lc [4] (.nm 4) (.seq (.v 2)) none (.cmp .isin (.v 4) (.mth "Graph.ways" "Graph" "ways" (.v 0) [(.v 3), (.v 1)])))])) (.v 3)) [.fz (graphV L D A C), .fz iv, .fz (lotV ends), .un, .un] = some (.ok (.ow (lotV (leadsG L A ins ends))) [.fz (graphV L D A C), .fz iv, .fz (lotV ends), .un, .un]) := by
    have := ev_lcB pv (fun p => if (ends.any fun e => decide (e ∈ keysG (waysG L A ins p))) then some (pv p) else none) hit (ns := [3]) (t := .nm 3) (c := (some (.blt .any [(.lc [4] (.nm 4) (.seq (.v 2)) none (.cmp .isin (.v 4) (.mth "Graph.ways" "Graph" "ways" (.v 0) [(.v 3), (.v 1)])))]))) (e := .v 3) (by unfold cap; omega) rfl rfl (fun x hx => by
      refine ⟨[.fz (graphV L D A C), .fz iv, .fz (lotV ends), .fz (pv x), .un], [.fz (graphV L D A C), .fz iv, .fz (lotV ends), .fz (pv x), .un], rfl, ?_, rfl⟩
      have hx' := hin x hx
      have ha : allB (ends.map fun e => Val.bl (decide (e ∈ keysG (waysG L A ins x)))) = some (ends.map fun e => decide (e ∈ keysG (waysG L A ins x))) := allB_map _ ends
      have hb : (ends.map fun e => decide (e ∈ keysG (waysG L A ins x))).any id = ends.any fun e => decide (e ∈ keysG (waysG L A ins x)) := by rw [List.any_map]; rfl
      simp only [lcF, evC, evE_blt1, opnd, hx', bnd_ok, bnd_pur, pur, Opd.val, Option.bind_some, bltF, ha, Option.map_some, lift, asBool, hb]
      cases hq : ends.any fun e => decide (e ∈ keysG (waysG L A ins x)) <;> rfl)
    rw [this, fm_if]
    rfl
  have e : evSs tab (evF tab (k + 1)) (ev2 tab (k + 1)).2 ir_leading_to.body [.fz (graphV L D A C), .fz iv, .fz (lotV ends), .un, .un] = some (.ok (.rt (.ow (lotV (leadsG L A ins ends)))) [.fz (graphV L D A C), .fz iv, .fz (lotV ends), .un, .un]) := by
    simp only [ir_leading_to, evSs, evS, hlc, bnd_ok, pur]
  show endF _ _ (evSs tab (evF tab (k + 1)) (ev2 tab (k + 1)).2 ir_leading_to.body [.fz (graphV L D A C), .fz iv, .fz (lotV ends), .un, .un]) = _
  rw [e]
  simp [endF, keptIo, ir_leading_to]
end
end EV
namespace EV
open PySem GH Pl
/-! ### a machine's own graph -/
def AI (R : List RowI) (a : Int) : List Int := (R.getD a.toNat (0, [])).2
def C0 (R : List RowI) (a : Int) : Int := (R.getD a.toNat (0, [])).1
def CI (R : List RowI) (a : Int) : List Int := [C0 R a]
theorem row_mem {R : List RowI} {a : Int} (h : a ∈ zeroTo R.length) : R.getD a.toNat (0, []) ∈ R := by
  have := zeroTo_mem.mp h
  rw [List.getD_eq_getElem?_getD, List.getElem?_eq_getElem (by omega)]
  exact List.getElem_mem _
theorem GoodM.gr {l : List Nat} {R : List RowI} (M : GoodM l R) : GrOk l (zeroTo R.length) (AI R) where
  small := by have := M.six; rw [zeroTo_len]; omega
  nodup := zeroTo_nodup _
  arr := fun a ha => (M.row _ (row_mem ha)).2.2.1
  tgt := fun a ha b hb => zeroTo_mem.mpr ((M.row _ (row_mem ha)).2.2.2 b hb)
theorem zipIdx_eq {β : Type} (R : List RowI) (f : RowI × Nat → β) : R.zipIdx.map f = (List.range R.length).map fun i => f (R.getD i (0, []), i) := by
  apply List.ext_getElem
  · simp
  · intro i h1 h2
    have hi : i < R.length := by simpa using h1
    simp [List.getD_eq_getElem?_getD, hi]
abbrev mGraph (l : List Nat) (R : List RowI) : Val := graphV l (zeroTo R.length) (AI R) (CI R)
theorem q_Graph_init (k : Nat) (a b c : Val) : evF tab (k + 1) "Graph.__init__" [.ow (.obj "Graph" []), .fz a, .fz b, .fz c] = some (.ok (.fz .non) [.ow (.obj "Graph" [("signs", a), ("arrows", b), ("colours", c)]), .fz a, .fz b, .fz c]) := by
  rw [evF_succ, run_def fn_Graph___init__ (tab_ext _) rfl]
  have f1 : tab.fld "Graph" "signs" = true := by kernel_rfl
  have f2 : tab.fld "Graph" "arrows" = true := by kernel_rfl
  have f3 : tab.fld "Graph" "colours" = true := by kernel_rfl
  simp [ir_Graph___init__, evE.eq_1, evE.eq_2, evE.eq_3, evE.eq_4, evE.eq_5, evE.eq_6, evE.eq_7, evE.eq_8, evE.eq_9, evE.eq_10, evE.eq_11, evE.eq_12, evE.eq_13, evE.eq_14, evE.eq_15, evE.eq_16, evE.eq_17, evE.eq_18, evE.eq_19, evE.eq_20, evE.eq_21, evE.eq_25, evE.eq_26, evE.eq_27, evE.eq_28, evE.eq_31, evSs, evS, evOp, evC, evEs, opnd, Opd.val, Slot.val, slotAt, fixv, isiV, isiF, typ, asBool, cmpF, endF, keptIo, lift, pur, bltF, len, assn, assns, evE.eq_22, evAs, argOf, callF, ioNd, order, finish, putBack, Arg.slot, Arg.isN, Arg.isAt, Arg.isV, ownAt, newArg, idxF, ixN, binF, f1, f2, f3, putFs]
theorem q_graph_of (k : Nat) {l : List Nat} {R : List RowI} (M : GoodM l R) : evF tab (k + 3) "graph_of" [.fz (machV l R)] = some (.ok (.ow (mGraph l R)) [.fz (machV l R)]) := by
  rw [evF_succ, run_def fn_graph_of (tab_ext _) rfl]
  have p1 : tab.prp "Machine" "states" "held_states" = true := by kernel_rfl
  have p2 : tab.prp "Machine" "letters" "held_letters" = true := by kernel_rfl
  have hn := M.six
  have e1 : evE tab (evF tab (k + 2)) (ev2 tab (k + 2)).2 (.dc [2, 3, 4] (.tp [(.nm 2), (.tp [(.nm 3), (.nm 4)])]) (.enum (.prp "Machine" "states" "held_states" (.v 0))) (.v 2) (.v 4)) [.fz (machV l R), .un, .un, .un, .un] = some (.ok (.ow (.dct ((zeroTo R.length).map fun a => (pv a, .tup ((AI R a).map pv))))) [.fz (machV l R), .un, .un, .un, .un]) := by
    have hit : evIt tab (evF tab (k + 2)) (ev2 tab (k + 2)).2 (.enum (.prp "Machine" "states" "held_states" (.v 0))) [.fz (machV l R), .un, .un, .un, .un] = some (.ok (R.zipIdx.map fun p => .tup [.int (p.2 : Nat), rowV p.1]) [.fz (machV l R), .un, .un, .un, .un]) := by
      simp [evIt, machV, evE.eq_1, evE.eq_2, evE.eq_3, evE.eq_4, evE.eq_5, evE.eq_6, evE.eq_7, evE.eq_8, evE.eq_9, evE.eq_10, evE.eq_11, evE.eq_12, evE.eq_13, evE.eq_14, evE.eq_15, evE.eq_16, evE.eq_17, evE.eq_18, evE.eq_19, evE.eq_20, evE.eq_21, evE.eq_25, evE.eq_26, evE.eq_27, evE.eq_28, evE.eq_31, evSs, evS, evOp, evC, evEs, opnd, Opd.val, Slot.val, slotAt, fixv, isiV, isiF, typ, asBool, cmpF, endF, keptIo, lift, pur, bltF, len, assn, assns, evE.eq_22, evAs, argOf, callF, ioNd, order, finish, putBack, Arg.slot, Arg.isN, Arg.isAt, Arg.isV, ownAt, newArg, idxF, ixN, binF, p1, lkM, rowsV, seqOf, enumL_map rowV]
    have := ev_dcB (α := Int) (fun p : RowI × Nat => .tup [.int (p.2 : Nat), rowV p.1]) (fun p => ((p.2 : Nat) : Int)) (fun p => .tup (p.1.2.map .int)) (by
      rw [zipIdx_eq R fun p => ((p.2 : Nat) : Int)]
      exact zeroTo_nodup R.length) hit (ns := [2, 3, 4]) (t := (.tp [(.nm 2), (.tp [(.nm 3), (.nm 4)])])) (k := .v 2) (e := .v 4) (by simp; unfold cap; omega) rfl rfl (fun p _ => ⟨[.fz (machV l R), .un, .fz (.int (p.2 : Nat)), .fz (.int p.1.1), .fz (.tup (p.1.2.map .int))], [.fz (machV l R), .un, .fz (.int (p.2 : Nat)), .fz (.int p.1.1), .fz (.tup (p.1.2.map .int))], rfl, rfl, rfl⟩)
    rw [this, zipIdx_eq]
    simp only [zeroTo, List.map_map, Function.comp_def, AI]
    rfl
  have e2 : evE tab (evF tab (k + 2)) (ev2 tab (k + 2)).2 (.dc [2] (.nm 2) (.seq (.v 1)) (.v 2) (.tup [(.idx (.idx (.prp "Machine" "states" "held_states" (.v 0)) (.v 2)) (.int 0))])) [.fz (machV l R), .fz (.dct ((zeroTo R.length).map fun a => (pv a, .tup ((AI R a).map pv)))), .un, .un, .un] = some (.ok (.ow (.dct ((zeroTo R.length).map fun a => (pv a, .tup ((CI R a).map .int))))) [.fz (machV l R), .fz (.dct ((zeroTo R.length).map fun a => (pv a, .tup ((AI R a).map pv)))), .un, .un, .un]) := by
    have hit : evIt tab (evF tab (k + 2)) (ev2 tab (k + 2)).2 (.seq (.v 1)) [.fz (machV l R), .fz (.dct ((zeroTo R.length).map fun a => (pv a, .tup ((AI R a).map pv)))), .un, .un, .un] = some (.ok ((zeroTo R.length).map pv) [.fz (machV l R), .fz (.dct ((zeroTo R.length).map fun a => (pv a, .tup ((AI R a).map pv)))), .un, .un, .un]) := by
      simp [evIt, evE.eq_1, evE.eq_2, evE.eq_3, evE.eq_4, evE.eq_5, evE.eq_6, evE.eq_7, evE.eq_8, evE.eq_9, evE.eq_10, evE.eq_11, evE.eq_12, evE.eq_13, evE.eq_14, evE.eq_15, evE.eq_16, evE.eq_17, evE.eq_18, evE.eq_19, evE.eq_20, evE.eq_21, evE.eq_25, evE.eq_26, evE.eq_27, evE.eq_28, evE.eq_31, evSs, evS, evOp, evC, evEs, opnd, Opd.val, Slot.val, slotAt, fixv, isiV, isiF, typ, asBool, cmpF, endF, keptIo, lift, pur, bltF, len, assn, assns, evE.eq_22, evAs, argOf, callF, ioNd, order, finish, putBack, Arg.slot, Arg.isN, Arg.isAt, Arg.isV, ownAt, newArg, idxF, ixN, binF, itemsF, Function.comp_def]
    exact ev_dcB (α := Int) pv id (fun a => .tup ((CI R a).map .int)) (by simpa using zeroTo_nodup R.length) hit (ns := [2]) (t := .nm 2) (k := .v 2) (e := (.tup [(.idx (.idx (.prp "Machine" "states" "held_states" (.v 0)) (.v 2)) (.int 0))])) (by rw [zeroTo_len]; unfold cap; omega) rfl rfl (fun a ha => by
      refine ⟨[.fz (machV l R), .fz (.dct ((zeroTo R.length).map fun a => (pv a, .tup ((AI R a).map pv)))), .fz (pv a), .un, .un], [.fz (machV l R), .fz (.dct ((zeroTo R.length).map fun a => (pv a, .tup ((AI R a).map pv)))), .fz (pv a), .un, .un], rfl, ?_, rfl⟩
      have hz := zeroTo_mem.mp ha
      have ix : idxF (rowsV R) (.int a) = some (rowV (R.getD a.toNat (0, []))) := by
        have hlt : a.toNat < R.length := by omega
        simp only [idxF, rowsV, ixN]
        rw [if_pos ⟨hz.1, by rw [List.length_map]; exact hz.2⟩]
        simp [List.getD_eq_getElem?_getD, hlt]
      obtain ⟨r, hr⟩ : ∃ r, R.getD a.toNat (0, []) = r := ⟨_, rfl⟩
      have c0 : C0 R a = r.1 := by unfold C0; rw [hr]
      rw [hr] at ix
      have ix2 : idxF (rowV r) (.int 0) = some (.int r.1) := rfl
      have c1 : 1 ≤ cap := by unfold cap; omega
      have pa : (pv a : Val) = .int a := rfl
      simp [dcF, evE.eq_1, evE.eq_2, evE.eq_3, evE.eq_4, evE.eq_5, evE.eq_6, evE.eq_7, evE.eq_8, evE.eq_9, evE.eq_10, evE.eq_11, evE.eq_12, evE.eq_13, evE.eq_14, evE.eq_15, evE.eq_16, evE.eq_17, evE.eq_18, evE.eq_19, evE.eq_20, evE.eq_21, evE.eq_25, evE.eq_26, evE.eq_27, evE.eq_28, evE.eq_31, evSs, evS, evOp, evC, evEs, opnd, Opd.val, Slot.val, slotAt, fixv, isiV, isiF, typ, asBool, cmpF, endF, keptIo, lift, pur, bltF, len, assn, assns, machV, p1, lkM, pa, ix, ix2, c1, c0, CI])
  have st1 : evS tab (evF tab (k + 2)) (ev2 tab (k + 2)).2 (.asg (.nm 1) (.dc [2, 3, 4] (.tp [(.nm 2), (.tp [(.nm 3), (.nm 4)])]) (.enum (.prp "Machine" "states" "held_states" (.v 0))) (.v 2) (.v 4))) [.fz (machV l R), .un, .un, .un, .un] = some (.ok .nx [.fz (machV l R), .ow (.dct ((zeroTo R.length).map fun a => (pv a, .tup ((AI R a).map pv)))), .un, .un, .un]) := by
    simp only [evS, e1, bnd_ok]
    rfl
  have st2 : evS tab (evF tab (k + 2)) (ev2 tab (k + 2)).2 (.ret (.mk "Graph" [(.prp "Machine" "letters" "held_letters" (.v 0)), (.v 1), (.dc [2] (.nm 2) (.seq (.v 1)) (.v 2) (.tup [(.idx (.idx (.prp "Machine" "states" "held_states" (.v 0)) (.v 2)) (.int 0))]))] [])) [.fz (machV l R), .ow (.dct ((zeroTo R.length).map fun a => (pv a, .tup ((AI R a).map pv)))), .un, .un, .un] = some (.ok (.rt (.ow (mGraph l R))) [.fz (machV l R), .fz (.dct ((zeroTo R.length).map fun a => (pv a, .tup ((AI R a).map pv)))), .un, .un, .un]) := by
    have a1 : ∀ s : Slot, evE tab (evF tab (k + 2)) (ev2 tab (k + 2)).2 (.prp "Machine" "letters" "held_letters" (.v 0)) [.fz (machV l R), s, .un, .un, .un] = some (.ok (.fz (.str l)) [.fz (machV l R), s, .un, .un, .un]) := by
      intro s
      simp [evE.eq_1, evE.eq_2, evE.eq_3, evE.eq_4, evE.eq_5, evE.eq_6, evE.eq_7, evE.eq_8, evE.eq_9, evE.eq_10, evE.eq_11, evE.eq_12, evE.eq_13, evE.eq_14, evE.eq_15, evE.eq_16, evE.eq_17, evE.eq_18, evE.eq_19, evE.eq_20, evE.eq_21, evE.eq_25, evE.eq_26, evE.eq_27, evE.eq_28, evE.eq_31, evSs, evS, evOp, evC, evEs, opnd, Opd.val, Slot.val, slotAt, fixv, isiV, isiF, typ, asBool, cmpF, endF, keptIo, lift, pur, bltF, len, assn, assns, evE.eq_22, evAs, argOf, callF, ioNd, order, finish, putBack, Arg.slot, Arg.isN, Arg.isAt, Arg.isV, ownAt, newArg, idxF, ixN, binF, machV, p2]
    have a2 : evE tab (evF tab (k + 2)) (ev2 tab (k + 2)).2 (.v 1) [.fz (machV l R), .ow (.dct ((zeroTo R.length).map fun a => (pv a, .tup ((AI R a).map pv)))), .un, .un, .un] = some (.ok (.fz (.dct ((zeroTo R.length).map fun a => (pv a, .tup ((AI R a).map pv))))) [.fz (machV l R), .fz (.dct ((zeroTo R.length).map fun a => (pv a, .tup ((AI R a).map pv)))), .un, .un, .un]) := rfl
    have qi := q_Graph_init k (.str l) (.dct ((zeroTo R.length).map fun a => (pv a, .tup ((AI R a).map pv)))) (.dct ((zeroTo R.length).map fun a => (pv a, .tup ((CI R a).map .int))))
    have hmk : (ev2 tab (k + 2)).2 = evF tab (k + 1) := mkc_succ tab (k + 1)
    have fn : tab.fn ("Graph" ++ ".__init__") = some ir_Graph___init__ := fn_Graph___init__
    have nm : "Graph" ++ ".__init__" = "Graph.__init__" := rfl
    simp only [evS, evE_mk fn, evEs, a1, a2, e2, bnd_ok, fixv, pur, bnd_pur, List.map_cons, List.map_nil]
    rw [nm, hmk, qi]
    rfl
  have e : evSs tab (evF tab (k + 2)) (ev2 tab (k + 2)).2 ir_graph_of.body [.fz (machV l R), .un, .un, .un, .un] = some (.ok (.rt (.ow (mGraph l R))) [.fz (machV l R), .fz (.dct ((zeroTo R.length).map fun a => (pv a, .tup ((AI R a).map pv)))), .un, .un, .un]) := by
    simp only [ir_graph_of, evSs, st1, st2, bnd_ok, pur]
  show endF _ _ (evSs tab (evF tab (k + 2)) (ev2 tab (k + 2)).2 ir_graph_of.body [.fz (machV l R), .un, .un, .un, .un]) = _
  rw [e]
  simp [endF, keptIo, ir_graph_of]
/-- the states from which some run ends in a loop of an evenness -/
noncomputable abbrev endsR (R : List RowI) (e : Int) : List Int := endsG (AI R) (C0 R) (zeroTo R.length) fun c => c % 2 = e
theorem cs_par {l : List Nat} {R : List RowI} (M : GoodM l R) {e : Int} (he : e = 0 ∨ e = 1) : ∀ a ∈ zeroTo R.length, C0 R a ∈ csOf e ↔ C0 R a % 2 = e := by
  intro a ha
  have h := M.row _ (row_mem ha)
  have h1 : 0 ≤ C0 R a := h.1
  have h2 : C0 R a ≤ 6 := h.2.1
  generalize C0 R a = c at h1 h2
  rcases he with rfl | rfl
  · have : csOf 0 = [0, 2, 4, 6] := by decide
    rw [this]
    simp only [List.mem_cons, List.not_mem_nil, or_false]
    omega
  · have : csOf 1 = [1, 3, 5, 7] := by decide
    rw [this]
    simp only [List.mem_cons, List.not_mem_nil, or_false]
    omega
theorem q_with_loops (k : Nat) {l : List Nat} {R : List RowI} (M : GoodM l R) {e : Int} (he : e = 0 ∨ e = 1) : evF tab (k + 5) "with_loops" [.fz (machV l R), .fz (.int e)] = some (.ok (.ow (lotV (endsR R e))) [.fz (machV l R), .fz (.int e)]) := by
  rw [evF_succ, run_def fn_with_loops (tab_ext _) rfl]
  have hn := M.six
  have hl := M.let_
  have fl : tab.fld "Graph" "arrows" = true := by kernel_rfl
  have iv := insV_dct (zeroTo R.length) fun a => Val.tup ((AI R a).map pv)
  have hC : ∀ a ∈ zeroTo R.length, 0 < (CI R a).length := fun _ _ => by simp [CI]
  have qg := q_graph_of (k + 1) M
  have ql := q_loops_of (C := CI R) M.gr (by omega) hC iv (fun _ h => h) k e (by omega) (by omega) (by rw [zeroTo_len]; omega)
  have hcs : (csOf e).length ≤ 5 := by rcases he with rfl | rfl <;> decide
  have ht : ((loopsG l (AI R) (col0 (CI R)) (zeroTo R.length) (csOf e)).map (·.2)).length ≤ 100000 := by
    rw [List.length_map]
    unfold loopsG
    have : ∀ cs : List Int, (cs.flatMap fun c => (partsG l (AI R) (uptoG (col0 (CI R)) (zeroTo R.length) c)).filterMap fun P => (hasG (col0 (CI R)) P c).head?.map fun t => (P, t)).length ≤ cs.length * R.length := by
      intro cs
      induction cs with
      | nil => simp
      | cons c cs ih =>
        rw [List.flatMap_cons, List.length_append, List.length_cons, Nat.succ_mul]
        have h1 := List.length_filterMap_le (fun P => (hasG (col0 (CI R)) P c).head?.map fun t => (P, t)) (partsG l (AI R) (uptoG (col0 (CI R)) (zeroTo R.length) c))
        have h2 := partsG_len l (AI R) (uptoG (col0 (CI R)) (zeroTo R.length) c)
        have h3 : (uptoG (col0 (CI R)) (zeroTo R.length) c).length ≤ (zeroTo R.length).length := List.length_filter_le _ _
        rw [zeroTo_len] at h3
        omega
    have := this (csOf e)
    have h2 : (csOf e).length * R.length ≤ 5 * 6 := Nat.mul_le_mul hcs hn
    omega
  have qd := q_leading_to (C := CI R) M.gr (by omega) iv (fun _ h => h) (k + 2) (by rw [zeroTo_len]; omega) ((loopsG l (AI R) (col0 (CI R)) (zeroTo R.length) (csOf e)).map (·.2)) ht
  have hend : leadsG l (AI R) (zeroTo R.length) ((loopsG l (AI R) (col0 (CI R)) (zeroTo R.length) (csOf e)).map (·.2)) = endsR R e := leads_live M.gr (cs_par M he)
  rw [hend] at qd
  have gf : ∀ ρ : Ro, ρ[2]? = some (.fz (mGraph l R)) → evE tab (evF tab (k + 4)) (ev2 tab (k + 4)).2 (.fld (.v 2) "arrows") ρ = some (.ok (.fz (.dct ((zeroTo R.length).map fun a => (pv a, .tup ((AI R a).map pv))))) ρ) := by
    intro ρ h
    simp [evE.eq_1, evE.eq_2, evE.eq_3, evE.eq_4, evE.eq_5, evE.eq_6, evE.eq_7, evE.eq_8, evE.eq_9, evE.eq_10, evE.eq_11, evE.eq_12, evE.eq_13, evE.eq_14, evE.eq_15, evE.eq_16, evE.eq_17, evE.eq_18, evE.eq_19, evE.eq_20, evE.eq_21, evE.eq_25, evE.eq_26, evE.eq_27, evE.eq_28, evE.eq_31, evSs, evS, evOp, evC, evEs, opnd, Opd.val, Slot.val, slotAt, fixv, isiV, isiF, typ, asBool, cmpF, endF, keptIo, lift, pur, bltF, len, assn, assns, h, mGraph, graphV, fl, lk2]
  have st1 : evS tab (evF tab (k + 4)) (ev2 tab (k + 4)).2 (.asg (.nm 2) (.call "graph_of" [(.v 0)] [])) [.fz (machV l R), .fz (.int e), .un, .un, .un, .un] = some (.ok .nx [.fz (machV l R), .fz (.int e), .ow (mGraph l R), .un, .un, .un]) := by
    simp [evE.eq_1, evE.eq_2, evE.eq_3, evE.eq_4, evE.eq_5, evE.eq_6, evE.eq_7, evE.eq_8, evE.eq_9, evE.eq_10, evE.eq_11, evE.eq_12, evE.eq_13, evE.eq_14, evE.eq_15, evE.eq_16, evE.eq_17, evE.eq_18, evE.eq_19, evE.eq_20, evE.eq_21, evE.eq_25, evE.eq_26, evE.eq_27, evE.eq_28, evE.eq_31, evSs, evS, evOp, evC, evEs, opnd, Opd.val, Slot.val, slotAt, fixv, isiV, isiF, typ, asBool, cmpF, endF, keptIo, lift, pur, bltF, len, assn, assns, evE.eq_22, evAs, argOf, callF, ioNd, order, finish, putBack, Arg.slot, Arg.isN, Arg.isAt, Arg.isV, ownAt, newArg, idxF, ixN, binF, fn_graph_of, ir_graph_of, qg]
  have hc : evE tab (evF tab (k + 4)) (ev2 tab (k + 4)).2 (.call "loops_of" [(.v 2), (.fld (.v 2) "arrows"), (.v 1)] []) [.fz (machV l R), .fz (.int e), .ow (mGraph l R), .un, .un, .un] = some (.ok (.ow (.lst ((loopsG l (AI R) (col0 (CI R)) (zeroTo R.length) (csOf e)).map loopV))) [.fz (machV l R), .fz (.int e), .fz (mGraph l R), .un, .un, .un]) := by
    rw [ev_callV fn_loops_of rfl (vs := [mGraph l R, .dct ((zeroTo R.length).map fun a => (pv a, .tup ((AI R a).map pv))), .int e]) (ρ1 := [.fz (machV l R), .fz (.int e), .fz (mGraph l R), .un, .un, .un]) (by
      have h2 : evE tab (evF tab (k + 4)) (ev2 tab (k + 4)).2 (.v 2) [.fz (machV l R), .fz (.int e), .ow (mGraph l R), .un, .un, .un] = some (.ok (.fz (mGraph l R)) [.fz (machV l R), .fz (.int e), .fz (mGraph l R), .un, .un, .un]) := rfl
      have h3 : evE tab (evF tab (k + 4)) (ev2 tab (k + 4)).2 (.v 1) [.fz (machV l R), .fz (.int e), .fz (mGraph l R), .un, .un, .un] = some (.ok (.fz (.int e)) [.fz (machV l R), .fz (.int e), .fz (mGraph l R), .un, .un, .un]) := rfl
      simp only [evEs, h2, gf [.fz (machV l R), .fz (.int e), .fz (mGraph l R), .un, .un, .un] rfl, h3, bnd_ok, bnd_pur, fixv, pur]) (fun a ha => by simp at ha) ql]
  have hlc : evE tab (evF tab (k + 4)) (ev2 tab (k + 4)).2 (.lc [4, 5] (.tp [(.nm 4), (.nm 5)]) (.seq (.call "loops_of" [(.v 2), (.fld (.v 2) "arrows"), (.v 1)] [])) none (.v 5)) [.fz (machV l R), .fz (.int e), .ow (mGraph l R), .un, .un, .un] = some (.ok (.ow (lotV ((loopsG l (AI R) (col0 (CI R)) (zeroTo R.length) (csOf e)).map (·.2)))) [.fz (machV l R), .fz (.int e), .fz (mGraph l R), .un, .un, .un]) := by
    have hit : evIt tab (evF tab (k + 4)) (ev2 tab (k + 4)).2 (.seq (.call "loops_of" [(.v 2), (.fld (.v 2) "arrows"), (.v 1)] [])) [.fz (machV l R), .fz (.int e), .ow (mGraph l R), .un, .un, .un] = some (.ok ((loopsG l (AI R) (col0 (CI R)) (zeroTo R.length) (csOf e)).map loopV) [.fz (machV l R), .fz (.int e), .fz (mGraph l R), .un, .un, .un]) := by
      simp only [evIt, hc, bnd_ok, fixv, pur, bnd_pur, itemsF, lift]
    have := ev_lcB loopV (fun p : List Int × Int => some (pv p.2)) hit (ns := [4, 5]) (t := (.tp [(.nm 4), (.nm 5)])) (c := none) (e := .v 5) (by rw [List.length_map] at ht; unfold cap; omega) rfl rfl (fun p _ => ⟨[.fz (machV l R), .fz (.int e), .fz (mGraph l R), .un, .fz (lotV p.1), .fz (pv p.2)], [.fz (machV l R), .fz (.int e), .fz (mGraph l R), .un, .fz (lotV p.1), .fz (pv p.2)], rfl, rfl, rfl⟩)
    rw [this]
    simp [lotV]
  have st2 : evS tab (evF tab (k + 4)) (ev2 tab (k + 4)).2 (.asg (.nm 3) (.lc [4, 5] (.tp [(.nm 4), (.nm 5)]) (.seq (.call "loops_of" [(.v 2), (.fld (.v 2) "arrows"), (.v 1)] [])) none (.v 5))) [.fz (machV l R), .fz (.int e), .ow (mGraph l R), .un, .un, .un] = some (.ok .nx [.fz (machV l R), .fz (.int e), .fz (mGraph l R), .ow (lotV ((loopsG l (AI R) (col0 (CI R)) (zeroTo R.length) (csOf e)).map (·.2))), .un, .un]) := by
    simp only [evS, hlc, bnd_ok]
    rfl
  have st3 : evS tab (evF tab (k + 4)) (ev2 tab (k + 4)).2 (.ret (.call "leading_to" [(.v 2), (.fld (.v 2) "arrows"), (.v 3)] [])) [.fz (machV l R), .fz (.int e), .fz (mGraph l R), .ow (lotV ((loopsG l (AI R) (col0 (CI R)) (zeroTo R.length) (csOf e)).map (·.2))), .un, .un] = some (.ok (.rt (.ow (lotV (endsR R e)))) [.fz (machV l R), .fz (.int e), .fz (mGraph l R), .fz (lotV ((loopsG l (AI R) (col0 (CI R)) (zeroTo R.length) (csOf e)).map (·.2))), .un, .un]) := by
    have h2 : evE tab (evF tab (k + 4)) (ev2 tab (k + 4)).2 (.v 2) [.fz (machV l R), .fz (.int e), .fz (mGraph l R), .ow (lotV ((loopsG l (AI R) (col0 (CI R)) (zeroTo R.length) (csOf e)).map (·.2))), .un, .un] = some (.ok (.fz (mGraph l R)) [.fz (machV l R), .fz (.int e), .fz (mGraph l R), .ow (lotV ((loopsG l (AI R) (col0 (CI R)) (zeroTo R.length) (csOf e)).map (·.2))), .un, .un]) := rfl
    have h3 : evE tab (evF tab (k + 4)) (ev2 tab (k + 4)).2 (.v 3) [.fz (machV l R), .fz (.int e), .fz (mGraph l R), .ow (lotV ((loopsG l (AI R) (col0 (CI R)) (zeroTo R.length) (csOf e)).map (·.2))), .un, .un] = some (.ok (.fz (lotV ((loopsG l (AI R) (col0 (CI R)) (zeroTo R.length) (csOf e)).map (·.2)))) [.fz (machV l R), .fz (.int e), .fz (mGraph l R), .fz (lotV ((loopsG l (AI R) (col0 (CI R)) (zeroTo R.length) (csOf e)).map (·.2))), .un, .un]) := rfl
    simp only [evS]
    rw [ev_callV fn_leading_to rfl (vs := [mGraph l R, .dct ((zeroTo R.length).map fun a => (pv a, .tup ((AI R a).map pv))), lotV ((loopsG l (AI R) (col0 (CI R)) (zeroTo R.length) (csOf e)).map (·.2))]) (ρ1 := [.fz (machV l R), .fz (.int e), .fz (mGraph l R), .fz (lotV ((loopsG l (AI R) (col0 (CI R)) (zeroTo R.length) (csOf e)).map (·.2))), .un, .un]) (by
      simp only [evEs, h2, gf [.fz (machV l R), .fz (.int e), .fz (mGraph l R), .ow (lotV ((loopsG l (AI R) (col0 (CI R)) (zeroTo R.length) (csOf e)).map (·.2))), .un, .un] rfl, h3, bnd_ok, bnd_pur, fixv, pur]) (fun a ha => by simp at ha) qd]
    rfl
  have e' : evSs tab (evF tab (k + 4)) (ev2 tab (k + 4)).2 ir_with_loops.body [.fz (machV l R), .fz (.int e), .un, .un, .un, .un] = some (.ok (.rt (.ow (lotV (endsR R e)))) [.fz (machV l R), .fz (.int e), .fz (mGraph l R), .fz (lotV ((loopsG l (AI R) (col0 (CI R)) (zeroTo R.length) (csOf e)).map (·.2))), .un, .un]) := by
    simp only [ir_with_loops, evSs, st1, st2, st3, bnd_ok, pur]
  show endF _ _ (evSs tab (evF tab (k + 4)) (ev2 tab (k + 4)).2 ir_with_loops.body [.fz (machV l R), .fz (.int e), .un, .un, .un, .un]) = _
  rw [e']
  simp [endF, keptIo, ir_with_loops]
theorem q_live_of (k : Nat) {l : List Nat} {R : List RowI} (M : GoodM l R) : evF tab (k + 6) "live_of" [.fz (machV l R)] = some (.ok (.ow (lotV (endsR R 0))) [.fz (machV l R)]) := by
  rw [evF_succ, run_def fn_live_of (tab_ext _) rfl]
  have q := q_with_loops k M (e := 0) (.inl rfl)
  simp [ir_live_of, evE.eq_1, evE.eq_2, evE.eq_3, evE.eq_4, evE.eq_5, evE.eq_6, evE.eq_7, evE.eq_8, evE.eq_9, evE.eq_10, evE.eq_11, evE.eq_12, evE.eq_13, evE.eq_14, evE.eq_15, evE.eq_16, evE.eq_17, evE.eq_18, evE.eq_19, evE.eq_20, evE.eq_21, evE.eq_25, evE.eq_26, evE.eq_27, evE.eq_28, evE.eq_31, evSs, evS, evOp, evC, evEs, opnd, Opd.val, Slot.val, slotAt, fixv, isiV, isiF, typ, asBool, cmpF, endF, keptIo, lift, pur, bltF, len, assn, assns, evE.eq_22, evAs, argOf, callF, ioNd, order, finish, putBack, Arg.slot, Arg.isN, Arg.isAt, Arg.isV, ownAt, newArg, idxF, ixN, binF, fn_with_loops, ir_with_loops, q]
end EV
namespace EV
open PySem GH Pl
/-! ### the law's own look -/
def addF (X F : List Int) (g : Int) : List Int := if g ∈ X ∧ g ∉ F then F ++ [g] else F
theorem addF_nodup {X F : List Int} {g : Int} (h : F.Nodup) : (addF X F g).Nodup := by
  unfold addF
  split
  · rename_i c
    exact List.nodup_append.mpr ⟨h, by simp, fun a ha b hb e => c.2 (by
      have : b = g := by simpa using hb
      rw [← this, ← e]; exact ha)⟩
  · exact h
theorem addF_pre (X F : List Int) (g : Int) : ∃ q, addF X F g = F ++ q := by
  unfold addF
  split
  · exact ⟨_, rfl⟩
  · exact ⟨[], by simp⟩
theorem addF_has {X F : List Int} {g : Int} (h : g ∈ X) : g ∈ addF X F g := by
  unfold addF
  split
  · simp
  · rename_i c
    exact Classical.byContradiction fun z => c ⟨h, z⟩
theorem addF_mem {X F : List Int} {g x : Int} (h : x ∈ addF X F g) : x ∈ F ∨ (x = g ∧ x ∈ X) := by
  unfold addF at h
  split at h
  · rename_i c
    rcases List.mem_append.mp h with z | z
    · exact .inl z
    · have : x = g := by simpa using z
      exact .inr ⟨this, this ▸ c.1⟩
  · exact .inl h
theorem adds_nodup {X : List Int} : ∀ {gs F : List Int}, F.Nodup → (gs.foldl (addF X) F).Nodup
  | [], _, h => h
  | _ :: r, _, h => adds_nodup (gs := r) (addF_nodup h)
theorem adds_pre (X : List Int) : ∀ (gs F : List Int), ∃ q, gs.foldl (addF X) F = F ++ q
  | [], F => ⟨[], by simp⟩
  | g :: r, F => by
    obtain ⟨a, e⟩ := addF_pre X F g
    obtain ⟨b, e2⟩ := adds_pre X r (addF X F g)
    exact ⟨a ++ b, by rw [List.foldl_cons, e2, e, List.append_assoc]⟩
theorem adds_has {X : List Int} : ∀ {gs F : List Int} {g : Int}, g ∈ gs → g ∈ X → g ∈ gs.foldl (addF X) F
  | [], _, _, h, _ => absurd h List.not_mem_nil
  | b :: r, F, g, h, hx => by
    rcases List.mem_cons.mp h with rfl | h
    · obtain ⟨q, e⟩ := adds_pre X r (addF X F g)
      rw [List.foldl_cons, e]
      exact List.mem_append_left _ (addF_has hx)
    · exact adds_has (gs := r) h hx
theorem adds_mem {X : List Int} : ∀ {gs F : List Int} {x : Int}, x ∈ gs.foldl (addF X) F → x ∈ F ∨ (x ∈ gs ∧ x ∈ X)
  | [], _, _, h => .inl h
  | g :: r, F, x, h => by
    rcases adds_mem (gs := r) h with z | ⟨z1, z2⟩
    · rcases addF_mem z with y | ⟨y1, y2⟩
      · exact .inl y
      · exact .inr ⟨by rw [y1]; exact List.mem_cons_self, y2⟩
    · exact .inr ⟨List.mem_cons_of_mem _ z1, z2⟩
def fRo (R : List RowI) (at_ : Int) (X F : List Int) (spot : Int) (s5 s6 : Slot) : Ro := [.fz (rowsV R), .fz (.int at_), .fz (.lst (X.map .int)), .ow (.lst (F.map .int)), .fz (.int spot), s5, s6]
abbrev fIn : List Sx := [(.ife (.and (.cmp .isin (.v 6) (.v 2)) (.cmp .notin (.v 6) (.v 3))) [(.mut 3 .append [(.v 6)])] [])]
abbrev fOut : List Sx := [(.asg (.nm 5) (.ite (.cmp .lt (.v 4) (.int 0)) (.v 1) (.idx (.v 3) (.v 4)))), (.for_ (.nm 6) (.seq (.idx (.idx (.v 0) (.v 5)) (.int 1))) fIn), (.asg (.nm 4) (.bin .add (.v 4) (.int 1)))]
theorem inI (x : Int) (l : List Int) : inF (.int x) (.lst (l.map .int)) = some (decide (x ∈ l)) := in_lst x l
theorem idx_rows {R : List RowI} {a : Int} (ha : a ∈ zeroTo R.length) : idxF (rowsV R) (.int a) = some (.tup [.int (C0 R a), .tup ((AI R a).map .int)]) := by
  have hz := zeroTo_mem.mp ha
  have hlt : a.toNat < R.length := by omega
  simp only [idxF, rowsV, ixN]
  rw [if_pos ⟨hz.1, by rw [List.length_map]; exact hz.2⟩]
  simp [C0, AI, List.getD_eq_getElem?_getD, hlt, rowV]
theorem f_turn (cal mkc : Cal) (R : List RowI) (at_ : Int) (X F : List Int) (spot : Int) (s5 : Slot) (g : Int) (hF : F.length < 1000) : evSs tab cal mkc fIn (fRo R at_ X F spot s5 (.fz (.int g))) = some (.ok .nx (fRo R at_ X (addF X F g) spot s5 (.fz (.int g)))) := by
  have i1 := inI g X
  have i2 := inI g F
  have c1 : F.length < cap := by unfold cap; omega
  unfold addF
  by_cases h1 : g ∈ X
  · by_cases h2 : g ∈ F
    · rw [if_neg (fun z => z.2 h2)]
      simp [fRo, evE.eq_1, evE.eq_2, evE.eq_3, evE.eq_4, evE.eq_5, evE.eq_6, evE.eq_7, evE.eq_8, evE.eq_9, evE.eq_10, evE.eq_11, evE.eq_12, evE.eq_13, evE.eq_14, evE.eq_15, evE.eq_16, evE.eq_17, evE.eq_18, evE.eq_19, evE.eq_20, evE.eq_21, evE.eq_25, evE.eq_26, evE.eq_27, evE.eq_28, evE.eq_31, evSs, evS, evOp, evC, evEs, opnd, Opd.val, Slot.val, slotAt, fixv, isiV, isiF, typ, asBool, cmpF, endF, keptIo, lift, pur, bltF, len, assn, assns, i1, i2, h1, h2]
    · rw [if_pos ⟨h1, h2⟩]
      simp [fRo, evE.eq_1, evE.eq_2, evE.eq_3, evE.eq_4, evE.eq_5, evE.eq_6, evE.eq_7, evE.eq_8, evE.eq_9, evE.eq_10, evE.eq_11, evE.eq_12, evE.eq_13, evE.eq_14, evE.eq_15, evE.eq_16, evE.eq_17, evE.eq_18, evE.eq_19, evE.eq_20, evE.eq_21, evE.eq_25, evE.eq_26, evE.eq_27, evE.eq_28, evE.eq_31, evSs, evS, evOp, evC, evEs, opnd, Opd.val, Slot.val, slotAt, fixv, isiV, isiF, typ, asBool, cmpF, endF, keptIo, lift, pur, bltF, len, assn, assns, i1, i2, h1, h2, ownAt, mutK, mutF, c1]
  · rw [if_neg (fun z => h1 z.1)]
    simp [fRo, evE.eq_1, evE.eq_2, evE.eq_3, evE.eq_4, evE.eq_5, evE.eq_6, evE.eq_7, evE.eq_8, evE.eq_9, evE.eq_10, evE.eq_11, evE.eq_12, evE.eq_13, evE.eq_14, evE.eq_15, evE.eq_16, evE.eq_17, evE.eq_18, evE.eq_19, evE.eq_20, evE.eq_21, evE.eq_25, evE.eq_26, evE.eq_27, evE.eq_28, evE.eq_31, evSs, evS, evOp, evC, evEs, opnd, Opd.val, Slot.val, slotAt, fixv, isiV, isiF, typ, asBool, cmpF, endF, keptIo, lift, pur, bltF, len, assn, assns, i1, h1]
theorem f_for (cal mkc : Cal) (R : List RowI) (at_ : Int) (X : List Int) (spot : Int) (s5 : Slot) : ∀ (gs F : List Int) (s6 : Slot), F.length + gs.length < 1000 → ∃ s6', forF (evSs tab cal mkc fIn) (.nm 6) (gs.map .int) (fRo R at_ X F spot s5 s6) = some (.ok .nx (fRo R at_ X (gs.foldl (addF X) F) spot s5 s6'))
  | [], F, s6, _ => ⟨s6, rfl⟩
  | g :: gs, F, s6, hl => by
    rw [List.length_cons] at hl
    have t1 := f_turn cal mkc R at_ X F spot s5 g (by omega)
    have hq : (addF X F g).length ≤ F.length + 1 := by
      unfold addF
      split <;> simp
    obtain ⟨s6', ih⟩ := f_for cal mkc R at_ X spot s5 gs (addF X F g) (.fz (.int g)) (by omega)
    refine ⟨s6', ?_⟩
    have as1 : assn (.nm 6) (.fz (.int g)) (fRo R at_ X F spot s5 s6) = some (fRo R at_ X F spot s5 (.fz (.int g))) := rfl
    rw [List.map_cons, List.foldl_cons]
    simp only [forF, as1, t1, bnd_ok]
    exact ih
structure FInv (R : List RowI) (at_ : Int) (X F : List Int) (spot : Int) : Prop where
  nd : F.Nodup
  ri : ∀ x ∈ F, RI (AI R) (· ∈ X) at_ x
  lo : -1 ≤ spot
  hi : spot ≤ F.length
  st : 0 ≤ spot → ∀ y ∈ AI R at_, y ∈ X → y ∈ F
  cl : ∀ (i : Nat) (x : Int), (i : Int) < spot → F[i]? = some x → ∀ y ∈ AI R x, y ∈ X → y ∈ F
theorem q_from (k : Nat) {l : List Nat} {R : List RowI} (M : GoodM l R) {at_ : Int} (ha : at_ ∈ zeroTo R.length) {X : List Int} (hX : ∀ x ∈ X, x ∈ zeroTo R.length) (hXl : X.length ≤ 100) :
    ∃ F : List Int, evF tab (k + 1) "_law_from" [.fz (rowsV R), .fz (.int at_), .fz (.lst (X.map .int))] = some (.ok (.ow (.lst (F.map .int))) [.fz (rowsV R), .fz (.int at_), .fz (.lst (X.map .int))]) ∧ F.Nodup ∧ ∀ x, x ∈ F ↔ RI (AI R) (· ∈ X) at_ x := by
  have lenF : ∀ F spot, FInv R at_ X F spot → F.length ≤ X.length := fun F spot h => nodup_le h.nd fun x hx => (h.ri x hx).inn
  have hlet := M.let_
  have body : ∀ (F : List Int) (spot : Int) (s5 s6 : Slot), FInv R at_ X F spot → spot < F.length → ∃ F' s5' s6', evSs tab (evF tab k) (ev2 tab k).2 fOut (fRo R at_ X F spot s5 s6) = some (.ok .nx (fRo R at_ X F' (spot + 1) s5' s6')) ∧ FInv R at_ X F' (spot + 1) := by
    intro F spot s5 s6 I hs
    obtain ⟨here, hh, hD, hR⟩ : ∃ here : Int, evE tab (evF tab k) (ev2 tab k).2 (.ite (.cmp .lt (.v 4) (.int 0)) (.v 1) (.idx (.v 3) (.v 4))) (fRo R at_ X F spot s5 s6) = some (.ok (.fz (.int here)) (fRo R at_ X F spot s5 s6)) ∧ here ∈ zeroTo R.length ∧ ((spot = -1 ∧ here = at_) ∨ (0 ≤ spot ∧ F[spot.toNat]? = some here)) := by
      by_cases h0 : spot < 0
      · refine ⟨at_, ?_, ha, .inl ⟨by have := I.lo; omega, rfl⟩⟩
        simp [fRo, evE.eq_1, evE.eq_2, evE.eq_3, evE.eq_4, evE.eq_5, evE.eq_6, evE.eq_7, evE.eq_8, evE.eq_9, evE.eq_10, evE.eq_11, evE.eq_12, evE.eq_13, evE.eq_14, evE.eq_15, evE.eq_16, evE.eq_17, evE.eq_18, evE.eq_19, evE.eq_20, evE.eq_21, evE.eq_25, evE.eq_26, evE.eq_27, evE.eq_28, evE.eq_31, evSs, evS, evOp, evC, evEs, opnd, Opd.val, Slot.val, slotAt, fixv, isiV, isiF, typ, asBool, cmpF, endF, keptIo, lift, pur, bltF, len, assn, assns, h0]
      · have hlt : spot.toNat < F.length := by omega
        refine ⟨F[spot.toNat], ?_, hX _ (I.ri _ (List.getElem_mem hlt)).inn, .inr ⟨by omega, List.getElem?_eq_getElem hlt⟩⟩
        have ix : idxF (.lst (F.map .int)) (.int spot) = some (.int F[spot.toNat]) := by
          simp only [idxF, ixN]
          rw [if_pos ⟨by omega, by rw [List.length_map]; omega⟩]
          simp [hlt]
        simp [fRo, evE.eq_1, evE.eq_2, evE.eq_3, evE.eq_4, evE.eq_5, evE.eq_6, evE.eq_7, evE.eq_8, evE.eq_9, evE.eq_10, evE.eq_11, evE.eq_12, evE.eq_13, evE.eq_14, evE.eq_15, evE.eq_16, evE.eq_17, evE.eq_18, evE.eq_19, evE.eq_20, evE.eq_21, evE.eq_25, evE.eq_26, evE.eq_27, evE.eq_28, evE.eq_31, evSs, evS, evOp, evC, evEs, opnd, Opd.val, Slot.val, slotAt, fixv, isiV, isiF, typ, asBool, cmpF, endF, keptIo, lift, pur, bltF, len, assn, assns, h0, ix]
    have b1 : evS tab (evF tab k) (ev2 tab k).2 (.asg (.nm 5) (.ite (.cmp .lt (.v 4) (.int 0)) (.v 1) (.idx (.v 3) (.v 4)))) (fRo R at_ X F spot s5 s6) = some (.ok .nx (fRo R at_ X F spot (.fz (.int here)) s6)) := by
      simp only [evS, hh, bnd_ok]
      rfl
    have hal : (AI R here).length ≤ 3 := by
      have h1 := (M.row _ (row_mem hD)).2.2.1
      have h2 : (AI R here).length = l.length := h1
      omega
    obtain ⟨s6', h2⟩ := f_for (evF tab k) (ev2 tab k).2 R at_ X spot (.fz (.int here)) (AI R here) F s6 (by have := lenF F spot I; omega)
    have b2 : evS tab (evF tab k) (ev2 tab k).2 (.for_ (.nm 6) (.seq (.idx (.idx (.v 0) (.v 5)) (.int 1))) fIn) (fRo R at_ X F spot (.fz (.int here)) s6) = some (.ok .nx (fRo R at_ X ((AI R here).foldl (addF X) F) spot (.fz (.int here)) s6')) := by
      have ix := idx_rows hD
      have ix2 : idxF (.tup [.int (C0 R here), .tup ((AI R here).map .int)]) (.int 1) = some (.tup ((AI R here).map .int)) := rfl
      have hit : evIt tab (evF tab k) (ev2 tab k).2 (.seq (.idx (.idx (.v 0) (.v 5)) (.int 1))) (fRo R at_ X F spot (.fz (.int here)) s6) = some (.ok ((AI R here).map .int) (fRo R at_ X F spot (.fz (.int here)) s6)) := by
        simp [evIt, fRo, evE.eq_1, evE.eq_2, evE.eq_3, evE.eq_4, evE.eq_5, evE.eq_6, evE.eq_7, evE.eq_8, evE.eq_9, evE.eq_10, evE.eq_11, evE.eq_12, evE.eq_13, evE.eq_14, evE.eq_15, evE.eq_16, evE.eq_17, evE.eq_18, evE.eq_19, evE.eq_20, evE.eq_21, evE.eq_25, evE.eq_26, evE.eq_27, evE.eq_28, evE.eq_31, evSs, evS, evOp, evC, evEs, opnd, Opd.val, Slot.val, slotAt, fixv, isiV, isiF, typ, asBool, cmpF, endF, keptIo, lift, pur, bltF, len, assn, assns, ix, ix2, itemsF]
      rw [evS_for, hit, bnd_ok, if_pos (by rw [List.length_map]; unfold cap; omega), h2]
    have b3 : ∀ F', evS tab (evF tab k) (ev2 tab k).2 (.asg (.nm 4) (.bin .add (.v 4) (.int 1))) (fRo R at_ X F' spot (.fz (.int here)) s6') = some (.ok .nx (fRo R at_ X F' (spot + 1) (.fz (.int here)) s6')) := by
      intro F'
      simp [fRo, evE.eq_1, evE.eq_2, evE.eq_3, evE.eq_4, evE.eq_5, evE.eq_6, evE.eq_7, evE.eq_8, evE.eq_9, evE.eq_10, evE.eq_11, evE.eq_12, evE.eq_13, evE.eq_14, evE.eq_15, evE.eq_16, evE.eq_17, evE.eq_18, evE.eq_19, evE.eq_20, evE.eq_21, evE.eq_25, evE.eq_26, evE.eq_27, evE.eq_28, evE.eq_31, evSs, evS, evOp, evC, evEs, opnd, Opd.val, Slot.val, slotAt, fixv, isiV, isiF, typ, asBool, cmpF, endF, keptIo, lift, pur, bltF, len, assn, assns, binF]
    refine ⟨(AI R here).foldl (addF X) F, .fz (.int here), s6', ?_, ?_⟩
    · simp only [fOut, evSs, b1, b2, b3, bnd_ok, pur]
    · obtain ⟨q, eq⟩ := adds_pre X (AI R here) F
      have hri : RR (AI R) (· ∈ X) at_ here := by
        rcases hR with ⟨_, rfl⟩ | ⟨_, h⟩
        · exact .refl
        · exact .inr (I.ri _ (List.mem_of_getElem? h))
      refine ⟨adds_nodup I.nd, fun x hx => ?_, by have := I.lo; omega, ?_, fun h0 y hy hyX => ?_, fun i x hi hx y hy hyX => ?_⟩
      · rcases adds_mem hx with z | ⟨z1, z2⟩
        · exact I.ri x z
        · exact hri.ri (.one z1 z2)
      · rw [eq, List.length_append]; omega
      · rcases hR with ⟨_, rfl⟩ | ⟨h, _⟩
        · exact adds_has hy hyX
        · rw [eq]; exact List.mem_append_left _ (I.st h y hy hyX)
      · by_cases hlt : (i : Int) < spot
        · have hiF : i < F.length := by omega
          rw [eq, List.getElem?_append_left hiF] at hx
          rw [eq]; exact List.mem_append_left _ (I.cl i x hlt hx y hy hyX)
        · rcases hR with ⟨h, _⟩ | ⟨h0, h⟩
          · omega
          · have : i = spot.toNat := by omega
            subst this
            have hiF : spot.toNat < F.length := (List.getElem?_eq_some_iff.mp h).1
            rw [eq, List.getElem?_append_left hiF, h] at hx
            cases hx
            exact adds_has hy hyX
  obtain ⟨ρ', h1, F, spot, s5, s6, rfl, I, hs⟩ := whlF_inv (test := fun ρ => bnd (evE tab (evF tab k) (ev2 tab k).2 (.cmp .lt (.v 4) (.blt .len [(.v 3)])) ρ) asBool) (body := evSs tab (evF tab k) (ev2 tab k).2 fOut)
    (fun ρ => ∃ F spot s5 s6, ρ = fRo R at_ X F spot s5 s6 ∧ FInv R at_ X F spot)
    (fun ρ => ∃ F spot s5 s6, ρ = fRo R at_ X F spot s5 s6 ∧ FInv R at_ X F spot ∧ (F.length : Int) ≤ spot)
    (fun ρ => match ρ with | [_, _, _, _, .fz (.int k), _, _] => (1000 - k).toNat | _ => 0)
    (fun ρ hI => by
      obtain ⟨F, spot, s5, s6, rfl, I⟩ := hI
      have ht : bnd (evE tab (evF tab k) (ev2 tab k).2 (.cmp .lt (.v 4) (.blt .len [(.v 3)])) (fRo R at_ X F spot s5 s6)) asBool = some (.ok (decide (spot < F.length)) (fRo R at_ X F spot s5 s6)) := by
        simp [fRo, evE.eq_1, evE.eq_2, evE.eq_3, evE.eq_4, evE.eq_5, evE.eq_6, evE.eq_7, evE.eq_8, evE.eq_9, evE.eq_10, evE.eq_11, evE.eq_12, evE.eq_13, evE.eq_14, evE.eq_15, evE.eq_16, evE.eq_17, evE.eq_18, evE.eq_19, evE.eq_20, evE.eq_21, evE.eq_25, evE.eq_26, evE.eq_27, evE.eq_28, evE.eq_31, evSs, evS, evOp, evC, evEs, opnd, Opd.val, Slot.val, slotAt, fixv, isiV, isiF, typ, asBool, cmpF, endF, keptIo, lift, pur, bltF, len, assn, assns]
      by_cases h : spot < F.length
      · left
        obtain ⟨F', s5', s6', hb, I'⟩ := body F spot s5 s6 I h
        have hl := lenF F spot I
        refine ⟨_, _, by rw [ht, decide_eq_true h], hb, ⟨F', spot + 1, s5', s6', rfl, I'⟩, ?_⟩
        simp only [fRo]
        omega
      · right
        exact ⟨_, by rw [ht, decide_eq_false h], F, spot, s5, s6, rfl, I, by omega⟩) fuel (fRo R at_ X [] (-1) .un .un) ⟨[], -1, .un, .un, rfl, ⟨by simp, by simp, by omega, by simp, by omega, by simp⟩⟩ (by simp only [fRo]; unfold fuel; omega)
  refine ⟨F, ?_, I.nd, fun x => ⟨I.ri x, fun h => RI.closed (F := F) (fun z hz y hy hyX => ?_) h⟩⟩
  · rw [evF_succ, run_def fn__law_from (tab_ext _) rfl]
    have st0 : evS tab (evF tab k) (ev2 tab k).2 (.par [3, 4] [(.lst []), (.neg (.int 1))]) [.fz (rowsV R), .fz (.int at_), .fz (.lst (X.map .int)), .un, .un, .un, .un] = some (.ok .nx (fRo R at_ X [] (-1) .un .un)) := by
      simp [fRo, evSl, setAll, evE.eq_1, evE.eq_2, evE.eq_3, evE.eq_4, evE.eq_5, evE.eq_6, evE.eq_7, evE.eq_8, evE.eq_9, evE.eq_10, evE.eq_11, evE.eq_12, evE.eq_13, evE.eq_14, evE.eq_15, evE.eq_16, evE.eq_17, evE.eq_18, evE.eq_19, evE.eq_20, evE.eq_21, evE.eq_25, evE.eq_26, evE.eq_27, evE.eq_28, evE.eq_31, evSs, evS, evOp, evC, evEs, opnd, Opd.val, Slot.val, slotAt, fixv, isiV, isiF, typ, asBool, cmpF, endF, keptIo, lift, pur, bltF, len, assn, assns]
    have st1 : evS tab (evF tab k) (ev2 tab k).2 (.whl (.cmp .lt (.v 4) (.blt .len [(.v 3)])) fOut) (fRo R at_ X [] (-1) .un .un) = some (.ok .nx (fRo R at_ X F spot s5 s6)) := by
      simp only [evS]; exact h1
    have st2 : evS tab (evF tab k) (ev2 tab k).2 (.ret (.v 3)) (fRo R at_ X F spot s5 s6) = some (.ok (.rt (.ow (.lst (F.map .int)))) ((fRo R at_ X F spot s5 s6).set 3 .un)) := rfl
    have e : evSs tab (evF tab k) (ev2 tab k).2 ir__law_from.body [.fz (rowsV R), .fz (.int at_), .fz (.lst (X.map .int)), .un, .un, .un, .un] = some (.ok (.rt (.ow (.lst (F.map .int)))) ((fRo R at_ X F spot s5 s6).set 3 .un)) := by
      have spl : ir__law_from.body = [(.par [3, 4] [(.lst []), (.neg (.int 1))]), (.whl (.cmp .lt (.v 4) (.blt .len [(.v 3)])) fOut), .ret (.v 3)] := rfl
      rw [spl]
      simp only [evSs, st0, st1, st2, bnd_ok, pur]
    show endF _ _ (evSs tab (evF tab k) (ev2 tab k).2 ir__law_from.body [.fz (rowsV R), .fz (.int at_), .fz (.lst (X.map .int)), .un, .un, .un, .un]) = _
    rw [e]
    simp [endF, keptIo, ir__law_from, fRo]
  · rcases hz with rfl | hz
    · exact I.st (by omega) y hy hyX
    · obtain ⟨i, hi, e⟩ := List.getElem_of_mem hz
      exact I.cl i z (by omega) (List.getElem?_eq_some_iff.mpr ⟨hi, e⟩) y hy hyX
end EV
namespace EV
open PySem GH Pl
theorem allI_map : ∀ l : List Int, allI (l.map .int) = some l
  | [] => rfl
  | x :: r => by simp [allI, allI_map r]
theorem maxI_ge : ∀ (l : List Int) (m : Int), m ≤ maxI m l ∧ ∀ x ∈ l, x ≤ maxI m l
  | [], m => by simp [maxI]
  | a :: l, m => by
    have h := maxI_ge l (max m a)
    simp only [maxI]
    refine ⟨by omega, fun x hx => ?_⟩
    rcases List.mem_cons.mp hx with rfl | hx
    · omega
    · exact h.2 x hx
theorem maxI_in : ∀ (l : List Int) (m : Int), maxI m l = m ∨ maxI m l ∈ l
  | [], m => .inl rfl
  | a :: l, m => by
    simp only [maxI]
    rcases maxI_in l (max m a) with h | h
    · rw [h]
      by_cases c : m ≤ a
      · exact .inr (by rw [Int.max_eq_right c]; exact List.mem_cons_self)
      · exact .inl (Int.max_eq_left (by omega))
    · exact .inr (List.mem_cons_of_mem _ h)
/-- the greatest colour of some states -/
def topC (R : List RowI) (X : List Int) : Int := match X.map (C0 R) with
  | [] => 0
  | i :: is => maxI i is
theorem topC_is {R : List RowI} {X : List Int} (h : X ≠ []) : TopIs (C0 R) X (topC R X) := by
  cases X with
  | nil => exact absurd rfl h
  | cons a X =>
    have e : topC R (a :: X) = maxI (C0 R a) (X.map (C0 R)) := rfl
    have hg := maxI_ge (X.map (C0 R)) (C0 R a)
    rw [e]
    refine ⟨fun b hb => ?_, ?_⟩
    · rcases List.mem_cons.mp hb with rfl | hb
      · exact hg.1
      · exact hg.2 _ (List.mem_map.mpr ⟨b, hb, rfl⟩)
    · rcases maxI_in (X.map (C0 R)) (C0 R a) with z | z
      · exact ⟨a, List.mem_cons_self, z.symm⟩
      · obtain ⟨b, hb, e⟩ := List.mem_map.mp z
        exact ⟨b, List.mem_cons_of_mem _ hb, e⟩
theorem TopIs.uniq {α : Type} {C : α → Int} {X : List α} {c d : Int} (h : TopIs C X c) (g : TopIs C X d) : c = d := by
  obtain ⟨a, ha, e⟩ := h.2
  obtain ⟨b, hb, e'⟩ := g.2
  have := h.1 b hb
  have := g.1 a ha
  omega
open Classical in
noncomputable def loopsL (R : List RowI) : List (List Int) := (lotsF R.length).tail.filter fun X => decide (Lot (AI R) X)
def oddV (R : List RowI) (X : List Int) : Val := .tup [.lst (X.map .int), .int (topC R X % 2)]
def oRo (R : List RowI) (lots : List (List Int)) (fnd : List (List Int)) (s3 s4 : Slot) : Ro := [.fz (rowsV R), .ow (.lst (lots.map lotV)), .ow (.lst (fnd.map (oddV R))), s3, s4]
abbrev o1 : Sx := (.asg (.nm 1) (.bin .add (.v 1) (.lc [4] (.nm 4) (.seq (.v 1)) none (.bin .add (.v 4) (.lst [(.v 3)])))))
theorem o1_turn (cal mkc : Cal) (R : List RowI) (n : Nat) (hn : n ≤ 10) : evSs tab cal mkc [o1] (oRo R (lotsF n) [] (.fz (.int (n : Nat))) .un) = some (.ok .nx (oRo R (lotsF (n + 1)) [] (.fz (.int (n : Nat))) .un)) := by
  refine evSs_1 ?_
  have hlen := lotsF_len n
  have h10 : 2 ^ n ≤ 2 ^ 10 := Nat.pow_le_pow_right (by omega) hn
  have hlc : evE tab cal mkc (.lc [4] (.nm 4) (.seq (.v 1)) none (.bin .add (.v 4) (.lst [(.v 3)]))) (oRo R (lotsF n) [] (.fz (.int (n : Nat))) .un) = some (.ok (.ow (.lst (((lotsF n).map fun X => X ++ [(n : Int)]).map lotV))) [.fz (rowsV R), .fz (.lst ((lotsF n).map lotV)), .ow (.lst []), .fz (.int (n : Nat)), .un]) := by
    have hit : evIt tab cal mkc (.seq (.v 1)) (oRo R (lotsF n) [] (.fz (.int (n : Nat))) .un) = some (.ok ((lotsF n).map lotV) [.fz (rowsV R), .fz (.lst ((lotsF n).map lotV)), .ow (.lst []), .fz (.int (n : Nat)), .un]) := by
      simp [evIt, oRo, evE.eq_1, evE.eq_2, evE.eq_3, evE.eq_4, evE.eq_5, evE.eq_6, evE.eq_7, evE.eq_8, evE.eq_9, evE.eq_10, evE.eq_11, evE.eq_12, evE.eq_13, evE.eq_14, evE.eq_15, evE.eq_16, evE.eq_17, evE.eq_18, evE.eq_19, evE.eq_20, evE.eq_21, evE.eq_25, evE.eq_26, evE.eq_27, evE.eq_28, evE.eq_31, evSs, evS, evOp, evC, evEs, opnd, Opd.val, Slot.val, slotAt, fixv, isiV, isiF, typ, asBool, cmpF, endF, keptIo, lift, pur, bltF, len, assn, assns, itemsF]
    have := ev_lcB lotV (fun X : List Int => some (lotV (X ++ [(n : Int)]))) hit (ns := [4]) (t := .nm 4) (c := none) (e := (.bin .add (.v 4) (.lst [(.v 3)]))) (by unfold cap; omega) rfl rfl (fun X hX => by
      refine ⟨[.fz (rowsV R), .fz (.lst ((lotsF n).map lotV)), .ow (.lst []), .fz (.int (n : Nat)), .fz (lotV X)], [.fz (rowsV R), .fz (.lst ((lotsF n).map lotV)), .ow (.lst []), .fz (.int (n : Nat)), .fz (lotV X)], rfl, ?_, rfl⟩
      have hl : X.length ≤ n := by
        have h := lotsF_in n X hX
        have := nodup_le (m := zeroTo n) h.1 (fun x hx => zeroTo_mem.mpr (h.2 x hx))
        rw [zeroTo_len] at this
        exact this
      have c1 : X.length + 1 ≤ cap := by unfold cap; omega
      have c2 : 1 ≤ cap := by unfold cap; omega
      have pn : (pv (n : Int) : Val) = .int (n : Nat) := rfl
      simp [lcF, evE.eq_1, evE.eq_2, evE.eq_3, evE.eq_4, evE.eq_5, evE.eq_6, evE.eq_7, evE.eq_8, evE.eq_9, evE.eq_10, evE.eq_11, evE.eq_12, evE.eq_13, evE.eq_14, evE.eq_15, evE.eq_16, evE.eq_17, evE.eq_18, evE.eq_19, evE.eq_20, evE.eq_21, evE.eq_25, evE.eq_26, evE.eq_27, evE.eq_28, evE.eq_31, evSs, evS, evOp, evC, evEs, opnd, Opd.val, Slot.val, slotAt, fixv, isiV, isiF, typ, asBool, cmpF, endF, keptIo, lift, pur, bltF, len, assn, assns, lotV, binF, c1, c2, pn])
    rw [this, List.map_map]
    simp [Function.comp_def]
  have hb : evE tab cal mkc (.bin .add (.v 1) (.lc [4] (.nm 4) (.seq (.v 1)) none (.bin .add (.v 4) (.lst [(.v 3)])))) (oRo R (lotsF n) [] (.fz (.int (n : Nat))) .un) = some (.ok (.ow (.lst ((lotsF (n + 1)).map lotV))) [.fz (rowsV R), .fz (.lst ((lotsF n).map lotV)), .ow (.lst []), .fz (.int (n : Nat)), .un]) := by
    rw [evE_bin]
    have o1' : opnd (.v 1) (evE tab cal mkc (.v 1)) (oRo R (lotsF n) [] (.fz (.int (n : Nat))) .un) = some (.ok (.pl 1) (oRo R (lotsF n) [] (.fz (.int (n : Nat))) .un)) := rfl
    rw [o1', bnd_ok]
    simp only [opnd, hlc, bnd_ok, pur, Opd.val]
    have hv : ([Slot.fz (rowsV R), .fz (.lst ((lotsF n).map lotV)), .ow (.lst []), .fz (.int (n : Nat)), .un][1]?).bind Slot.val = some (.lst ((lotsF n).map lotV)) := rfl
    rw [hv]
    simp only [Option.bind_some, binF]
    rw [if_pos (by simp only [List.length_map]; unfold cap; omega)]
    simp [lift, pur, lotsF]
  simp only [evS, hb, bnd_ok]
  rfl
abbrev o2 : List Sx := [(.ife (.cmp .eq (.lc [3] (.nm 3) (.seq (.v 4)) (some (.cmp .lt (.blt .len [(.call "_law_from" [(.v 0), (.v 3), (.v 4)] [])]) (.blt .len [(.v 4)]))) (.v 3)) (.lst [])) [(.mut 2 .append [(.tup [(.v 4), (.bin .mod (.blt .int [(.blt .max [(.lc [3] (.nm 3) (.seq (.v 4)) none (.idx (.idx (.v 0) (.v 3)) (.int 0)))])]) (.int 2))])])] [])]
theorem eq_nil (l : List Int) : eqF (.lst (l.map .int)) (.lst []) = some l.isEmpty := by
  unfold eqF
  have h1 : shp (.lst (l.map .int)) = true := shp_pvs l
  have h2 : shp (.lst []) = true := shp_pvs ([] : List Int)
  rw [h1, h2]
  cases l <;> rfl
open Classical in
theorem o2_turn (k : Nat) {l : List Nat} {R : List RowI} (M : GoodM l R) (lots : List (List Int)) (fnd : List (List Int)) (s3 : Slot) (h3 : ∀ v, s3 ≠ .ow v) (X : List Int) (hX : ∀ x ∈ X, x ∈ zeroTo R.length) (hnd : X.Nodup) (hne : X ≠ []) (hf : fnd.length ≤ 10000) :
    evSs tab (evF tab (k + 1)) (ev2 tab (k + 1)).2 o2 (oRo R lots fnd s3 (.fz (lotV X))) = some (.ok .nx (oRo R lots (if Lot (AI R) X then fnd ++ [X] else fnd) s3 (.fz (lotV X)))) := by
  have hXl : X.length ≤ 6 := by
    have h1 := nodup_le hnd hX
    have h2 := M.six
    rw [zeroTo_len] at h1
    omega
  have hlX : lotV X = .lst (X.map .int) := rfl
  have cl3 : clean [3] (oRo R lots fnd s3 (.fz (lotV X))) = true := by
    cases s3 with
    | ow v => exact absurd rfl (h3 v)
    | fz v => rfl
    | un => rfl
  have hit : evIt tab (evF tab (k + 1)) (ev2 tab (k + 1)).2 (.seq (.v 4)) (oRo R lots fnd s3 (.fz (lotV X))) = some (.ok (X.map .int) (oRo R lots fnd s3 (.fz (lotV X)))) := by
    simp [evIt, oRo, evE.eq_1, evE.eq_2, evE.eq_3, evE.eq_4, evE.eq_5, evE.eq_6, evE.eq_7, evE.eq_8, evE.eq_9, evE.eq_10, evE.eq_11, evE.eq_12, evE.eq_13, evE.eq_14, evE.eq_15, evE.eq_16, evE.eq_17, evE.eq_18, evE.eq_19, evE.eq_20, evE.eq_21, evE.eq_25, evE.eq_26, evE.eq_27, evE.eq_28, evE.eq_31, evSs, evS, evOp, evC, evEs, opnd, Opd.val, Slot.val, slotAt, fixv, isiV, isiF, typ, asBool, cmpF, endF, keptIo, lift, pur, bltF, len, assn, assns, itemsF, hlX]
  -- who does not come to all
  have hlc : evE tab (evF tab (k + 1)) (ev2 tab (k + 1)).2 (.lc [3] (.nm 3) (.seq (.v 4)) (some (.cmp .lt (.blt .len [(.call "_law_from" [(.v 0), (.v 3), (.v 4)] [])]) (.blt .len [(.v 4)]))) (.v 3)) (oRo R lots fnd s3 (.fz (lotV X))) = some (.ok (.ow (.lst ((X.filter fun a => !decide (∀ b ∈ X, RI (AI R) (· ∈ X) a b)).map .int))) (oRo R lots fnd s3 (.fz (lotV X)))) := by
    have := ev_lcB Val.int (fun a => if !decide (∀ b ∈ X, RI (AI R) (· ∈ X) a b) then some (Val.int a) else none) hit (ns := [3]) (t := .nm 3) (c := (some (.cmp .lt (.blt .len [(.call "_law_from" [(.v 0), (.v 3), (.v 4)] [])]) (.blt .len [(.v 4)])))) (e := .v 3) (by unfold cap; omega) cl3 rfl (fun a ha => by
      refine ⟨oRo R lots fnd (.fz (.int a)) (.fz (lotV X)), oRo R lots fnd (.fz (.int a)) (.fz (lotV X)), rfl, ?_, rfl⟩
      obtain ⟨F, qf, fnd', fm⟩ := q_from k M (hX a ha) hX (by omega)
      have hFX : (F.length < X.length) ↔ ¬ ∀ b ∈ X, RI (AI R) (· ∈ X) a b := by
        constructor
        · intro h z
          have := nodup_le (m := F) hnd fun b hb => (fm b).mpr (z b hb)
          omega
        · intro h
          refine Nat.lt_of_not_le fun z => h fun b hb => (fm b).mp ?_
          exact nodup_full fnd' (fun x hx => ((fm x).mp hx).inn) z b hb
      have hd : (!decide (∀ b ∈ X, RI (AI R) (· ∈ X) a b)) = decide ((F.length : Int) < X.length) := by
        rw [Bool.eq_iff_iff, decide_eq_true_iff, Bool.not_eq_true', decide_eq_false_iff_not, ← hFX]
        omega
      rw [hd]
      by_cases hq : (F.length : Int) < X.length <;> simp [lcF, oRo, evE.eq_1, evE.eq_2, evE.eq_3, evE.eq_4, evE.eq_5, evE.eq_6, evE.eq_7, evE.eq_8, evE.eq_9, evE.eq_10, evE.eq_11, evE.eq_12, evE.eq_13, evE.eq_14, evE.eq_15, evE.eq_16, evE.eq_17, evE.eq_18, evE.eq_19, evE.eq_20, evE.eq_21, evE.eq_25, evE.eq_26, evE.eq_27, evE.eq_28, evE.eq_31, evSs, evS, evOp, evC, evEs, opnd, Opd.val, Slot.val, slotAt, fixv, isiV, isiF, typ, asBool, cmpF, endF, keptIo, lift, pur, bltF, len, assn, assns, evE.eq_22, evAs, argOf, callF, ioNd, order, finish, putBack, Arg.slot, Arg.isN, Arg.isAt, Arg.isV, ownAt, newArg, idxF, ixN, binF, hlX, fn__law_from, ir__law_from, qf, hq])
    rw [this, fm_if]
  have hmx : ∀ f', evE tab (evF tab (k + 1)) (ev2 tab (k + 1)).2 (.lc [3] (.nm 3) (.seq (.v 4)) none (.idx (.idx (.v 0) (.v 3)) (.int 0))) (oRo R lots f' s3 (.fz (lotV X))) = some (.ok (.ow (.lst ((X.map (C0 R)).map .int))) (oRo R lots f' s3 (.fz (lotV X)))) := by
    intro f'
    have hit : evIt tab (evF tab (k + 1)) (ev2 tab (k + 1)).2 (.seq (.v 4)) (oRo R lots f' s3 (.fz (lotV X))) = some (.ok (X.map .int) (oRo R lots f' s3 (.fz (lotV X)))) := by
      simp [evIt, oRo, evE.eq_1, evE.eq_2, evE.eq_3, evE.eq_4, evE.eq_5, evE.eq_6, evE.eq_7, evE.eq_8, evE.eq_9, evE.eq_10, evE.eq_11, evE.eq_12, evE.eq_13, evE.eq_14, evE.eq_15, evE.eq_16, evE.eq_17, evE.eq_18, evE.eq_19, evE.eq_20, evE.eq_21, evE.eq_25, evE.eq_26, evE.eq_27, evE.eq_28, evE.eq_31, evSs, evS, evOp, evC, evEs, opnd, Opd.val, Slot.val, slotAt, fixv, isiV, isiF, typ, asBool, cmpF, endF, keptIo, lift, pur, bltF, len, assn, assns, itemsF, hlX]
    have := ev_lcB Val.int (fun a => some (Val.int (C0 R a))) hit (ns := [3]) (t := .nm 3) (c := none) (e := (.idx (.idx (.v 0) (.v 3)) (.int 0))) (by unfold cap; omega) (by
      cases s3 with
      | ow v => exact absurd rfl (h3 v)
      | fz v => rfl
      | un => rfl) rfl (fun a ha => by
      refine ⟨oRo R lots f' (.fz (.int a)) (.fz (lotV X)), oRo R lots f' (.fz (.int a)) (.fz (lotV X)), rfl, ?_, rfl⟩
      have ix := idx_rows (hX a ha)
      have ix2 : idxF (.tup [.int (C0 R a), .tup ((AI R a).map .int)]) (.int 0) = some (.int (C0 R a)) := rfl
      simp [lcF, oRo, evE.eq_1, evE.eq_2, evE.eq_3, evE.eq_4, evE.eq_5, evE.eq_6, evE.eq_7, evE.eq_8, evE.eq_9, evE.eq_10, evE.eq_11, evE.eq_12, evE.eq_13, evE.eq_14, evE.eq_15, evE.eq_16, evE.eq_17, evE.eq_18, evE.eq_19, evE.eq_20, evE.eq_21, evE.eq_25, evE.eq_26, evE.eq_27, evE.eq_28, evE.eq_31, evSs, evS, evOp, evC, evEs, opnd, Opd.val, Slot.val, slotAt, fixv, isiV, isiF, typ, asBool, cmpF, endF, keptIo, lift, pur, bltF, len, assn, assns, ix, ix2])
    rw [this]
    simp
  have hE : (X.filter fun a => !decide (∀ b ∈ X, RI (AI R) (· ∈ X) a b)).isEmpty = decide (Lot (AI R) X) := by
    rw [Bool.eq_iff_iff, decide_eq_true_iff, List.isEmpty_iff, List.filter_eq_nil_iff]
    unfold Lot
    constructor
    · intro h a ha
      have := h a ha
      rw [Bool.not_eq_true, Bool.not_eq_false', decide_eq_true_iff] at this
      exact this
    · intro h a ha
      rw [Bool.not_eq_true, Bool.not_eq_false', decide_eq_true_iff]
      exact h a ha
  have ht : evE tab (evF tab (k + 1)) (ev2 tab (k + 1)).2 (.cmp .eq (.lc [3] (.nm 3) (.seq (.v 4)) (some (.cmp .lt (.blt .len [(.call "_law_from" [(.v 0), (.v 3), (.v 4)] [])]) (.blt .len [(.v 4)]))) (.v 3)) (.lst [])) (oRo R lots fnd s3 (.fz (lotV X))) = some (.ok (.fz (.bl (decide (Lot (AI R) X)))) (oRo R lots fnd s3 (.fz (lotV X)))) := by
    rw [evE_cmp]
    simp only [opnd, hlc, bnd_ok, bnd_pur, pur, evE_lst, evEs, List.length_nil]
    rw [if_pos (by unfold cap; omega)]
    simp only [bnd_ok, Opd.val, Option.bind_some, cmpF, eq_nil, hE, Option.map_some, lift, pur]
  refine evSs_1 ?_
  rw [evS_ife, ht, bnd_ok]
  simp only [asBool, pur, bnd_ok]
  by_cases hL : Lot (AI R) X
  · rw [if_pos hL, if_pos (decide_eq_true hL)]
    refine evSs_1 ?_
    have h5 : evE tab (evF tab (k + 1)) (ev2 tab (k + 1)).2 (.v 4) (oRo R lots fnd s3 (.fz (lotV X))) = some (.ok (.fz (lotV X)) (oRo R lots fnd s3 (.fz (lotV X)))) := rfl
    have hm : evE tab (evF tab (k + 1)) (ev2 tab (k + 1)).2 (.bin .mod (.blt .int [(.blt .max [(.lc [3] (.nm 3) (.seq (.v 4)) none (.idx (.idx (.v 0) (.v 3)) (.int 0)))])]) (.int 2)) (oRo R lots fnd s3 (.fz (lotV X))) = some (.ok (.fz (.int (topC R X % 2))) (oRo R lots fnd s3 (.fz (lotV X)))) := by
      have hb : bltF .max [.lst ((X.map (C0 R)).map .int)] = some (.fz (.int (topC R X))) := by
        simp only [bltF, allI_map]
        unfold topC
        cases X with
        | nil => exact absurd rfl hne
        | cons a r => rfl
      have hi : bltF .int [.int (topC R X)] = some (.fz (.int (topC R X))) := rfl
      have hmod : binF .mod (.int (topC R X)) (.int 2) = some (.fz (.int (topC R X % 2))) := rfl
      simp only [evE_bin, opnd, evE_blt1, hmx, bnd_ok, bnd_pur, pur, Opd.val, Option.bind_some, hb, lift, hi, evE_int, hmod]
    have ho : ownAt 2 (oRo R lots fnd s3 (.fz (lotV X))) = some (.lst (fnd.map (oddV R))) := rfl
    simp only [evS, evEs, evE_tup, h5, hm, ho, bnd_ok, bnd_pur, pur, fixv, mutK, Option.map_some, Option.getD_some, Bool.not_true, Bool.false_eq_true, if_false, List.length_cons, List.length_nil]
    rw [if_pos (by unfold cap; omega)]
    simp only [bnd_ok, ho, Option.bind_some, mutF]
    rw [if_pos (by rw [List.length_map]; unfold cap; omega)]
    simp [oRo, oddV, lotV]
    exact fun _ _ => rfl
  · rw [if_neg hL, if_neg (by simp [hL])]
    simp only [evSs, pur]
theorem cut1 {α : Type} (xs : List α) : cut xs (some 1) none = xs.tail := by
  cases xs with
  | nil => simp [cut]
  | cons a r => simp [cut, sIx]
open Classical in
theorem q_law_loops (k : Nat) {l : List Nat} {R : List RowI} (M : GoodM l R) : evF tab (k + 2) "_law_loops" [.fz (rowsV R)] = some (.ok (.ow (.lst ((loopsL R).map (oddV R)))) [.fz (rowsV R)]) := by
  rw [evF_succ, run_def fn__law_loops (tab_ext _) rfl]
  have hn := M.six
  have hlen := lotsF_len R.length
  have h64 : 2 ^ R.length ≤ 2 ^ 6 := Nat.pow_le_pow_right (by omega) hn
  have st0 : evS tab (evF tab (k + 1)) (ev2 tab (k + 1)).2 (.par [1, 2] [(.lst [(.lst [])]), (.lst [])]) [.fz (rowsV R), .un, .un, .un, .un] = some (.ok .nx (oRo R (lotsF 0) [] .un .un)) := by
    have c1 : 1 ≤ cap := by unfold cap; omega
    simp [oRo, evSl, setAll, evE.eq_1, evE.eq_2, evE.eq_3, evE.eq_4, evE.eq_5, evE.eq_6, evE.eq_7, evE.eq_8, evE.eq_9, evE.eq_10, evE.eq_11, evE.eq_12, evE.eq_13, evE.eq_14, evE.eq_15, evE.eq_16, evE.eq_17, evE.eq_18, evE.eq_19, evE.eq_20, evE.eq_21, evE.eq_25, evE.eq_26, evE.eq_27, evE.eq_28, evE.eq_31, evSs, evS, evOp, evC, evEs, opnd, Opd.val, Slot.val, slotAt, fixv, isiV, isiF, typ, asBool, cmpF, endF, keptIo, lift, pur, bltF, len, assn, assns, lotsF, lotV, c1]
  obtain ⟨ρ', h1, s3, rfl, hs3⟩ := forF_inv (body := evSs tab (evF tab (k + 1)) (ev2 tab (k + 1)).2 [o1]) (t := .nm 3) (fun n ρ => ∃ s3, ρ = oRo R (lotsF n) [] s3 .un ∧ ∀ v, s3 ≠ .ow v) (rng 0 (R.length : Nat)) 0 (oRo R (lotsF 0) [] .un .un) ⟨.un, rfl, nofun⟩ (fun n x ρ hx hI => by
    obtain ⟨s3, rfl, _⟩ := hI
    unfold rng at hx
    rw [List.getElem?_map] at hx
    obtain ⟨i, hi, rfl⟩ := Option.map_eq_some_iff.mp hx
    obtain ⟨hi1, hi2⟩ := List.getElem?_eq_some_iff.mp hi
    rw [List.getElem_range] at hi2
    rw [List.length_range] at hi1
    subst hi2
    have e0 : (0 : Int) + (n : Nat) = (n : Nat) := by omega
    rw [e0, Nat.zero_add]
    exact ⟨_, _, rfl, o1_turn (evF tab (k + 1)) (ev2 tab (k + 1)).2 R n (by omega), .fz (.int (n : Nat)), rfl, nofun⟩)
  have hrl : (rng 0 (R.length : Nat)).length = R.length := by unfold rng; simp
  rw [hrl, Nat.zero_add] at h1
  have st1 : evS tab (evF tab (k + 1)) (ev2 tab (k + 1)).2 (.for_ (.nm 3) (.rng (.blt .len [(.v 0)])) [o1]) (oRo R (lotsF 0) [] .un .un) = some (.ok .nx (oRo R (lotsF R.length) [] s3 .un)) := by
    have hit : evIt tab (evF tab (k + 1)) (ev2 tab (k + 1)).2 (.rng (.blt .len [(.v 0)])) (oRo R (lotsF 0) [] .un .un) = some (.ok (rng 0 (R.length : Nat)) (oRo R (lotsF 0) [] .un .un)) := by
      have hz : -(cap : Int) ≤ (R.length : Nat) ∧ ((R.length : Nat) : Int) ≤ cap := by unfold cap; omega
      simp [evIt, oRo, evE.eq_1, evE.eq_2, evE.eq_3, evE.eq_4, evE.eq_5, evE.eq_6, evE.eq_7, evE.eq_8, evE.eq_9, evE.eq_10, evE.eq_11, evE.eq_12, evE.eq_13, evE.eq_14, evE.eq_15, evE.eq_16, evE.eq_17, evE.eq_18, evE.eq_19, evE.eq_20, evE.eq_21, evE.eq_25, evE.eq_26, evE.eq_27, evE.eq_28, evE.eq_31, evSs, evS, evOp, evC, evEs, opnd, Opd.val, Slot.val, slotAt, fixv, isiV, isiF, typ, asBool, cmpF, endF, keptIo, lift, pur, bltF, len, assn, assns, rowsV, rngF, hz]
    rw [evS_for, hit, bnd_ok, if_pos (by rw [hrl]; unfold cap; omega), h1]
  have loop2 : ∀ (Xs fnd : List (List Int)) (s4 : Slot), (∀ X ∈ Xs, (∀ x ∈ X, x ∈ zeroTo R.length) ∧ X.Nodup ∧ X ≠ []) → fnd.length + Xs.length ≤ 10000 → ∃ s4', forF (evSs tab (evF tab (k + 1)) (ev2 tab (k + 1)).2 o2) (.nm 4) (Xs.map lotV) (oRo R (lotsF R.length) fnd s3 s4) = some (.ok .nx (oRo R (lotsF R.length) (fnd ++ Xs.filter fun X => decide (Lot (AI R) X)) s3 s4')) := by
    intro Xs
    induction Xs with
    | nil => exact fun fnd s4 _ _ => ⟨s4, by simp [forF, pur]⟩
    | cons X Xs ih =>
      intro fnd s4 hX hl
      rw [List.length_cons] at hl
      have h0 := hX X List.mem_cons_self
      have t1 := o2_turn k M (lotsF R.length) fnd s3 hs3 X h0.1 h0.2.1 h0.2.2 (by omega)
      have hq : (if Lot (AI R) X then fnd ++ [X] else fnd).length ≤ fnd.length + 1 := by split <;> simp
      obtain ⟨s4', ih'⟩ := ih (if Lot (AI R) X then fnd ++ [X] else fnd) (.fz (lotV X)) (fun Y hY => hX Y (List.mem_cons_of_mem _ hY)) (by omega)
      refine ⟨s4', ?_⟩
      have as1 : assn (.nm 4) (.fz (lotV X)) (oRo R (lotsF R.length) fnd s3 s4) = some (oRo R (lotsF R.length) fnd s3 (.fz (lotV X))) := rfl
      rw [List.map_cons]
      simp only [forF, as1, t1, bnd_ok]
      rw [ih', List.filter_cons]
      by_cases h : Lot (AI R) X <;> simp [h]
  have htl : (lotsF R.length).tail.length ≤ 64 := by rw [List.length_tail]; omega
  obtain ⟨s4, h2⟩ := loop2 (lotsF R.length).tail [] .un (fun X hX => by
    have hXm := List.mem_of_mem_tail hX
    have h := lotsF_in R.length X hXm
    refine ⟨fun x hx => zeroTo_mem.mpr (h.2 x hx), h.1, lotsF_tne hX⟩) (by simp; omega)
  have st2 : evS tab (evF tab (k + 1)) (ev2 tab (k + 1)).2 (.for_ (.nm 4) (.seq (.slc (.v 1) (some (.int 1)) none)) o2) (oRo R (lotsF R.length) [] s3 .un) = some (.ok .nx (oRo R (lotsF R.length) (loopsL R) s3 s4)) := by
    have hit : evIt tab (evF tab (k + 1)) (ev2 tab (k + 1)).2 (.seq (.slc (.v 1) (some (.int 1)) none)) (oRo R (lotsF R.length) [] s3 .un) = some (.ok ((lotsF R.length).tail.map lotV) (oRo R (lotsF R.length) [] s3 .un)) := by
      simp [evIt, oRo, evE.eq_1, evE.eq_2, evE.eq_3, evE.eq_4, evE.eq_5, evE.eq_6, evE.eq_7, evE.eq_8, evE.eq_9, evE.eq_10, evE.eq_11, evE.eq_12, evE.eq_13, evE.eq_14, evE.eq_15, evE.eq_16, evE.eq_17, evE.eq_18, evE.eq_19, evE.eq_20, evE.eq_21, evE.eq_25, evE.eq_26, evE.eq_27, evE.eq_28, evE.eq_31, evSs, evS, evOp, evC, evEs, opnd, Opd.val, Slot.val, slotAt, fixv, isiV, isiF, typ, asBool, cmpF, endF, keptIo, lift, pur, bltF, len, assn, assns, slcF, cut1, itemsF]
    rw [evS_for, hit, bnd_ok, if_pos (by rw [List.length_map]; unfold cap; omega), h2]
    rfl
  have e : evSs tab (evF tab (k + 1)) (ev2 tab (k + 1)).2 ir__law_loops.body [.fz (rowsV R), .un, .un, .un, .un] = some (.ok (.rt (.ow (.lst ((loopsL R).map (oddV R))))) ((oRo R (lotsF R.length) (loopsL R) s3 s4).set 2 .un)) := by
    have st3 : evS tab (evF tab (k + 1)) (ev2 tab (k + 1)).2 (.ret (.v 2)) (oRo R (lotsF R.length) (loopsL R) s3 s4) = some (.ok (.rt (.ow (.lst ((loopsL R).map (oddV R))))) ((oRo R (lotsF R.length) (loopsL R) s3 s4).set 2 .un)) := rfl
    have spl : ir__law_loops.body = [(.par [1, 2] [(.lst [(.lst [])]), (.lst [])]), (.for_ (.nm 3) (.rng (.blt .len [(.v 0)])) [o1]), (.for_ (.nm 4) (.seq (.slc (.v 1) (some (.int 1)) none)) o2), .ret (.v 2)] := rfl
    rw [spl]
    simp only [evSs, st0, bnd_ok]
    simp only [st1, st2, st3, bnd_ok, pur]
  show endF _ _ (evSs tab (evF tab (k + 1)) (ev2 tab (k + 1)).2 ir__law_loops.body [.fz (rowsV R), .un, .un, .un, .un]) = _
  rw [e]
  simp [endF, keptIo, ir__law_loops, oRo]
end EV
namespace EV
open PySem GH Pl
theorem rng_zero (n : Nat) : rng 0 (n : Nat) = (zeroTo n).map .int := by
  unfold rng zeroTo
  rw [List.map_map]
  simp [Function.comp_def]
/-- the states of all loops of an evenness -/
noncomputable def goalsL (R : List RowI) (odd : Int) : List Int := ((loopsL R).filter fun X => decide (topC R X % 2 = odd)).flatten
def eRo (R : List RowI) (odd : Int) (gs : List Int) (s4 s5 s6 s7 : Slot) : Ro := [.fz (rowsV R), .fz (.int odd), .ow (.lst ((zeroTo R.length).map .int)), .ow (.lst (gs.map .int)), s4, s5, s6, s7]
abbrev e1S : Sx := (.asg (.nm 3) (.bin .add (.v 3) (.ite (.cmp .eq (.v 5) (.v 1)) (.v 4) (.lst []))))
theorem loopsL_in {R : List RowI} {X : List Int} (h : X ∈ loopsL R) : X ∈ (lotsF R.length).tail ∧ Lot (AI R) X := by
  unfold loopsL at h
  have := List.mem_filter.mp h
  exact ⟨this.1, by simpa using this.2⟩
theorem loopsL_of {R : List RowI} {X : List Int} (h : X ∈ (lotsF R.length).tail) (hL : Lot (AI R) X) : X ∈ loopsL R := by
  unfold loopsL
  exact List.mem_filter.mpr ⟨h, by simpa using hL⟩
theorem e_turn (cal mkc : Cal) (R : List RowI) (odd : Int) (gs : List Int) (X : List Int) (o : Int) (s6 s7 : Slot) (hg : gs.length + X.length ≤ 10000) : evSs tab cal mkc [e1S] (eRo R odd gs (.fz (.lst (X.map .int))) (.fz (.int o)) s6 s7) = some (.ok .nx (eRo R odd (gs ++ if o = odd then X else []) (.fz (.lst (X.map .int))) (.fz (.int o)) s6 s7)) := by
  refine evSs_1 ?_
  have c1 : gs.length + X.length ≤ cap := by unfold cap; omega
  have c2 : gs.length ≤ cap := by unfold cap; omega
  by_cases h : o = odd
  · rw [if_pos h]
    simp [eRo, evE.eq_1, evE.eq_2, evE.eq_3, evE.eq_4, evE.eq_5, evE.eq_6, evE.eq_7, evE.eq_8, evE.eq_9, evE.eq_10, evE.eq_11, evE.eq_12, evE.eq_13, evE.eq_14, evE.eq_15, evE.eq_16, evE.eq_17, evE.eq_18, evE.eq_19, evE.eq_20, evE.eq_21, evE.eq_25, evE.eq_26, evE.eq_27, evE.eq_28, evE.eq_31, evSs, evS, evOp, evC, evEs, opnd, Opd.val, Slot.val, slotAt, fixv, isiV, isiF, typ, asBool, cmpF, endF, keptIo, lift, pur, bltF, len, assn, assns, eqF_int, h, binF, c1]
  · rw [if_neg h]
    simp [eRo, evE.eq_1, evE.eq_2, evE.eq_3, evE.eq_4, evE.eq_5, evE.eq_6, evE.eq_7, evE.eq_8, evE.eq_9, evE.eq_10, evE.eq_11, evE.eq_12, evE.eq_13, evE.eq_14, evE.eq_15, evE.eq_16, evE.eq_17, evE.eq_18, evE.eq_19, evE.eq_20, evE.eq_21, evE.eq_25, evE.eq_26, evE.eq_27, evE.eq_28, evE.eq_31, evSs, evS, evOp, evC, evEs, opnd, Opd.val, Slot.val, slotAt, fixv, isiV, isiF, typ, asBool, cmpF, endF, keptIo, lift, pur, bltF, len, assn, assns, eqF_int, h, binF, c2]
theorem e_for (cal mkc : Cal) (R : List RowI) (odd : Int) (s6 s7 : Slot) : ∀ (Xs : List (List Int)) (gs : List Int) (s4 s5 : Slot), gs.length + (Xs.map List.length).sum ≤ 10000 → ∃ s4' s5', forF (evSs tab cal mkc [e1S]) (.tp [.nm 4, .nm 5]) (Xs.map (oddV R)) (eRo R odd gs s4 s5 s6 s7) = some (.ok .nx (eRo R odd (gs ++ (Xs.filter fun X => decide (topC R X % 2 = odd)).flatten) s4' s5' s6 s7))
  | [], gs, s4, s5, _ => ⟨s4, s5, by simp [forF, pur]⟩
  | X :: Xs, gs, s4, s5, hl => by
    rw [List.map_cons, List.sum_cons] at hl
    have t1 := e_turn cal mkc R odd gs X (topC R X % 2) s6 s7 (by omega)
    have hq : (gs ++ if topC R X % 2 = odd then X else []).length ≤ gs.length + X.length := by
      rw [List.length_append]; split <;> simp
    obtain ⟨s4', s5', ih⟩ := e_for cal mkc R odd s6 s7 Xs (gs ++ if topC R X % 2 = odd then X else []) (.fz (.lst (X.map .int))) (.fz (.int (topC R X % 2))) (by omega)
    refine ⟨s4', s5', ?_⟩
    have as1 : assn (.tp [.nm 4, .nm 5]) (.fz (oddV R X)) (eRo R odd gs s4 s5 s6 s7) = some (eRo R odd gs (.fz (.lst (X.map .int))) (.fz (.int (topC R X % 2))) s6 s7) := rfl
    rw [List.map_cons]
    simp only [forF, as1, t1, bnd_ok]
    rw [ih, List.filter_cons]
    by_cases h : topC R X % 2 = odd <;> simp [h]
theorem lots_sum {R : List RowI} : ∀ Xs : List (List Int), (∀ X ∈ Xs, X.length ≤ 6) → (Xs.map List.length).sum ≤ 6 * Xs.length
  | [], _ => by simp
  | X :: Xs, h => by
    have h1 := h X List.mem_cons_self
    have h2 := lots_sum (R := R) Xs fun Y hY => h Y (List.mem_cons_of_mem _ hY)
    rw [List.map_cons, List.sum_cons, List.length_cons]
    omega
theorem q_ends_in (k : Nat) {l : List Nat} {R : List RowI} (M : GoodM l R) (odd : Int) : evF tab (k + 3) "_law_ends_in" [.fz (rowsV R), .fz (.int odd)] = some (.ok (.ow (.lst ((endsR R odd).map .int))) [.fz (rowsV R), .fz (.int odd)]) := by
  rw [evF_succ, run_def fn__law_ends_in (tab_ext _) rfl]
  have hn := M.six
  have hlen := lotsF_len R.length
  have h64 : 2 ^ R.length ≤ 2 ^ 6 := Nat.pow_le_pow_right (by omega) hn
  have hX6 : ∀ X ∈ loopsL R, (∀ x ∈ X, x ∈ zeroTo R.length) ∧ X.length ≤ 6 := by
    intro X hX
    have h := lotsF_in R.length X (List.mem_of_mem_tail (loopsL_in hX).1)
    have h1 : ∀ x ∈ X, x ∈ zeroTo R.length := fun x hx => zeroTo_mem.mpr (h.2 x hx)
    have h2 := nodup_le h.1 h1
    rw [zeroTo_len] at h2
    exact ⟨h1, by omega⟩
  have hll : (loopsL R).length ≤ 64 := by
    have h1 : (loopsL R).length ≤ (lotsF R.length).tail.length := List.length_filter_le _ _
    rw [List.length_tail] at h1
    omega
  have hsum := lots_sum (R := R) (loopsL R) fun X hX => (hX6 X hX).2
  have st0 : evS tab (evF tab (k + 2)) (ev2 tab (k + 2)).2 (.par [2, 3] [(.lrg (.blt .len [(.v 0)])), (.lst [])]) [.fz (rowsV R), .fz (.int odd), .un, .un, .un, .un, .un, .un] = some (.ok .nx (eRo R odd [] .un .un .un .un)) := by
    have hz : -(cap : Int) ≤ (R.length : Nat) ∧ ((R.length : Nat) : Int) ≤ cap := by unfold cap; omega
    simp [eRo, evSl, setAll, evE.eq_1, evE.eq_2, evE.eq_3, evE.eq_4, evE.eq_5, evE.eq_6, evE.eq_7, evE.eq_8, evE.eq_9, evE.eq_10, evE.eq_11, evE.eq_12, evE.eq_13, evE.eq_14, evE.eq_15, evE.eq_16, evE.eq_17, evE.eq_18, evE.eq_19, evE.eq_20, evE.eq_21, evE.eq_25, evE.eq_26, evE.eq_27, evE.eq_28, evE.eq_31, evSs, evS, evOp, evC, evEs, opnd, Opd.val, Slot.val, slotAt, fixv, isiV, isiF, typ, asBool, cmpF, endF, keptIo, lift, pur, bltF, len, assn, assns, evE_lrg, rowsV, rngF, hz, rng_zero]
  obtain ⟨s4, s5, h1⟩ := e_for (evF tab (k + 2)) (ev2 tab (k + 2)).2 R odd .un .un (loopsL R) [] .un .un (by simp; omega)
  have ql := q_law_loops k M
  have st1 : evS tab (evF tab (k + 2)) (ev2 tab (k + 2)).2 (.for_ (.tp [(.nm 4), (.nm 5)]) (.seq (.call "_law_loops" [(.v 0)] [])) [e1S]) (eRo R odd [] .un .un .un .un) = some (.ok .nx (eRo R odd (goalsL R odd) s4 s5 .un .un)) := by
    have hit : evIt tab (evF tab (k + 2)) (ev2 tab (k + 2)).2 (.seq (.call "_law_loops" [(.v 0)] [])) (eRo R odd [] .un .un .un .un) = some (.ok ((loopsL R).map (oddV R)) (eRo R odd [] .un .un .un .un)) := by
      simp [evIt, eRo, evE.eq_1, evE.eq_2, evE.eq_3, evE.eq_4, evE.eq_5, evE.eq_6, evE.eq_7, evE.eq_8, evE.eq_9, evE.eq_10, evE.eq_11, evE.eq_12, evE.eq_13, evE.eq_14, evE.eq_15, evE.eq_16, evE.eq_17, evE.eq_18, evE.eq_19, evE.eq_20, evE.eq_21, evE.eq_25, evE.eq_26, evE.eq_27, evE.eq_28, evE.eq_31, evSs, evS, evOp, evC, evEs, opnd, Opd.val, Slot.val, slotAt, fixv, isiV, isiF, typ, asBool, cmpF, endF, keptIo, lift, pur, bltF, len, assn, assns, evE.eq_22, evAs, argOf, callF, ioNd, order, finish, putBack, Arg.slot, Arg.isN, Arg.isAt, Arg.isV, ownAt, newArg, idxF, ixN, binF, fn__law_loops, ir__law_loops, ql, itemsF]
    rw [evS_for, hit, bnd_ok, if_pos (by rw [List.length_map]; unfold cap; omega), h1]
    rfl
  -- behind the first look the places are fixed
  let E (a b : Slot) (s6 s7 : Slot) : Ro := [.fz (rowsV R), .fz (.int odd), a, b, s4, s5, s6, s7]
  have hgm : ∀ g, g ∈ goalsL R odd ↔ ∃ X ∈ (lotsF R.length).tail, Lot (AI R) X ∧ topC R X % 2 = odd ∧ g ∈ X := by
    intro g
    unfold goalsL
    rw [List.mem_flatten]
    constructor
    · rintro ⟨X, hX, hg⟩
      have h := List.mem_filter.mp hX
      have h2 := loopsL_in h.1
      exact ⟨X, h2.1, h2.2, by simpa using h.2, hg⟩
    · rintro ⟨X, hX, hL, ht, hg⟩
      exact ⟨X, List.mem_filter.mpr ⟨loopsL_of hX hL, by simpa using ht⟩, hg⟩
  have hends : ∀ p ∈ zeroTo R.length, EndsIn (AI R) (C0 R) (zeroTo R.length) (fun c => c % 2 = odd) p ↔ ∃ g ∈ goalsL R odd, RR (AI R) (· ∈ zeroTo R.length) p g := by
    intro p hp
    rw [ends_lots]
    constructor
    · rintro ⟨X, hX, hL, ⟨c, hc, hpar⟩, g, hg, hr⟩
      refine ⟨g, (hgm g).mpr ⟨X, hX, hL, ?_, hg⟩, hr⟩
      rw [← TopIs.uniq hc (topC_is (lotsF_tne hX))]
      exact hpar
    · rintro ⟨g, hg, hr⟩
      obtain ⟨X, hX, hL, ht, hgX⟩ := (hgm g).mp hg
      exact ⟨X, hX, hL, ⟨topC R X, topC_is (lotsF_tne hX), ht⟩, g, hgX, hr⟩
  have hlc : evE tab (evF tab (k + 2)) (ev2 tab (k + 2)).2 (.lc [6] (.nm 6) (.seq (.v 2)) (some (.or (.cmp .isin (.v 6) (.v 3)) (.cmp .ne (.lc [7] (.nm 7) (.seq (.call "_law_from" [(.v 0), (.v 6), (.v 2)] [])) (some (.cmp .isin (.v 7) (.v 3))) (.v 7)) (.lst [])))) (.v 6)) (eRo R odd (goalsL R odd) s4 s5 .un .un) = some (.ok (.ow (.lst ((endsR R odd).map .int))) (E (.fz (.lst ((zeroTo R.length).map .int))) (.ow (.lst ((goalsL R odd).map .int))) .un .un)) := by
    have hit : evIt tab (evF tab (k + 2)) (ev2 tab (k + 2)).2 (.seq (.v 2)) (eRo R odd (goalsL R odd) s4 s5 .un .un) = some (.ok ((zeroTo R.length).map .int) (E (.fz (.lst ((zeroTo R.length).map .int))) (.ow (.lst ((goalsL R odd).map .int))) .un .un)) := by
      simp [evIt, eRo, E, evE.eq_1, evE.eq_2, evE.eq_3, evE.eq_4, evE.eq_5, evE.eq_6, evE.eq_7, evE.eq_8, evE.eq_9, evE.eq_10, evE.eq_11, evE.eq_12, evE.eq_13, evE.eq_14, evE.eq_15, evE.eq_16, evE.eq_17, evE.eq_18, evE.eq_19, evE.eq_20, evE.eq_21, evE.eq_25, evE.eq_26, evE.eq_27, evE.eq_28, evE.eq_31, evSs, evS, evOp, evC, evEs, opnd, Opd.val, Slot.val, slotAt, fixv, isiV, isiF, typ, asBool, cmpF, endF, keptIo, lift, pur, bltF, len, assn, assns, itemsF]
    have := ev_lcB Val.int (fun p => if @decide (EndsIn (AI R) (C0 R) (zeroTo R.length) (fun c => c % 2 = odd) p) (Classical.propDecidable _) then some (Val.int p) else none) hit (ns := [6]) (t := .nm 6) (c := (some (.or (.cmp .isin (.v 6) (.v 3)) (.cmp .ne (.lc [7] (.nm 7) (.seq (.call "_law_from" [(.v 0), (.v 6), (.v 2)] [])) (some (.cmp .isin (.v 7) (.v 3))) (.v 7)) (.lst []))))) (e := .v 6) (by rw [zeroTo_len]; unfold cap; omega) rfl rfl (fun p hp => by
      refine ⟨E (.fz (.lst ((zeroTo R.length).map .int))) (.ow (.lst ((goalsL R odd).map .int))) (.fz (.int p)) .un, E (.fz (.lst ((zeroTo R.length).map .int))) (.ow (.lst ((goalsL R odd).map .int))) (.fz (.int p)) .un, rfl, ?_, rfl⟩
      obtain ⟨F, qf, fnd, fm⟩ := q_from (k + 1) M hp (X := zeroTo R.length) (fun _ h => h) (by rw [zeroTo_len]; omega)
      have hF : F.length ≤ 6 := by
        have := nodup_le fnd (m := zeroTo R.length) (fun x hx => ((fm x).mp hx).inn)
        rw [zeroTo_len] at this
        omega
      have i1 := inI p (goalsL R odd)
      have t1 : evE tab (evF tab (k + 2)) (ev2 tab (k + 2)).2 (.cmp .isin (.v 6) (.v 3)) (E (.fz (.lst ((zeroTo R.length).map .int))) (.ow (.lst ((goalsL R odd).map .int))) (.fz (.int p)) .un) = some (.ok (.fz (.bl (decide (p ∈ goalsL R odd)))) (E (.fz (.lst ((zeroTo R.length).map .int))) (.ow (.lst ((goalsL R odd).map .int))) (.fz (.int p)) .un)) := by
        simp [E, evE.eq_1, evE.eq_2, evE.eq_3, evE.eq_4, evE.eq_5, evE.eq_6, evE.eq_7, evE.eq_8, evE.eq_9, evE.eq_10, evE.eq_11, evE.eq_12, evE.eq_13, evE.eq_14, evE.eq_15, evE.eq_16, evE.eq_17, evE.eq_18, evE.eq_19, evE.eq_20, evE.eq_21, evE.eq_25, evE.eq_26, evE.eq_27, evE.eq_28, evE.eq_31, evSs, evS, evOp, evC, evEs, opnd, Opd.val, Slot.val, slotAt, fixv, isiV, isiF, typ, asBool, cmpF, endF, keptIo, lift, pur, bltF, len, assn, assns, i1]
      have l2 : evE tab (evF tab (k + 2)) (ev2 tab (k + 2)).2 (.lc [7] (.nm 7) (.seq (.call "_law_from" [(.v 0), (.v 6), (.v 2)] [])) (some (.cmp .isin (.v 7) (.v 3))) (.v 7)) (E (.fz (.lst ((zeroTo R.length).map .int))) (.ow (.lst ((goalsL R odd).map .int))) (.fz (.int p)) .un) = some (.ok (.ow (.lst ((F.filter fun g => decide (g ∈ goalsL R odd)).map .int))) (E (.fz (.lst ((zeroTo R.length).map .int))) (.ow (.lst ((goalsL R odd).map .int))) (.fz (.int p)) .un)) := by
        have hit2 : evIt tab (evF tab (k + 2)) (ev2 tab (k + 2)).2 (.seq (.call "_law_from" [(.v 0), (.v 6), (.v 2)] [])) (E (.fz (.lst ((zeroTo R.length).map .int))) (.ow (.lst ((goalsL R odd).map .int))) (.fz (.int p)) .un) = some (.ok (F.map .int) (E (.fz (.lst ((zeroTo R.length).map .int))) (.ow (.lst ((goalsL R odd).map .int))) (.fz (.int p)) .un)) := by
          simp [evIt, E, evE.eq_1, evE.eq_2, evE.eq_3, evE.eq_4, evE.eq_5, evE.eq_6, evE.eq_7, evE.eq_8, evE.eq_9, evE.eq_10, evE.eq_11, evE.eq_12, evE.eq_13, evE.eq_14, evE.eq_15, evE.eq_16, evE.eq_17, evE.eq_18, evE.eq_19, evE.eq_20, evE.eq_21, evE.eq_25, evE.eq_26, evE.eq_27, evE.eq_28, evE.eq_31, evSs, evS, evOp, evC, evEs, opnd, Opd.val, Slot.val, slotAt, fixv, isiV, isiF, typ, asBool, cmpF, endF, keptIo, lift, pur, bltF, len, assn, assns, evE.eq_22, evAs, argOf, callF, ioNd, order, finish, putBack, Arg.slot, Arg.isN, Arg.isAt, Arg.isV, ownAt, newArg, idxF, ixN, binF, fn__law_from, ir__law_from, qf, itemsF]
        have := ev_lcB Val.int (fun g => if decide (g ∈ goalsL R odd) then some (Val.int g) else none) hit2 (ns := [7]) (t := .nm 7) (c := (some (.cmp .isin (.v 7) (.v 3)))) (e := .v 7) (by unfold cap; omega) rfl rfl (fun g _ => by
          refine ⟨E (.fz (.lst ((zeroTo R.length).map .int))) (.ow (.lst ((goalsL R odd).map .int))) (.fz (.int p)) (.fz (.int g)), E (.fz (.lst ((zeroTo R.length).map .int))) (.ow (.lst ((goalsL R odd).map .int))) (.fz (.int p)) (.fz (.int g)), rfl, ?_, rfl⟩
          have i2 := inI g (goalsL R odd)
          by_cases hq : g ∈ goalsL R odd <;> simp [lcF, E, evE.eq_1, evE.eq_2, evE.eq_3, evE.eq_4, evE.eq_5, evE.eq_6, evE.eq_7, evE.eq_8, evE.eq_9, evE.eq_10, evE.eq_11, evE.eq_12, evE.eq_13, evE.eq_14, evE.eq_15, evE.eq_16, evE.eq_17, evE.eq_18, evE.eq_19, evE.eq_20, evE.eq_21, evE.eq_25, evE.eq_26, evE.eq_27, evE.eq_28, evE.eq_31, evSs, evS, evOp, evC, evEs, opnd, Opd.val, Slot.val, slotAt, fixv, isiV, isiF, typ, asBool, cmpF, endF, keptIo, lift, pur, bltF, len, assn, assns, i2, hq])
        rw [this, fm_if]
      have t2 : evE tab (evF tab (k + 2)) (ev2 tab (k + 2)).2 (.cmp .ne (.lc [7] (.nm 7) (.seq (.call "_law_from" [(.v 0), (.v 6), (.v 2)] [])) (some (.cmp .isin (.v 7) (.v 3))) (.v 7)) (.lst [])) (E (.fz (.lst ((zeroTo R.length).map .int))) (.ow (.lst ((goalsL R odd).map .int))) (.fz (.int p)) .un) = some (.ok (.fz (.bl (!(F.filter fun g => decide (g ∈ goalsL R odd)).isEmpty))) (E (.fz (.lst ((zeroTo R.length).map .int))) (.ow (.lst ((goalsL R odd).map .int))) (.fz (.int p)) .un)) := by
        rw [evE_cmp]
        simp only [opnd, l2, bnd_ok, bnd_pur, pur, evE_lst, evEs, List.length_nil]
        rw [if_pos (by unfold cap; omega)]
        simp only [bnd_ok, Opd.val, Option.bind_some, cmpF, eq_nil, Option.map_some, lift, pur]
      have hd : @decide (EndsIn (AI R) (C0 R) (zeroTo R.length) (fun c => c % 2 = odd) p) (Classical.propDecidable _) = (decide (p ∈ goalsL R odd) || !(F.filter fun g => decide (g ∈ goalsL R odd)).isEmpty) := by
        refine Bool.eq_iff_iff.mpr ((@decide_eq_true_iff _ (Classical.propDecidable _)).trans ((hends p hp).trans ?_))
        rw [Bool.or_eq_true, decide_eq_true_iff, Bool.not_eq_true', ← Bool.not_eq_true, List.isEmpty_iff, List.filter_eq_nil_iff]
        constructor
        · rintro ⟨g, hg, hr⟩
          rcases hr with rfl | hr
          · exact .inl hg
          · exact .inr fun z => absurd (decide_eq_true hg) (z g ((fm g).mpr hr))
        · rintro (h | h)
          · exact ⟨p, h, .refl⟩
          · refine Classical.byContradiction fun z => h fun g hg => ?_
            rw [decide_eq_true_iff]
            exact fun hgo => z ⟨g, hgo, .inr ((fm g).mp hg)⟩
      rw [hd]
      simp only [lcF, evC, evE_or, t1, t2, bnd_ok, asBool, pur, bnd_pur]
      have hv : evE tab (evF tab (k + 2)) (ev2 tab (k + 2)).2 (.v 6) (E (.fz (.lst ((zeroTo R.length).map .int))) (.ow (.lst ((goalsL R odd).map .int))) (.fz (.int p)) .un) = some (.ok (.fz (.int p)) (E (.fz (.lst ((zeroTo R.length).map .int))) (.ow (.lst ((goalsL R odd).map .int))) (.fz (.int p)) .un)) := rfl
      cases decide (p ∈ goalsL R odd) <;> cases (F.filter fun g => decide (g ∈ goalsL R odd)).isEmpty <;> rfl)
    rw [this, fm_if]
    rfl
  have e : evSs tab (evF tab (k + 2)) (ev2 tab (k + 2)).2 ir__law_ends_in.body [.fz (rowsV R), .fz (.int odd), .un, .un, .un, .un, .un, .un] = some (.ok (.rt (.ow (.lst ((endsR R odd).map .int)))) (E (.fz (.lst ((zeroTo R.length).map .int))) (.ow (.lst ((goalsL R odd).map .int))) .un .un)) := by
    have st2 : evS tab (evF tab (k + 2)) (ev2 tab (k + 2)).2 (.ret (.lc [6] (.nm 6) (.seq (.v 2)) (some (.or (.cmp .isin (.v 6) (.v 3)) (.cmp .ne (.lc [7] (.nm 7) (.seq (.call "_law_from" [(.v 0), (.v 6), (.v 2)] [])) (some (.cmp .isin (.v 7) (.v 3))) (.v 7)) (.lst [])))) (.v 6))) (eRo R odd (goalsL R odd) s4 s5 .un .un) = some (.ok (.rt (.ow (.lst ((endsR R odd).map .int)))) (E (.fz (.lst ((zeroTo R.length).map .int))) (.ow (.lst ((goalsL R odd).map .int))) .un .un)) := by
      simp only [evS, hlc, bnd_ok, pur]
    simp only [ir__law_ends_in, evSs, st0, bnd_ok]
    simp only [e1S] at st1
    simp only [st1, st2, bnd_ok, pur]
  show endF _ _ (evSs tab (evF tab (k + 2)) (ev2 tab (k + 2)).2 ir__law_ends_in.body [.fz (rowsV R), .fz (.int odd), .un, .un, .un, .un, .un, .un]) = _
  rw [e]
  simp [endF, keptIo, ir__law_ends_in, E]
end EV
namespace EV
open PySem GH Pl
theorem filt_lots (P : Int → Bool) : ∀ n, (zeroTo n).filter P ∈ lotsF n
  | 0 => by simp [zeroTo, lotsF]
  | n + 1 => by
    have e : zeroTo (n + 1) = zeroTo n ++ [(n : Int)] := by simp [zeroTo, List.range_succ]
    have ih := filt_lots P n
    rw [e, List.filter_append]
    by_cases h : P n
    · rw [List.filter_cons_of_pos h]
      exact List.mem_append_right _ (List.mem_map.mpr ⟨_, ih, rfl⟩)
    · rw [List.filter_cons_of_neg h]
      exact List.mem_append_left _ (by simpa using ih)
theorem lots_mono {X : List Int} : ∀ {n m : Nat}, n ≤ m → X ∈ lotsF n → X ∈ lotsF m := by
  intro n m h hX
  induction m with
  | zero =>
    have : n = 0 := by omega
    subst this; exact hX
  | succ m ih =>
    by_cases e : n = m + 1
    · subst e; exact hX
    · exact List.mem_append_left _ (ih (by omega))
def okRepr (X : List Int) : Bool := match bltF .repr [.lst [.tup (X.map .int), .tup (X.map .int)]] with
  | some (.fz (.str s)) => shp (.str s)
  | _ => false
theorem okRepr6 : (lotsF 6).all okRepr = true := by decide +kernel
theorem repr_filt {n : Nat} (hn : n ≤ 6) (P : Int → Bool) : ∃ s, bltF .repr [.lst [.tup (((zeroTo n).filter P).map .int), .tup (((zeroTo n).filter P).map .int)]] = some (.fz (.str s)) ∧ shp (.str s) = true := by
  have h : (zeroTo n).filter P ∈ lotsF 6 := lots_mono hn (filt_lots P n)
  have := List.all_eq_true.mp okRepr6 _ h
  unfold okRepr at this
  split at this
  · rename_i s hs
    exact ⟨s, hs, this⟩
  · cases this
theorem repr_ends {l : List Nat} {R : List RowI} (M : GoodM l R) (e : Int) : ∃ s, bltF .repr [.lst [.tup ((endsR R e).map .int), .tup ((endsR R e).map .int)]] = some (.fz (.str s)) ∧ shp (.str s) = true := repr_filt M.six _
theorem q_len (k : Nat) (l : List Nat) (R : List RowI) : evF tab (k + 1) "Machine.__len__" [.fz (machV l R)] = some (.ok (.fz (.int (R.length : Nat))) [.fz (machV l R)]) := by
  rw [evF_succ, run_def fn_Machine___len__ (tab_ext _) rfl]
  have f2 : tab.fld "Machine" "held_states" = true := by kernel_rfl
  simp [ir_Machine___len__, evE.eq_1, evE.eq_2, evE.eq_3, evE.eq_4, evE.eq_5, evE.eq_6, evE.eq_7, evE.eq_8, evE.eq_9, evE.eq_10, evE.eq_11, evE.eq_12, evE.eq_13, evE.eq_14, evE.eq_15, evE.eq_16, evE.eq_17, evE.eq_18, evE.eq_19, evE.eq_20, evE.eq_21, evE.eq_25, evE.eq_26, evE.eq_27, evE.eq_28, evE.eq_31, evSs, evS, evOp, evC, evEs, opnd, Opd.val, Slot.val, slotAt, fixv, isiV, isiF, typ, asBool, cmpF, endF, keptIo, lift, pur, bltF, len, assn, assns, evE.eq_22, evAs, argOf, callF, ioNd, order, finish, putBack, Arg.slot, Arg.isN, Arg.isAt, Arg.isV, ownAt, newArg, idxF, ixN, binF, machV, f2, lkM, rowsV]
theorem m_len {cal mkc : Cal} {l : List Nat} {R : List RowI} (hq : mkc "Machine.__len__" [.fz (machV l R)] = some (.ok (.fz (.int (R.length : Nat))) [.fz (machV l R)])) (hn : R.length ≤ 6) {ρ : Ro} (i : Nat) (h : ρ[i]? = some (.fz (machV l R))) : evE tab cal mkc (.ln "Machine.__len__" "Machine" [(.v i)]) ρ = some (.ok (.fz (.int (R.length : Nat))) ρ) := by
  have ho : Arg.isObj ρ "Machine" "__len__" (.va (machV l R)) = true := rfl
  have ha : evAs tab cal mkc ir_Machine___len__.io [(.v i)] ρ = some (.ok [.va (machV l R)] ρ) := by
    simp [evAs, argOf, ir_Machine___len__, evE_v, slotAt, h, fixv, pur, Arg.isN]
  rw [evE_ln fn_Machine___len__, ha, bnd_ok]
  simp only [List.all_cons, List.all_nil, ho, Bool.and_true, Bool.not_true, Bool.false_eq_true, if_false]
  have hc : callF mkc ir_Machine___len__.ps "Machine.__len__" [] [.va (machV l R)] ρ = some (.ok (.fz (.int (R.length : Nat))) ρ) := by
    simp [callF, ioNd, Arg.slot, order, hq, finish, putBack]
  rw [hc, bnd_ok, lenEnd_ok R.length (by omega)]
/-- the sure states -/
noncomputable abbrev sureR (R : List RowI) : List Int := (zeroTo R.length).filter fun p => decide (p ∉ endsR R 1)
theorem q_sure_of (k : Nat) {l : List Nat} {R : List RowI} (M : GoodM l R) : evF tab (k + 6) "sure_of" [.fz (machV l R)] = some (.ok (.ow (.lst ((sureR R).map .int))) [.fz (machV l R)]) := by
  rw [evF_succ, run_def fn_sure_of (tab_ext _) rfl]
  have hn := M.six
  have q := q_with_loops k M (e := 1) (.inr rfl)
  have hmk : (ev2 tab (k + 5)).2 = evF tab (k + 4) := mkc_succ tab (k + 4)
  have hql : (ev2 tab (k + 5)).2 "Machine.__len__" [.fz (machV l R)] = some (.ok (.fz (.int (R.length : Nat))) [.fz (machV l R)]) := by rw [hmk]; exact q_len (k + 3) l R
  have st1 : evS tab (evF tab (k + 5)) (ev2 tab (k + 5)).2 (.asg (.nm 1) (.call "with_loops" [(.v 0), (.int 1)] [])) [.fz (machV l R), .un, .un] = some (.ok .nx [.fz (machV l R), .ow (.lst ((endsR R 1).map .int)), .un]) := by
    have lt : lotV (endsR R 1) = .lst ((endsR R 1).map .int) := rfl
    rw [lt] at q
    simp [evE.eq_1, evE.eq_2, evE.eq_3, evE.eq_4, evE.eq_5, evE.eq_6, evE.eq_7, evE.eq_8, evE.eq_9, evE.eq_10, evE.eq_11, evE.eq_12, evE.eq_13, evE.eq_14, evE.eq_15, evE.eq_16, evE.eq_17, evE.eq_18, evE.eq_19, evE.eq_20, evE.eq_21, evE.eq_25, evE.eq_26, evE.eq_27, evE.eq_28, evE.eq_31, evSs, evS, evOp, evC, evEs, opnd, Opd.val, Slot.val, slotAt, fixv, isiV, isiF, typ, asBool, cmpF, endF, keptIo, lift, pur, bltF, len, assn, assns, evE.eq_22, evAs, argOf, callF, ioNd, order, finish, putBack, Arg.slot, Arg.isN, Arg.isAt, Arg.isV, ownAt, newArg, idxF, ixN, binF, fn_with_loops, ir_with_loops, q]
  have hit : evIt tab (evF tab (k + 5)) (ev2 tab (k + 5)).2 (.rng (.ln "Machine.__len__" "Machine" [(.v 0)])) [.fz (machV l R), .ow (.lst ((endsR R 1).map .int)), .un] = some (.ok ((zeroTo R.length).map .int) [.fz (machV l R), .ow (.lst ((endsR R 1).map .int)), .un]) := by
    have hz : -(cap : Int) ≤ (R.length : Nat) ∧ ((R.length : Nat) : Int) ≤ cap := by unfold cap; omega
    simp only [evIt, m_len hql hn 0 (ρ := [.fz (machV l R), .ow (.lst ((endsR R 1).map .int)), .un]) rfl, bnd_ok, fixv, pur, bnd_pur, rngF, hz, and_self, if_true, lift, rng_zero]
  have hlc : evE tab (evF tab (k + 5)) (ev2 tab (k + 5)).2 (.lc [2] (.nm 2) (.rng (.ln "Machine.__len__" "Machine" [(.v 0)])) (some (.cmp .notin (.v 2) (.v 1))) (.v 2)) [.fz (machV l R), .ow (.lst ((endsR R 1).map .int)), .un] = some (.ok (.ow (.lst ((sureR R).map .int))) [.fz (machV l R), .ow (.lst ((endsR R 1).map .int)), .un]) := by
    have := ev_lcB Val.int (fun p => if decide (p ∉ endsR R 1) then some (Val.int p) else none) hit (ns := [2]) (t := .nm 2) (c := (some (.cmp .notin (.v 2) (.v 1)))) (e := .v 2) (by rw [zeroTo_len]; unfold cap; omega) rfl rfl (fun p _ => by
      refine ⟨[.fz (machV l R), .ow (.lst ((endsR R 1).map .int)), .fz (.int p)], [.fz (machV l R), .ow (.lst ((endsR R 1).map .int)), .fz (.int p)], rfl, ?_, rfl⟩
      have i2 := inI p (endsR R 1)
      by_cases hq : p ∈ endsR R 1 <;> simp [lcF, evE.eq_1, evE.eq_2, evE.eq_3, evE.eq_4, evE.eq_5, evE.eq_6, evE.eq_7, evE.eq_8, evE.eq_9, evE.eq_10, evE.eq_11, evE.eq_12, evE.eq_13, evE.eq_14, evE.eq_15, evE.eq_16, evE.eq_17, evE.eq_18, evE.eq_19, evE.eq_20, evE.eq_21, evE.eq_25, evE.eq_26, evE.eq_27, evE.eq_28, evE.eq_31, evSs, evS, evOp, evC, evEs, opnd, Opd.val, Slot.val, slotAt, fixv, isiV, isiF, typ, asBool, cmpF, endF, keptIo, lift, pur, bltF, len, assn, assns, i2, hq])
    rw [this, fm_if]
  have e : evSs tab (evF tab (k + 5)) (ev2 tab (k + 5)).2 ir_sure_of.body [.fz (machV l R), .un, .un] = some (.ok (.rt (.ow (.lst ((sureR R).map .int)))) [.fz (machV l R), .ow (.lst ((endsR R 1).map .int)), .un]) := by
    have st2 : evS tab (evF tab (k + 5)) (ev2 tab (k + 5)).2 (.ret (.lc [2] (.nm 2) (.rng (.ln "Machine.__len__" "Machine" [(.v 0)])) (some (.cmp .notin (.v 2) (.v 1))) (.v 2))) [.fz (machV l R), .ow (.lst ((endsR R 1).map .int)), .un] = some (.ok (.rt (.ow (.lst ((sureR R).map .int)))) [.fz (machV l R), .ow (.lst ((endsR R 1).map .int)), .un]) := by
      simp only [evS, hlc, bnd_ok, pur]
    exact evSs_2 st1 (evSs_r st2)
  show endF _ _ (evSs tab (evF tab (k + 5)) (ev2 tab (k + 5)).2 ir_sure_of.body [.fz (machV l R), .un, .un]) = _
  rw [e]
  simp [endF, keptIo, ir_sure_of]
end EV
namespace EV
open PySem GH Pl
theorem arr_fld (k : Nat) {l : List Nat} {R : List RowI} (i : Nat) {ρ : Ro} (h : ρ[i]? = some (.fz (mGraph l R))) : evE tab (evF tab k) (ev2 tab k).2 (.fld (.v i) "arrows") ρ = some (.ok (.fz (.dct ((zeroTo R.length).map fun a => (pv a, .tup ((AI R a).map pv))))) ρ) := by
  have fl : tab.fld "Graph" "arrows" = true := by kernel_rfl
  simp [evE.eq_1, evE.eq_2, evE.eq_3, evE.eq_4, evE.eq_5, evE.eq_6, evE.eq_7, evE.eq_8, evE.eq_9, evE.eq_10, evE.eq_11, evE.eq_12, evE.eq_13, evE.eq_14, evE.eq_15, evE.eq_16, evE.eq_17, evE.eq_18, evE.eq_19, evE.eq_20, evE.eq_21, evE.eq_25, evE.eq_26, evE.eq_27, evE.eq_28, evE.eq_31, evSs, evS, evOp, evC, evEs, opnd, Opd.val, Slot.val, slotAt, fixv, isiV, isiF, typ, asBool, cmpF, endF, keptIo, lift, pur, bltF, len, assn, assns, h, mGraph, graphV, fl, lk2]
/-- the places that are reached from the first one, in their order -/
noncomputable abbrev reachR (l : List Nat) (R : List RowI) : List Int := keysG (waysG l (AI R) (zeroTo R.length) 0)
theorem zero_in {l : List Nat} {R : List RowI} (M : GoodM l R) : (0 : Int) ∈ zeroTo R.length := by
  have : R ≠ [] := M.one
  cases R with
  | nil => exact absurd rfl this
  | cons a r => exact zeroTo_mem.mpr ⟨by omega, by simp <;> omega⟩
theorem reach_len {l : List Nat} {R : List RowI} (M : GoodM l R) : (reachR l R).length ≤ 6 := by
  have h := waysG_len (L := l) (A := AI R) (zero_in M) (fun _ h => h)
  rw [zeroTo_len] at h
  have := M.six
  unfold reachR keysG
  rw [List.length_map]
  omega
theorem q_all_of (k : Nat) {l : List Nat} {R : List RowI} (M : GoodM l R) : evF tab (k + 2) "all_of" [.fz (mGraph l R)] = some (.ok (.ow (.lst ((reachR l R).map .int))) [.fz (mGraph l R)]) := by
  rw [evF_succ, run_def fn_all_of (tab_ext _) rfl]
  have hl := M.let_
  have iv := insV_dct (zeroTo R.length) fun a => Val.tup ((AI R a).map pv)
  have qw := q_ways (C := CI R) k M.gr (by omega) iv (fun _ h => h) (zero_in M)
  have af := arr_fld (k + 1) (l := l) (R := R) 0 (ρ := [.fz (mGraph l R)]) rfl
  have h0 : evE tab (evF tab (k + 1)) (ev2 tab (k + 1)).2 (.idx (.blt .list [(.fld (.v 0) "arrows")]) (.int 0)) [.fz (mGraph l R)] = some (.ok (.fz (.int 0)) [.fz (mGraph l R)]) := by
    have hb : bltF .list [.dct ((zeroTo R.length).map fun a => (pv a, .tup ((AI R a).map pv)))] = some (.ow (.lst ((zeroTo R.length).map .int))) := by
      simp [bltF, Function.comp_def]
      exact fun _ _ => rfl
    have hx : idxF (.lst ((zeroTo R.length).map .int)) (.int 0) = some (.int 0) := by
      have : R ≠ [] := M.one
      cases R with
      | nil => exact absurd rfl this
      | cons a r => simp [idxF, ixN, zeroTo, List.range_succ_eq_map]
    simp only [evE_idx, opnd, evE_blt1, af, bnd_ok, bnd_pur, pur, Opd.val, Option.bind_some, hb, lift, evE_int, hx, Option.map_some]
  have e : evSs tab (evF tab (k + 1)) (ev2 tab (k + 1)).2 ir_all_of.body [.fz (mGraph l R)] = some (.ok (.rt (.ow (.lst ((reachR l R).map .int)))) [.fz (mGraph l R)]) := by
    have hc : evE tab (evF tab (k + 1)) (ev2 tab (k + 1)).2 (.mth "Graph.ways" "Graph" "ways" (.v 0) [(.idx (.blt .list [(.fld (.v 0) "arrows")]) (.int 0)), (.fld (.v 0) "arrows")]) [.fz (mGraph l R)] = some (.ok (.ow (fndV (waysG l (AI R) (zeroTo R.length) 0))) [.fz (mGraph l R)]) := by
      have qw' : evF tab (k + 1) "Graph.ways" [.fz (mGraph l R), .fz (.int 0), .fz (.dct ((zeroTo R.length).map fun a => (pv a, .tup ((AI R a).map pv))))] = some (.ok (.ow (fndV (waysG l (AI R) (zeroTo R.length) 0))) [.fz (mGraph l R), .fz (.int 0), .fz (.dct ((zeroTo R.length).map fun a => (pv a, .tup ((AI R a).map pv))))]) := qw
      have v0 : evE tab (evF tab (k + 1)) (ev2 tab (k + 1)).2 (.v 0) [.fz (mGraph l R)] = some (.ok (.fz (mGraph l R)) [.fz (mGraph l R)]) := rfl
      simp only [evE.eq_24, fn_Graph_ways, ir_Graph_ways, evAs, argOf, List.getD_cons_zero, List.drop_succ_cons, List.drop_zero, Bool.false_eq_true, if_false, v0, h0, af, bnd_ok, bnd_pur, pur, fixv, g_obj _ (.inl rfl), Bool.not_true, Arg.isN, Bool.false_and]
      simp [callF, ioNd, Arg.isAt, Arg.slot, order, qw', finish, putBack]
    have hb : bltF .list [fndV (waysG l (AI R) (zeroTo R.length) 0)] = some (.ow (.lst ((reachR l R).map .int))) := by
      simp [bltF, fndV, keysG]
      exact fun _ _ _ => rfl
    simp only [ir_all_of, evSs, evS, evE_blt1, opnd, hc, bnd_ok, bnd_pur, pur, Opd.val, Option.bind_some, hb, lift]
  show endF _ _ (evSs tab (evF tab (k + 1)) (ev2 tab (k + 1)).2 ir_all_of.body [.fz (mGraph l R)]) = _
  rw [e]
  simp [endF, keptIo, ir_all_of]
/-- the states behind which no run lies in the wish -/
noncomputable abbrev deadR (R : List RowI) : List Int := (zeroTo R.length).filter fun p => decide (p ∉ endsR R 0)
theorem q_ends_bad (k : Nat) {l : List Nat} {R : List RowI} (M : GoodM l R) : evF tab (k + 7) "ends_for" [.fz (machV l R), .fz (.str (asStr "bad"))] = some (.ok (.ow (.lst ((deadR R).map .int))) [.fz (machV l R), .fz (.str (asStr "bad"))]) := by
  rw [evF_succ, run_def fn_ends_for (tab_ext _) rfl]
  have hn := M.six
  have q := q_live_of k M
  have lt : lotV (endsR R 0) = .lst ((endsR R 0).map .int) := rfl
  rw [lt] at q
  have he : eqF (.str (asStr "bad")) (.str (asStr "good")) = some false := by kernel_rfl
  have hmk : (ev2 tab (k + 6)).2 = evF tab (k + 5) := mkc_succ tab (k + 5)
  have hql : (ev2 tab (k + 6)).2 "Machine.__len__" [.fz (machV l R)] = some (.ok (.fz (.int (R.length : Nat))) [.fz (machV l R)]) := by rw [hmk]; exact q_len (k + 4) l R
  have st0 : evS tab (evF tab (k + 6)) (ev2 tab (k + 6)).2 (.ife (.cmp .eq (.v 1) (.str "good")) [(.ret (.call "sure_of" [(.v 0)] []))] []) [.fz (machV l R), .fz (.str (asStr "bad")), .un, .un] = some (.ok .nx [.fz (machV l R), .fz (.str (asStr "bad")), .un, .un]) := by
    simp [evE.eq_1, evE.eq_2, evE.eq_3, evE.eq_4, evE.eq_5, evE.eq_6, evE.eq_7, evE.eq_8, evE.eq_9, evE.eq_10, evE.eq_11, evE.eq_12, evE.eq_13, evE.eq_14, evE.eq_15, evE.eq_16, evE.eq_17, evE.eq_18, evE.eq_19, evE.eq_20, evE.eq_21, evE.eq_25, evE.eq_26, evE.eq_27, evE.eq_28, evE.eq_31, evSs, evS, evOp, evC, evEs, opnd, Opd.val, Slot.val, slotAt, fixv, isiV, isiF, typ, asBool, cmpF, endF, keptIo, lift, pur, bltF, len, assn, assns, he]
  have st1 : evS tab (evF tab (k + 6)) (ev2 tab (k + 6)).2 (.asg (.nm 2) (.call "live_of" [(.v 0)] [])) [.fz (machV l R), .fz (.str (asStr "bad")), .un, .un] = some (.ok .nx [.fz (machV l R), .fz (.str (asStr "bad")), .ow (.lst ((endsR R 0).map .int)), .un]) := by
    simp [evE.eq_1, evE.eq_2, evE.eq_3, evE.eq_4, evE.eq_5, evE.eq_6, evE.eq_7, evE.eq_8, evE.eq_9, evE.eq_10, evE.eq_11, evE.eq_12, evE.eq_13, evE.eq_14, evE.eq_15, evE.eq_16, evE.eq_17, evE.eq_18, evE.eq_19, evE.eq_20, evE.eq_21, evE.eq_25, evE.eq_26, evE.eq_27, evE.eq_28, evE.eq_31, evSs, evS, evOp, evC, evEs, opnd, Opd.val, Slot.val, slotAt, fixv, isiV, isiF, typ, asBool, cmpF, endF, keptIo, lift, pur, bltF, len, assn, assns, evE.eq_22, evAs, argOf, callF, ioNd, order, finish, putBack, Arg.slot, Arg.isN, Arg.isAt, Arg.isV, ownAt, newArg, idxF, ixN, binF, fn_live_of, ir_live_of, q]
  have hit : evIt tab (evF tab (k + 6)) (ev2 tab (k + 6)).2 (.rng (.ln "Machine.__len__" "Machine" [(.v 0)])) [.fz (machV l R), .fz (.str (asStr "bad")), .ow (.lst ((endsR R 0).map .int)), .un] = some (.ok ((zeroTo R.length).map .int) [.fz (machV l R), .fz (.str (asStr "bad")), .ow (.lst ((endsR R 0).map .int)), .un]) := by
    have hz : -(cap : Int) ≤ (R.length : Nat) ∧ ((R.length : Nat) : Int) ≤ cap := by unfold cap; omega
    simp only [evIt, m_len hql hn 0 (ρ := [.fz (machV l R), .fz (.str (asStr "bad")), .ow (.lst ((endsR R 0).map .int)), .un]) rfl, bnd_ok, fixv, pur, bnd_pur, rngF, hz, and_self, if_true, lift, rng_zero]
  have hlc : evE tab (evF tab (k + 6)) (ev2 tab (k + 6)).2 (.lc [3] (.nm 3) (.rng (.ln "Machine.__len__" "Machine" [(.v 0)])) (some (.cmp .notin (.v 3) (.v 2))) (.v 3)) [.fz (machV l R), .fz (.str (asStr "bad")), .ow (.lst ((endsR R 0).map .int)), .un] = some (.ok (.ow (.lst ((deadR R).map .int))) [.fz (machV l R), .fz (.str (asStr "bad")), .ow (.lst ((endsR R 0).map .int)), .un]) := by
    have := ev_lcB Val.int (fun p => if decide (p ∉ endsR R 0) then some (Val.int p) else none) hit (ns := [3]) (t := .nm 3) (c := (some (.cmp .notin (.v 3) (.v 2)))) (e := .v 3) (by rw [zeroTo_len]; unfold cap; omega) rfl rfl (fun p _ => by
      refine ⟨[.fz (machV l R), .fz (.str (asStr "bad")), .ow (.lst ((endsR R 0).map .int)), .fz (.int p)], [.fz (machV l R), .fz (.str (asStr "bad")), .ow (.lst ((endsR R 0).map .int)), .fz (.int p)], rfl, ?_, rfl⟩
      have i2 := inI p (endsR R 0)
      by_cases hq : p ∈ endsR R 0 <;> simp [lcF, evE.eq_1, evE.eq_2, evE.eq_3, evE.eq_4, evE.eq_5, evE.eq_6, evE.eq_7, evE.eq_8, evE.eq_9, evE.eq_10, evE.eq_11, evE.eq_12, evE.eq_13, evE.eq_14, evE.eq_15, evE.eq_16, evE.eq_17, evE.eq_18, evE.eq_19, evE.eq_20, evE.eq_21, evE.eq_25, evE.eq_26, evE.eq_27, evE.eq_28, evE.eq_31, evSs, evS, evOp, evC, evEs, opnd, Opd.val, Slot.val, slotAt, fixv, isiV, isiF, typ, asBool, cmpF, endF, keptIo, lift, pur, bltF, len, assn, assns, i2, hq])
    rw [this, fm_if]
  have e : evSs tab (evF tab (k + 6)) (ev2 tab (k + 6)).2 ir_ends_for.body [.fz (machV l R), .fz (.str (asStr "bad")), .un, .un] = some (.ok (.rt (.ow (.lst ((deadR R).map .int)))) [.fz (machV l R), .fz (.str (asStr "bad")), .ow (.lst ((endsR R 0).map .int)), .un]) := by
    have st2 : evS tab (evF tab (k + 6)) (ev2 tab (k + 6)).2 (.ret (.lc [3] (.nm 3) (.rng (.ln "Machine.__len__" "Machine" [(.v 0)])) (some (.cmp .notin (.v 3) (.v 2))) (.v 3))) [.fz (machV l R), .fz (.str (asStr "bad")), .ow (.lst ((endsR R 0).map .int)), .un] = some (.ok (.rt (.ow (.lst ((deadR R).map .int)))) [.fz (machV l R), .fz (.str (asStr "bad")), .ow (.lst ((endsR R 0).map .int)), .un]) := by
      simp only [evS, hlc, bnd_ok, pur]
    exact evSs_2 st0 (evSs_2 st1 (evSs_r st2))
  show endF _ _ (evSs tab (evF tab (k + 6)) (ev2 tab (k + 6)).2 ir_ends_for.body [.fz (machV l R), .fz (.str (asStr "bad")), .un, .un]) = _
  rw [e]
  simp [endF, keptIo, ir_ends_for]
theorem q_ends_good (k : Nat) {l : List Nat} {R : List RowI} (M : GoodM l R) : evF tab (k + 7) "ends_for" [.fz (machV l R), .fz (.str (asStr "good"))] = some (.ok (.ow (.lst ((sureR R).map .int))) [.fz (machV l R), .fz (.str (asStr "good"))]) := by
  rw [evF_succ, run_def fn_ends_for (tab_ext _) rfl]
  have q := q_sure_of k M
  have he : eqF (.str (asStr "good")) (.str (asStr "good")) = some true := by kernel_rfl
  simp [ir_ends_for, evE.eq_1, evE.eq_2, evE.eq_3, evE.eq_4, evE.eq_5, evE.eq_6, evE.eq_7, evE.eq_8, evE.eq_9, evE.eq_10, evE.eq_11, evE.eq_12, evE.eq_13, evE.eq_14, evE.eq_15, evE.eq_16, evE.eq_17, evE.eq_18, evE.eq_19, evE.eq_20, evE.eq_21, evE.eq_25, evE.eq_26, evE.eq_27, evE.eq_28, evE.eq_31, evSs, evS, evOp, evC, evEs, opnd, Opd.val, Slot.val, slotAt, fixv, isiV, isiF, typ, asBool, cmpF, endF, keptIo, lift, pur, bltF, len, assn, assns, evE.eq_22, evAs, argOf, callF, ioNd, order, finish, putBack, Arg.slot, Arg.isN, Arg.isAt, Arg.isV, ownAt, newArg, idxF, ixN, binF, he, fn_sure_of, ir_sure_of, q]
noncomputable abbrev sealR (R : List RowI) : List Int := deadR R ++ sureR R
theorem seal_mem {R : List RowI} {e : Int} : e ∈ sealR R ↔ e ∈ zeroTo R.length ∧ Sealed (AI R) (C0 R) (zeroTo R.length) e := by
  unfold sealR deadR sureR Sealed
  rw [List.mem_append, List.mem_filter, List.mem_filter, decide_eq_true_iff, decide_eq_true_iff, endsG_mem, endsG_mem]
  constructor
  · rintro (h | h)
    · exact ⟨h.1, .inl fun z => h.2 ⟨h.1, z⟩⟩
    · exact ⟨h.1, .inr fun z => h.2 ⟨h.1, z⟩⟩
  · rintro ⟨h, z | z⟩
    · exact .inl ⟨h, fun y => z y.2⟩
    · exact .inr ⟨h, fun y => z y.2⟩
open Classical in
theorem q_is_watched (k : Nat) {l : List Nat} {R : List RowI} (M : GoodM l R) : evF tab (k + 8) "is_watched" [.fz (machV l R)] = some (.ok (.fz (.bl (decide (Wat (AI R) (C0 R) (zeroTo R.length) 0)))) [.fz (machV l R)]) := by
  rw [evF_succ, run_def fn_is_watched (tab_ext _) rfl]
  have hn := M.six
  have hl := M.let_
  have qg := q_graph_of (k + 4) M
  have qb := q_ends_bad k M
  have qo := q_ends_good k M
  have qa := q_all_of (k + 5) M
  have hd : (deadR R).length ≤ 6 := by
    have h : (deadR R).length ≤ (zeroTo R.length).length := List.length_filter_le _ _
    rw [zeroTo_len] at h
    omega
  have hs : (sureR R).length ≤ 6 := by
    have h : (sureR R).length ≤ (zeroTo R.length).length := List.length_filter_le _ _
    rw [zeroTo_len] at h
    omega
  have st1 : evS tab (evF tab (k + 7)) (ev2 tab (k + 7)).2 (.asg (.nm 1) (.call "graph_of" [(.v 0)] [])) [.fz (machV l R), .un, .un, .un, .un] = some (.ok .nx [.fz (machV l R), .ow (mGraph l R), .un, .un, .un]) := by
    simp [evE.eq_1, evE.eq_2, evE.eq_3, evE.eq_4, evE.eq_5, evE.eq_6, evE.eq_7, evE.eq_8, evE.eq_9, evE.eq_10, evE.eq_11, evE.eq_12, evE.eq_13, evE.eq_14, evE.eq_15, evE.eq_16, evE.eq_17, evE.eq_18, evE.eq_19, evE.eq_20, evE.eq_21, evE.eq_25, evE.eq_26, evE.eq_27, evE.eq_28, evE.eq_31, evSs, evS, evOp, evC, evEs, opnd, Opd.val, Slot.val, slotAt, fixv, isiV, isiF, typ, asBool, cmpF, endF, keptIo, lift, pur, bltF, len, assn, assns, evE.eq_22, evAs, argOf, callF, ioNd, order, finish, putBack, Arg.slot, Arg.isN, Arg.isAt, Arg.isV, ownAt, newArg, idxF, ixN, binF, fn_graph_of, ir_graph_of, qg]
  have st2 : evS tab (evF tab (k + 7)) (ev2 tab (k + 7)).2 (.asg (.nm 2) (.lst [(.star (.call "ends_for" [(.v 0), (.str "bad")] [])), (.star (.call "ends_for" [(.v 0), (.str "good")] []))])) [.fz (machV l R), .ow (mGraph l R), .un, .un, .un] = some (.ok .nx [.fz (machV l R), .ow (mGraph l R), .ow (.lst ((sealR R).map .int)), .un, .un]) := by
    have c1 : (deadR R).length + (sureR R).length ≤ cap := by unfold cap; omega
    have a1 : evE tab (evF tab (k + 7)) (ev2 tab (k + 7)).2 (.call "ends_for" [(.v 0), (.str "bad")] []) [.fz (machV l R), .ow (mGraph l R), .un, .un, .un] = some (.ok (.ow (.lst ((deadR R).map .int))) [.fz (machV l R), .ow (mGraph l R), .un, .un, .un]) := by
      simp [evE.eq_1, evE.eq_2, evE.eq_3, evE.eq_4, evE.eq_5, evE.eq_6, evE.eq_7, evE.eq_8, evE.eq_9, evE.eq_10, evE.eq_11, evE.eq_12, evE.eq_13, evE.eq_14, evE.eq_15, evE.eq_16, evE.eq_17, evE.eq_18, evE.eq_19, evE.eq_20, evE.eq_21, evE.eq_25, evE.eq_26, evE.eq_27, evE.eq_28, evE.eq_31, evSs, evS, evOp, evC, evEs, opnd, Opd.val, Slot.val, slotAt, fixv, isiV, isiF, typ, asBool, cmpF, endF, keptIo, lift, pur, bltF, len, assn, assns, evE.eq_22, evAs, argOf, callF, ioNd, order, finish, putBack, Arg.slot, Arg.isN, Arg.isAt, Arg.isV, ownAt, newArg, idxF, ixN, binF, fn_ends_for, ir_ends_for, qb]
    have a2 : evE tab (evF tab (k + 7)) (ev2 tab (k + 7)).2 (.call "ends_for" [(.v 0), (.str "good")] []) [.fz (machV l R), .ow (mGraph l R), .un, .un, .un] = some (.ok (.ow (.lst ((sureR R).map .int))) [.fz (machV l R), .ow (mGraph l R), .un, .un, .un]) := by
      simp [evE.eq_1, evE.eq_2, evE.eq_3, evE.eq_4, evE.eq_5, evE.eq_6, evE.eq_7, evE.eq_8, evE.eq_9, evE.eq_10, evE.eq_11, evE.eq_12, evE.eq_13, evE.eq_14, evE.eq_15, evE.eq_16, evE.eq_17, evE.eq_18, evE.eq_19, evE.eq_20, evE.eq_21, evE.eq_25, evE.eq_26, evE.eq_27, evE.eq_28, evE.eq_31, evSs, evS, evOp, evC, evEs, opnd, Opd.val, Slot.val, slotAt, fixv, isiV, isiF, typ, asBool, cmpF, endF, keptIo, lift, pur, bltF, len, assn, assns, evE.eq_22, evAs, argOf, callF, ioNd, order, finish, putBack, Arg.slot, Arg.isN, Arg.isAt, Arg.isV, ownAt, newArg, idxF, ixN, binF, fn_ends_for, ir_ends_for, qo]
    simp only [evS, evE_lst, evEs, a1, a2, bnd_ok, bnd_pur, fixv, pur, List.append_nil]
    rw [if_pos (by rw [List.length_append, List.length_map, List.length_map]; exact c1)]
    simp [assn, sealR]
  let E0 (g : Slot) (e : Slot) (s3 s4 : Slot) : Ro := [.fz (machV l R), g, e, s3, s4]
  have hany : ∀ p ∈ zeroTo R.length, ∀ (e : Slot), (e = .ow (.lst ((sealR R).map .int)) ∨ e = .fz (.lst ((sealR R).map .int))) → evE tab (evF tab (k + 7)) (ev2 tab (k + 7)).2 (.blt .any [(.lc [3] (.nm 3) (.seq (.v 2)) none (.cmp .isin (.v 3) (.mth "Graph.ways" "Graph" "ways" (.v 1) [(.v 4), (.fld (.v 1) "arrows")])))]) (E0 (.fz (mGraph l R)) e .un (.fz (.int p))) = some (.ok (.fz (.bl (decide (∃ e, RR (AI R) (· ∈ zeroTo R.length) p e ∧ Sealed (AI R) (C0 R) (zeroTo R.length) e)))) (E0 (.fz (mGraph l R)) (.fz (.lst ((sealR R).map .int))) .un (.fz (.int p)))) := by
    intro p hp e he
    have hit : evIt tab (evF tab (k + 7)) (ev2 tab (k + 7)).2 (.seq (.v 2)) (E0 (.fz (mGraph l R)) e .un (.fz (.int p))) = some (.ok ((sealR R).map .int) (E0 (.fz (mGraph l R)) (.fz (.lst ((sealR R).map .int))) .un (.fz (.int p)))) := by
      rcases he with rfl | rfl <;> simp [evIt, E0, evE.eq_1, evE.eq_2, evE.eq_3, evE.eq_4, evE.eq_5, evE.eq_6, evE.eq_7, evE.eq_8, evE.eq_9, evE.eq_10, evE.eq_11, evE.eq_12, evE.eq_13, evE.eq_14, evE.eq_15, evE.eq_16, evE.eq_17, evE.eq_18, evE.eq_19, evE.eq_20, evE.eq_21, evE.eq_25, evE.eq_26, evE.eq_27, evE.eq_28, evE.eq_31, evSs, evS, evOp, evC, evEs, opnd, Opd.val, Slot.val, slotAt, fixv, isiV, isiF, typ, asBool, cmpF, endF, keptIo, lift, pur, bltF, len, assn, assns, itemsF]
    have iv := insV_dct (zeroTo R.length) fun a => Val.tup ((AI R a).map pv)
    have qw := q_ways (C := CI R) (k + 6) M.gr (by omega) iv (fun _ h => h) hp
    have qw' : evF tab (k + 7) "Graph.ways" [.fz (mGraph l R), .fz (.int p), .fz (.dct ((zeroTo R.length).map fun a => (pv a, .tup ((AI R a).map pv))))] = some (.ok (.ow (fndV (waysG l (AI R) (zeroTo R.length) p))) [.fz (mGraph l R), .fz (.int p), .fz (.dct ((zeroTo R.length).map fun a => (pv a, .tup ((AI R a).map pv))))]) := qw
    have hlc := ev_lcB Val.int (fun e => some (.bl (decide (e ∈ keysG (waysG l (AI R) (zeroTo R.length) p))))) hit (ns := [3]) (t := .nm 3) (c := none) (e := (.cmp .isin (.v 3) (.mth "Graph.ways" "Graph" "ways" (.v 1) [(.v 4), (.fld (.v 1) "arrows")]))) (by unfold sealR; rw [List.length_append]; unfold cap; omega) rfl rfl (fun y _ => by
      refine ⟨E0 (.fz (mGraph l R)) (.fz (.lst ((sealR R).map .int))) (.fz (.int y)) (.fz (.int p)), E0 (.fz (mGraph l R)) (.fz (.lst ((sealR R).map .int))) (.fz (.int y)) (.fz (.int p)), rfl, ?_, rfl⟩
      have i1 : inF (.int y) (fndV (waysG l (AI R) (zeroTo R.length) p)) = some (decide (y ∈ keysG (waysG l (AI R) (zeroTo R.length) p))) := in_fnd y _
      have af := arr_fld (k + 7) (l := l) (R := R) 1 (ρ := E0 (.fz (mGraph l R)) (.fz (.lst ((sealR R).map .int))) (.fz (.int y)) (.fz (.int p))) rfl
      have hc : evE tab (evF tab (k + 7)) (ev2 tab (k + 7)).2 (.mth "Graph.ways" "Graph" "ways" (.v 1) [(.v 4), (.fld (.v 1) "arrows")]) (E0 (.fz (mGraph l R)) (.fz (.lst ((sealR R).map .int))) (.fz (.int y)) (.fz (.int p))) = some (.ok (.ow (fndV (waysG l (AI R) (zeroTo R.length) p))) (E0 (.fz (mGraph l R)) (.fz (.lst ((sealR R).map .int))) (.fz (.int y)) (.fz (.int p)))) := by
        have v1 : evE tab (evF tab (k + 7)) (ev2 tab (k + 7)).2 (.v 1) (E0 (.fz (mGraph l R)) (.fz (.lst ((sealR R).map .int))) (.fz (.int y)) (.fz (.int p))) = some (.ok (.fz (mGraph l R)) (E0 (.fz (mGraph l R)) (.fz (.lst ((sealR R).map .int))) (.fz (.int y)) (.fz (.int p)))) := rfl
        have v4 : evE tab (evF tab (k + 7)) (ev2 tab (k + 7)).2 (.v 4) (E0 (.fz (mGraph l R)) (.fz (.lst ((sealR R).map .int))) (.fz (.int y)) (.fz (.int p))) = some (.ok (.fz (.int p)) (E0 (.fz (mGraph l R)) (.fz (.lst ((sealR R).map .int))) (.fz (.int y)) (.fz (.int p)))) := rfl
        simp only [evE.eq_24, fn_Graph_ways, ir_Graph_ways, evAs, argOf, List.getD_cons_zero, List.drop_succ_cons, List.drop_zero, Bool.false_eq_true, if_false, v1, v4, af, bnd_ok, bnd_pur, pur, fixv, g_obj _ (.inl rfl), Bool.not_true, Arg.isN, Bool.false_and]
        simp [callF, ioNd, Arg.isAt, Arg.slot, order, qw', finish, putBack]
      have o3 : opnd (.v 3) (evE tab (evF tab (k + 7)) (ev2 tab (k + 7)).2 (.v 3)) (E0 (.fz (mGraph l R)) (.fz (.lst ((sealR R).map .int))) (.fz (.int y)) (.fz (.int p))) = some (.ok (.pl 3) (E0 (.fz (mGraph l R)) (.fz (.lst ((sealR R).map .int))) (.fz (.int y)) (.fz (.int p)))) := rfl
      have v3 : Opd.val (.pl 3) (E0 (.fz (mGraph l R)) (.fz (.lst ((sealR R).map .int))) (.fz (.int y)) (.fz (.int p))) = some (.int y) := rfl
      simp only [lcF, evC, evE_cmp, o3, bnd_ok, bnd_pur, pur, if_true]
      simp only [opnd, hc, bnd_ok, pur, v3, Option.bind_some]
      have v4 : Opd.val (.tm (fndV (waysG l (AI R) (zeroTo R.length) p))) (E0 (.fz (mGraph l R)) (.fz (.lst ((sealR R).map .int))) (.fz (.int y)) (.fz (.int p))) = some (fndV (waysG l (AI R) (zeroTo R.length) p)) := rfl
      simp only [v4, Option.bind_some, cmpF, i1, Option.map_some, lift, pur, bnd_ok, fixv])
    have ha : allB (((sealR R).filterMap fun e => some (Val.bl (decide (e ∈ keysG (waysG l (AI R) (zeroTo R.length) p)))))) = some ((sealR R).map fun e => decide (e ∈ keysG (waysG l (AI R) (zeroTo R.length) p))) := by
      have : ((sealR R).filterMap fun e => some (Val.bl (decide (e ∈ keysG (waysG l (AI R) (zeroTo R.length) p))))) = (sealR R).map fun e => Val.bl (decide (e ∈ keysG (waysG l (AI R) (zeroTo R.length) p))) := by simp
      rw [this]; exact allB_map _ _
    have hb : ((sealR R).map fun e => decide (e ∈ keysG (waysG l (AI R) (zeroTo R.length) p))).any id = decide (∃ e, RR (AI R) (· ∈ zeroTo R.length) p e ∧ Sealed (AI R) (C0 R) (zeroTo R.length) e) := by
      rw [List.any_map, Bool.eq_iff_iff, List.any_eq_true, decide_eq_true_iff]
      constructor
      · rintro ⟨e, he, h⟩
        have h : e ∈ keysG (waysG l (AI R) (zeroTo R.length) p) := by simpa using h
        exact ⟨e, (waysG_mem M.gr hp (fun _ h => h)).mp h, (seal_mem.mp he).2⟩
      · rintro ⟨e, hr, hse⟩
        have heD : e ∈ zeroTo R.length := by
          rcases hr with rfl | hr
          · exact hp
          · exact hr.inn
        exact ⟨e, seal_mem.mpr ⟨heD, hse⟩, by simpa using (waysG_mem M.gr hp (fun _ h => h)).mpr hr⟩
    simp only [evE_blt1, opnd, hlc, bnd_ok, bnd_pur, pur, Opd.val, Option.bind_some, bltF, ha, Option.map_some, lift, hb]
  have hall : ∀ p ∈ reachR l R, p ∈ zeroTo R.length := fun p hp => (waysG_in hp).elim (fun e => e ▸ zero_in M) id
  have hlc : ∃ e', evE tab (evF tab (k + 7)) (ev2 tab (k + 7)).2 (.lc [4] (.nm 4) (.seq (.call "all_of" [(.v 1)] [])) none (.blt .any [(.lc [3] (.nm 3) (.seq (.v 2)) none (.cmp .isin (.v 3) (.mth "Graph.ways" "Graph" "ways" (.v 1) [(.v 4), (.fld (.v 1) "arrows")])))])) (E0 (.ow (mGraph l R)) (.ow (.lst ((sealR R).map .int))) .un .un) = some (.ok (.ow (.lst ((reachR l R).map fun p => .bl (decide (∃ e, RR (AI R) (· ∈ zeroTo R.length) p e ∧ Sealed (AI R) (C0 R) (zeroTo R.length) e))))) (E0 (.fz (mGraph l R)) e' .un .un)) := by
    have hit : evIt tab (evF tab (k + 7)) (ev2 tab (k + 7)).2 (.seq (.call "all_of" [(.v 1)] [])) (E0 (.ow (mGraph l R)) (.ow (.lst ((sealR R).map .int))) .un .un) = some (.ok ((reachR l R).map .int) (E0 (.fz (mGraph l R)) (.ow (.lst ((sealR R).map .int))) .un .un)) := by
      simp [evIt, E0, evE.eq_1, evE.eq_2, evE.eq_3, evE.eq_4, evE.eq_5, evE.eq_6, evE.eq_7, evE.eq_8, evE.eq_9, evE.eq_10, evE.eq_11, evE.eq_12, evE.eq_13, evE.eq_14, evE.eq_15, evE.eq_16, evE.eq_17, evE.eq_18, evE.eq_19, evE.eq_20, evE.eq_21, evE.eq_25, evE.eq_26, evE.eq_27, evE.eq_28, evE.eq_31, evSs, evS, evOp, evC, evEs, opnd, Opd.val, Slot.val, slotAt, fixv, isiV, isiF, typ, asBool, cmpF, endF, keptIo, lift, pur, bltF, len, assn, assns, evE.eq_22, evAs, argOf, callF, ioNd, order, finish, putBack, Arg.slot, Arg.isN, Arg.isAt, Arg.isV, ownAt, newArg, idxF, ixN, binF, fn_all_of, ir_all_of, qa, itemsF]
    obtain ⟨ys, ρ', h1, e', h2, he', h3⟩ := lc_inv (f := lcF tab (evF tab (k + 7)) (ev2 tab (k + 7)).2 none (.blt .any [(.lc [3] (.nm 3) (.seq (.v 2)) none (.cmp .isin (.v 3) (.mth "Graph.ways" "Graph" "ways" (.v 1) [(.v 4), (.fld (.v 1) "arrows")])))])) (t := .nm 4) (ns := [4]) (fun n ρ acc => ∃ e, ρ = E0 (.fz (mGraph l R)) e .un .un ∧ (e = .ow (.lst ((sealR R).map .int)) ∨ e = .fz (.lst ((sealR R).map .int))) ∧ acc = ((reachR l R).take n).map fun p => .bl (decide (∃ e, RR (AI R) (· ∈ zeroTo R.length) p e ∧ Sealed (AI R) (C0 R) (zeroTo R.length) e))) ((reachR l R).map .int) 0 (E0 (.fz (mGraph l R)) (.ow (.lst ((sealR R).map .int))) .un .un) [] ⟨_, rfl, .inl rfl, by simp⟩ (fun n x ρ acc hx hI => by
      obtain ⟨e, rfl, he, rfl⟩ := hI
      rw [List.getElem?_map] at hx
      obtain ⟨p, hp, rfl⟩ := Option.map_eq_some_iff.mp hx
      have hpD := hall p (List.mem_of_getElem? hp)
      refine ⟨E0 (.fz (mGraph l R)) e .un (.fz (.int p)), some (.bl (decide (∃ e, RR (AI R) (· ∈ zeroTo R.length) p e ∧ Sealed (AI R) (C0 R) (zeroTo R.length) e))), E0 (.fz (mGraph l R)) (.fz (.lst ((sealR R).map .int))) .un (.fz (.int p)), rfl, ?_, .fz (.lst ((sealR R).map .int)), rfl, .inr rfl, ?_⟩
      · simp only [lcF, evC, bnd_pur, hany p hpD e he, bnd_ok, pur, if_true, fixv]
      · rw [Nat.zero_add, List.take_add_one, hp]
        simp)
    refine ⟨e', ?_⟩
    have hy : ys = (reachR l R).map fun p => .bl (decide (∃ e, RR (AI R) (· ∈ zeroTo R.length) p e ∧ Sealed (AI R) (C0 R) (zeroTo R.length) e)) := by
      rw [List.nil_append] at h3
      rw [h3, Nat.zero_add, List.length_map, List.take_of_length_le (Nat.le_refl _)]
    have := ev_lcG hit (by rw [List.length_map]; have := reach_len M; unfold cap; omega) (ns := [4]) (t := .nm 4) rfl (by rw [show wipeR (E0 (.fz (mGraph l R)) (.ow (.lst ((sealR R).map .int))) .un .un) [4] = E0 (.fz (mGraph l R)) (.ow (.lst ((sealR R).map .int))) .un .un from rfl]; exact h1)
    rw [this, h2, hy]
    rfl
  obtain ⟨e', hlc⟩ := hlc
  have hw : ((reachR l R).map fun p => decide (∃ e, RR (AI R) (· ∈ zeroTo R.length) p e ∧ Sealed (AI R) (C0 R) (zeroTo R.length) e)).all id = decide (Wat (AI R) (C0 R) (zeroTo R.length) 0) := by
    rw [List.all_map, Bool.eq_iff_iff, List.all_eq_true, decide_eq_true_iff]
    unfold Wat
    constructor
    · intro h q hq
      have := h q ((waysG_mem M.gr (zero_in M) (fun _ h => h)).mpr hq)
      simpa using this
    · intro h q hq
      simpa using h q ((waysG_mem M.gr (zero_in M) (fun _ h => h)).mp hq)
  have ha : allB ((reachR l R).map fun p => Val.bl (decide (∃ e, RR (AI R) (· ∈ zeroTo R.length) p e ∧ Sealed (AI R) (C0 R) (zeroTo R.length) e))) = some ((reachR l R).map fun p => decide (∃ e, RR (AI R) (· ∈ zeroTo R.length) p e ∧ Sealed (AI R) (C0 R) (zeroTo R.length) e)) := allB_map _ _
  have e : evSs tab (evF tab (k + 7)) (ev2 tab (k + 7)).2 ir_is_watched.body [.fz (machV l R), .un, .un, .un, .un] = some (.ok (.rt (.fz (.bl (decide (Wat (AI R) (C0 R) (zeroTo R.length) 0))))) (E0 (.fz (mGraph l R)) e' .un .un)) := by
    have hlc' : evE tab (evF tab (k + 7)) (ev2 tab (k + 7)).2 (.lc [4] (.nm 4) (.seq (.call "all_of" [(.v 1)] [])) none (.blt .any [(.lc [3] (.nm 3) (.seq (.v 2)) none (.cmp .isin (.v 3) (.mth "Graph.ways" "Graph" "ways" (.v 1) [(.v 4), (.fld (.v 1) "arrows")])))])) [.fz (machV l R), .ow (mGraph l R), .ow (.lst ((sealR R).map .int)), .un, .un] = some (.ok (.ow (.lst ((reachR l R).map fun p => .bl (decide (∃ e, RR (AI R) (· ∈ zeroTo R.length) p e ∧ Sealed (AI R) (C0 R) (zeroTo R.length) e))))) (E0 (.fz (mGraph l R)) e' .un .un)) := hlc
    have st3 : evS tab (evF tab (k + 7)) (ev2 tab (k + 7)).2 (.ret (.blt .all [(.lc [4] (.nm 4) (.seq (.call "all_of" [(.v 1)] [])) none (.blt .any [(.lc [3] (.nm 3) (.seq (.v 2)) none (.cmp .isin (.v 3) (.mth "Graph.ways" "Graph" "ways" (.v 1) [(.v 4), (.fld (.v 1) "arrows")])))]))])) [.fz (machV l R), .ow (mGraph l R), .ow (.lst ((sealR R).map .int)), .un, .un] = some (.ok (.rt (.fz (.bl (decide (Wat (AI R) (C0 R) (zeroTo R.length) 0))))) (E0 (.fz (mGraph l R)) e' .un .un)) := by
      simp only [evS]
      rw [evE_blt1]
      simp only [opnd, hlc', bnd_ok, bnd_pur, pur, Opd.val, Option.bind_some, bltF, ha, Option.map_some, lift, hw]
    exact evSs_2 st1 (evSs_2 st2 (evSs_r st3))
  show endF _ _ (evSs tab (evF tab (k + 7)) (ev2 tab (k + 7)).2 ir_is_watched.body [.fz (machV l R), .un, .un, .un, .un]) = _
  rw [e]
  simp [endF, keptIo, ir_is_watched, E0]
open Classical in
theorem q_is_watchable (k : Nat) {l : List Nat} {R : List RowI} (M : GoodM l R) : evF tab (k + 9) "is_watchable" [.fz (machV l R)] = some (.ok (.fz (.bl (decide (Wat (AI R) (C0 R) (zeroTo R.length) 0)))) [.fz (machV l R)]) := by
  rw [evF_succ, run_def fn_is_watchable (tab_ext _) rfl]
  have q := q_is_watched k M
  have c := q_check_machine (k + 7) [("held_letters", .str l), ("held_states", rowsV R)]
  have c' : evF tab (k + 8) "check_machine" [.fz (machV l R)] = some (.ok (.fz .non) [.fz (machV l R)]) := c
  simp [ir_is_watchable, evE.eq_1, evE.eq_2, evE.eq_3, evE.eq_4, evE.eq_5, evE.eq_6, evE.eq_7, evE.eq_8, evE.eq_9, evE.eq_10, evE.eq_11, evE.eq_12, evE.eq_13, evE.eq_14, evE.eq_15, evE.eq_16, evE.eq_17, evE.eq_18, evE.eq_19, evE.eq_20, evE.eq_21, evE.eq_25, evE.eq_26, evE.eq_27, evE.eq_28, evE.eq_31, evSs, evS, evOp, evC, evEs, opnd, Opd.val, Slot.val, slotAt, fixv, isiV, isiF, typ, asBool, cmpF, endF, keptIo, lift, pur, bltF, len, assn, assns, evE.eq_22, evAs, argOf, callF, ioNd, order, finish, putBack, Arg.slot, Arg.isN, Arg.isAt, Arg.isV, ownAt, newArg, idxF, ixN, binF, fn_check_machine, ir_check_machine, fn_is_watched, ir_is_watched, q, c']
theorem q_reached (k : Nat) {l : List Nat} {R : List RowI} (M : GoodM l R) : ∃ F : List Int, evF tab (k + 2) "_law_reached" [.fz (rowsV R)] = some (.ok (.ow (.lst (F.map .int))) [.fz (rowsV R)]) ∧ F.length ≤ 7 ∧ ∀ x, x ∈ F ↔ RR (AI R) (· ∈ zeroTo R.length) 0 x := by
  have hn := M.six
  obtain ⟨F, qf, fnd, fm⟩ := q_from k M (zero_in M) (X := zeroTo R.length) (fun _ h => h) (by rw [zeroTo_len]; omega)
  have hF : F.length ≤ 6 := by
    have := nodup_le fnd (m := zeroTo R.length) (fun x hx => ((fm x).mp hx).inn)
    rw [zeroTo_len] at this
    omega
  have hfl : (F.filter fun x => decide (x ≠ 0)).length ≤ 6 := Nat.le_trans (List.length_filter_le _ _) hF
  refine ⟨0 :: F.filter fun x => decide (x ≠ 0), ?_, by simp only [List.length_cons]; omega, fun x => ?_⟩
  · rw [evF_succ, run_def fn__law_reached (tab_ext _) rfl]
    have st1 : evS tab (evF tab (k + 1)) (ev2 tab (k + 1)).2 (.asg (.nm 1) (.lst [(.int 0)])) [.fz (rowsV R), .un, .un] = some (.ok .nx [.fz (rowsV R), .ow (.lst [.int 0]), .un]) := by
      have c1 : 1 ≤ cap := by unfold cap; omega
      simp [evE.eq_1, evE.eq_2, evE.eq_3, evE.eq_4, evE.eq_5, evE.eq_6, evE.eq_7, evE.eq_8, evE.eq_9, evE.eq_10, evE.eq_11, evE.eq_12, evE.eq_13, evE.eq_14, evE.eq_15, evE.eq_16, evE.eq_17, evE.eq_18, evE.eq_19, evE.eq_20, evE.eq_21, evE.eq_25, evE.eq_26, evE.eq_27, evE.eq_28, evE.eq_31, evSs, evS, evOp, evC, evEs, opnd, Opd.val, Slot.val, slotAt, fixv, isiV, isiF, typ, asBool, cmpF, endF, keptIo, lift, pur, bltF, len, assn, assns, c1]
    have hit : evIt tab (evF tab (k + 1)) (ev2 tab (k + 1)).2 (.seq (.call "_law_from" [(.v 0), (.int 0), (.lrg (.blt .len [(.v 0)]))] [])) [.fz (rowsV R), .ow (.lst [.int 0]), .un] = some (.ok (F.map .int) [.fz (rowsV R), .ow (.lst [.int 0]), .un]) := by
      have hz : -(cap : Int) ≤ (R.length : Nat) ∧ ((R.length : Nat) : Int) ≤ cap := by unfold cap; omega
      have v0 : evE tab (evF tab (k + 1)) (ev2 tab (k + 1)).2 (.v 0) [.fz (rowsV R), .ow (.lst [.int 0]), .un] = some (.ok (.fz (rowsV R)) [.fz (rowsV R), .ow (.lst [.int 0]), .un]) := rfl
      have hlr : evE tab (evF tab (k + 1)) (ev2 tab (k + 1)).2 (.lrg (.blt .len [(.v 0)])) [.fz (rowsV R), .ow (.lst [.int 0]), .un] = some (.ok (.ow (.lst ((zeroTo R.length).map .int))) [.fz (rowsV R), .ow (.lst [.int 0]), .un]) := by
        simp [evE.eq_1, evE.eq_2, evE.eq_3, evE.eq_4, evE.eq_5, evE.eq_6, evE.eq_7, evE.eq_8, evE.eq_9, evE.eq_10, evE.eq_11, evE.eq_12, evE.eq_13, evE.eq_14, evE.eq_15, evE.eq_16, evE.eq_17, evE.eq_18, evE.eq_19, evE.eq_20, evE.eq_21, evE.eq_25, evE.eq_26, evE.eq_27, evE.eq_28, evE.eq_31, evSs, evS, evOp, evC, evEs, opnd, Opd.val, Slot.val, slotAt, fixv, isiV, isiF, typ, asBool, cmpF, endF, keptIo, lift, pur, bltF, len, assn, assns, evE_lrg, rowsV, rngF, hz, rng_zero]
      simp only [evIt]
      rw [ev_callV fn__law_from rfl (vs := [rowsV R, .int 0, .lst ((zeroTo R.length).map .int)]) (ρ1 := [.fz (rowsV R), .ow (.lst [.int 0]), .un]) (by
        simp only [evEs, v0, hlr, evE_int, bnd_ok, bnd_pur, fixv, pur]) (fun a ha => by simp at ha) qf]
      simp only [bnd_ok, fixv, pur, itemsF, lift]
    have hlc : evE tab (evF tab (k + 1)) (ev2 tab (k + 1)).2 (.lc [2] (.nm 2) (.seq (.call "_law_from" [(.v 0), (.int 0), (.lrg (.blt .len [(.v 0)]))] [])) (some (.cmp .ne (.v 2) (.int 0))) (.v 2)) [.fz (rowsV R), .ow (.lst [.int 0]), .un] = some (.ok (.ow (.lst ((F.filter fun x => decide (x ≠ 0)).map .int))) [.fz (rowsV R), .ow (.lst [.int 0]), .un]) := by
      have := ev_lcB Val.int (fun x => if decide (x ≠ 0) then some (Val.int x) else none) hit (ns := [2]) (t := .nm 2) (c := (some (.cmp .ne (.v 2) (.int 0)))) (e := .v 2) (by unfold cap; omega) rfl rfl (fun x _ => by
        refine ⟨[.fz (rowsV R), .ow (.lst [.int 0]), .fz (.int x)], [.fz (rowsV R), .ow (.lst [.int 0]), .fz (.int x)], rfl, ?_, rfl⟩
        by_cases hq : x = 0 <;> simp [lcF, evE.eq_1, evE.eq_2, evE.eq_3, evE.eq_4, evE.eq_5, evE.eq_6, evE.eq_7, evE.eq_8, evE.eq_9, evE.eq_10, evE.eq_11, evE.eq_12, evE.eq_13, evE.eq_14, evE.eq_15, evE.eq_16, evE.eq_17, evE.eq_18, evE.eq_19, evE.eq_20, evE.eq_21, evE.eq_25, evE.eq_26, evE.eq_27, evE.eq_28, evE.eq_31, evSs, evS, evOp, evC, evEs, opnd, Opd.val, Slot.val, slotAt, fixv, isiV, isiF, typ, asBool, cmpF, endF, keptIo, lift, pur, bltF, len, assn, assns, eqF_int, hq])
      rw [this, fm_if]
    have e : evSs tab (evF tab (k + 1)) (ev2 tab (k + 1)).2 ir__law_reached.body [.fz (rowsV R), .un, .un] = some (.ok (.rt (.ow (.lst ((0 :: F.filter fun x => decide (x ≠ 0)).map .int)))) [.fz (rowsV R), .ow (.lst [.int 0]), .un]) := by
      have st2 : evS tab (evF tab (k + 1)) (ev2 tab (k + 1)).2 (.ret (.bin .add (.v 1) (.lc [2] (.nm 2) (.seq (.call "_law_from" [(.v 0), (.int 0), (.lrg (.blt .len [(.v 0)]))] [])) (some (.cmp .ne (.v 2) (.int 0))) (.v 2)))) [.fz (rowsV R), .ow (.lst [.int 0]), .un] = some (.ok (.rt (.ow (.lst ((0 :: F.filter fun x => decide (x ≠ 0)).map .int)))) [.fz (rowsV R), .ow (.lst [.int 0]), .un]) := by
        have o1 : opnd (.v 1) (evE tab (evF tab (k + 1)) (ev2 tab (k + 1)).2 (.v 1)) [.fz (rowsV R), .ow (.lst [.int 0]), .un] = some (.ok (.pl 1) [.fz (rowsV R), .ow (.lst [.int 0]), .un]) := rfl
        have hv : ([Slot.fz (rowsV R), .ow (.lst [.int 0]), .un][1]?).bind Slot.val = some (.lst [.int 0]) := rfl
        simp only [evS]
        rw [evE_bin, o1, bnd_ok]
        simp only [opnd, hlc, bnd_ok, pur, Opd.val]
        rw [hv]
        simp only [Option.bind_some, binF]
        rw [if_pos (by simp only [List.length_map, List.length_cons, List.length_nil]; unfold cap; omega)]
        simp [lift, pur]
      exact evSs_2 st1 (evSs_r st2)
    show endF _ _ (evSs tab (evF tab (k + 1)) (ev2 tab (k + 1)).2 ir__law_reached.body [.fz (rowsV R), .un, .un]) = _
    rw [e]
    simp [endF, keptIo, ir__law_reached]
  · rw [List.mem_cons, List.mem_filter, decide_eq_true_iff, fm]
    constructor
    · rintro (rfl | h)
      · exact .refl
      · exact .inr h.1
    · intro h
      by_cases e : x = 0
      · exact .inl e
      · rcases h with rfl | h
        · exact absurd rfl e
        · exact .inr ⟨h, e⟩
end EV
namespace EV
open PySem GH Pl
def gRo (b : Int × Int × Int) (s1 s2 s3 s4 s5 s6 s7 s8 s9 s10 s11 s12 s13 : Slot) : Ro := [.ow (bagV b), s1, s2, s3, s4, s5, s6, s7, s8, s9, s10, s11, s12, s13]
abbrev gL5 : Ex := (.lc [10] (.nm 10) (.seq (.v 5)) (some (.or (.cmp .notin (.v 10) (.v 6)) (.cmp .notin (.v 10) (.v 7)))) (.v 10))
abbrev gL6 : Ex := (.lc [13] (.nm 13) (.seq (.call "_law_from" [(.v 3), (.v 10), (.v 5)] [])) (some (.cmp .isin (.v 13) (.v 8))) (.v 13))
abbrev gI6 : List Sx := [(.asg (.nm 11) gL6), (.asg (.nm 9) (.and (.v 9) (.or (.cmp .isin (.v 10) (.v 8)) (.cmp .ne (.v 11) (.lst [])))))]
abbrev gS7 : Sx := (.ife (.cmp .ne (.blt .repr [(.lst [(.call "is_watchable" [(.v 4)] []), (.call "is_watchable" [(.v 4)] ["machine"])])]) (.blt .repr [(.lst [(.v 9), (.v 9)])])) [(.ret (.bl false))] [])
abbrev gS8 : Sx := (.asg (.nm 12) (.bin .add (.v 3) (.tup [(.tup [(.call "_law_take" [(.v 0), (.int 7)] []), (.bin .mul (.tup [(.int 0)]) (.blt .len [(.v 2)]))])])))
abbrev gS9 : Sx := (.ife (.and (.cmp .lt (.blt .len [(.v 3)]) (.int 6)) (.cmp .ne (.call "is_watchable" [(.mk "Machine" [(.v 2), (.v 12)] [])] []) (.v 9))) [(.ret (.bl false))] [])
abbrev gBody : List Sx := [(.asg (.nm 2) (.call "_law_signs" [(.v 0)] [])), (.asg (.nm 3) (.call "_law_rows" [(.v 0), (.v 2), (.int 6)] [])), (.par [4, 5] [(.mk "Machine" [(.v 2), (.v 3)] []), (.lrg (.blt .len [(.v 3)]))]), (.par [6, 7] [(.call "_law_ends_in" [(.v 3), (.int 0)] []), (.call "_law_ends_in" [(.v 3), (.int 1)] [])]), (.par [8, 9] [gL5, (.bl true)]), (.for_ (.nm 10) (.seq (.call "_law_reached" [(.v 3)] [])) gI6), gS7, gS8, gS9]
theorem evE_andL {T : Tab} {cal mkc : Cal} (a b : Ex) (ρ : Ro) : evE T cal mkc (.and a b) ρ = bnd (evE T cal mkc a ρ) fun r ρ1 => bnd (asBool r ρ1) fun c ρ2 => if c then evE T cal mkc b ρ2 else pur (.fz (.bl false)) ρ2 := by simp only [evE]
theorem clean_not {ρ : Ro} {i : Nat} {s : Slot} (h : ρ[i]? = some s) (hs : ∀ v, s ≠ .ow v) : clean [i] ρ = true := by
  cases s with
  | ow v => exact absurd rfl (hs v)
  | fz v => simp [clean, h]
  | un => simp [clean, h]
theorem repr_bl (d : Bool) : ∃ s, bltF .repr [.lst [.bl d, .bl d]] = some (.fz (.str s)) ∧ shp (.str s) = true := by
  cases d
  · refine ⟨asStr "[False, False]", by kernel_rfl, by kernel_rfl⟩
  · refine ⟨asStr "[True, True]", by kernel_rfl, by kernel_rfl⟩
theorem repV_zero : ∀ n, repV [Val.int 0] n = (List.replicate n (0 : Int)).map .int
  | 0 => rfl
  | n + 1 => by simp [repV, repV_zero n, List.replicate_succ]
/-- one state more, which is not reached -/
theorem GoodM.wide {l : List Nat} {R : List RowI} (M : GoodM l R) (h6 : R.length < 6) {c : Int} (h0 : 0 ≤ c) (hc : c ≤ 6) : GoodM l (R ++ [(c, List.replicate l.length 0)]) where
  one := by simp
  six := by rw [List.length_append]; simp; omega
  let_ := M.let_
  row := fun r hr => by
    rw [List.length_append]
    rcases List.mem_append.mp hr with h | h
    · obtain ⟨a1, a2, a3, a4⟩ := M.row r h
      exact ⟨a1, a2, a3, fun t ht => by have := a4 t ht; simp; omega⟩
    · have : r = (c, List.replicate l.length 0) := by simpa using h
      subst this
      refine ⟨h0, hc, by simp, fun t ht => ?_⟩
      have := List.eq_of_mem_replicate ht
      simp
      omega
theorem wide_wat {l : List Nat} {R : List RowI} (M : GoodM l R) (r : RowI) : Wat (AI (R ++ [r])) (C0 (R ++ [r])) (zeroTo (R ++ [r]).length) 0 ↔ Wat (AI R) (C0 R) (zeroTo R.length) 0 := by
  have hg : ∀ a ∈ zeroTo R.length, (R ++ [r]).getD a.toNat (0, []) = R.getD a.toNat (0, []) := by
    intro a ha
    have := zeroTo_mem.mp ha
    rw [List.getD_eq_getElem?_getD, List.getD_eq_getElem?_getD, List.getElem?_append_left (by omega)]
  exact ext_wat (D := zeroTo R.length) (fun a ha => by unfold AI; rw [hg a ha]) (fun a ha => by unfold C0; rw [hg a ha]) M.gr.tgt (fun a ha => by
    have := zeroTo_mem.mp ha
    exact zeroTo_mem.mpr ⟨this.1, by rw [List.length_append]; simp; omega⟩) (zero_in M)
open Classical in
theorem g_turn (k : Nat) (b : Int × Int × Int) (s1 s2 s3 s4 s5 s6 s7 s8 s9 s10 s11 s12 s13 : Slot) (h10 : ∀ v, s10 ≠ .ow v) (h13 : ∀ v, s13 ≠ .ow v) : ∃ b' s2' s3' s4' s5' s6' s7' s8' s9' s10' s11' s12', evSs tab (evF tab (k + 9)) (ev2 tab (k + 9)).2 gBody (gRo b s1 s2 s3 s4 s5 s6 s7 s8 s9 s10 s11 s12 s13) = some (.ok .nx (gRo b' s1 s2' s3' s4' s5' s6' s7' s8' s9' s10' s11' s12' s13)) ∧ ∀ v, s10' ≠ .ow v := by
  have d1 := draw_lt (b := b) (n := 8) (by omega)
  have hl := sgn_len _ d1.1 d1.2
  have qs := q_signs (k + 7) b
  have qa := q_let (k + 5) (draw b 8).1 d1.1 d1.2
  generalize hL : sgn (draw b 8).1 = l at hl qs qa
  generalize hb1 : (draw b 8).2 = b1 at qs
  obtain ⟨b2, R, qr, M⟩ := q_rows (k + 7) b1 l hl.1 hl.2
  have hn := M.six
  have qi := q_init (k + 5) M qa
  have qe0 := q_ends_in (k + 6) M 0
  have qe1 := q_ends_in (k + 6) M 1
  have qw := q_is_watchable k M
  obtain ⟨F, qre, hFl, hFm⟩ := q_reached (k + 7) M
  have qt := q_take (k + 8) b2 7 (by omega) (by omega)
  have d7 := draw_lt (b := b2) (n := 7) (by omega)
  generalize hc7 : (draw b2 7).1 = c7 at qt d7
  generalize hb3 : (draw b2 7).2 = b3 at qt
  obtain ⟨E0, hE0⟩ : ∃ E, endsR R 0 = E := ⟨_, rfl⟩
  obtain ⟨E1, hE1⟩ : ∃ E, endsR R 1 = E := ⟨_, rfl⟩
  rw [hE0] at qe0
  rw [hE1] at qe1
  obtain ⟨S, hS⟩ : ∃ S, (zeroTo R.length).filter (fun p => decide (p ∉ E0) || decide (p ∉ E1)) = S := ⟨_, rfl⟩
  have hSm : ∀ e, e ∈ S ↔ e ∈ zeroTo R.length ∧ Sealed (AI R) (C0 R) (zeroTo R.length) e := by
    intro e
    rw [← hS, List.mem_filter, Bool.or_eq_true, decide_eq_true_iff, decide_eq_true_iff, ← hE0, ← hE1, endsG_mem, endsG_mem]
    unfold Sealed
    constructor
    · rintro ⟨h, z | z⟩
      · exact ⟨h, .inl fun y => z ⟨h, y⟩⟩
      · exact ⟨h, .inr fun y => z ⟨h, y⟩⟩
    · rintro ⟨h, z | z⟩
      · exact ⟨h, .inl fun y => z y.2⟩
      · exact ⟨h, .inr fun y => z y.2⟩
  have hSl : S.length ≤ 6 := by
    have : S.length ≤ (zeroTo R.length).length := by rw [← hS]; exact List.length_filter_le _ _
    rw [zeroTo_len] at this
    omega
  let Pq (q : Int) : Prop := ∃ e, RR (AI R) (· ∈ zeroTo R.length) q e ∧ Sealed (AI R) (C0 R) (zeroTo R.length) e
  have hz : -(cap : Int) ≤ (R.length : Nat) ∧ ((R.length : Nat) : Int) ≤ cap := by unfold cap; omega
  have st1 : evS tab (evF tab (k + 9)) (ev2 tab (k + 9)).2 (.asg (.nm 2) (.call "_law_signs" [(.v 0)] [])) (gRo b s1 s2 s3 s4 s5 s6 s7 s8 s9 s10 s11 s12 s13) = some (.ok .nx (gRo b1 s1 (.fz (.str l)) s3 s4 s5 s6 s7 s8 s9 s10 s11 s12 s13)) := by
    simp [gRo, evE.eq_1, evE.eq_2, evE.eq_3, evE.eq_4, evE.eq_5, evE.eq_6, evE.eq_7, evE.eq_8, evE.eq_9, evE.eq_10, evE.eq_11, evE.eq_12, evE.eq_13, evE.eq_14, evE.eq_15, evE.eq_16, evE.eq_17, evE.eq_18, evE.eq_19, evE.eq_20, evE.eq_21, evE.eq_25, evE.eq_26, evE.eq_27, evE.eq_28, evE.eq_31, evSs, evS, evOp, evC, evEs, opnd, Opd.val, Slot.val, slotAt, fixv, isiV, isiF, typ, asBool, cmpF, endF, keptIo, lift, pur, bltF, len, assn, assns, evE.eq_22, evAs, argOf, callF, ioNd, order, finish, putBack, Arg.slot, Arg.isN, Arg.isAt, Arg.isV, ownAt, newArg, idxF, ixN, binF, fn__law_signs, ir__law_signs, qs]
  have st2 : evS tab (evF tab (k + 9)) (ev2 tab (k + 9)).2 (.asg (.nm 3) (.call "_law_rows" [(.v 0), (.v 2), (.int 6)] [])) (gRo b1 s1 (.fz (.str l)) s3 s4 s5 s6 s7 s8 s9 s10 s11 s12 s13) = some (.ok .nx (gRo b2 s1 (.fz (.str l)) (.fz (rowsV R)) s4 s5 s6 s7 s8 s9 s10 s11 s12 s13)) := by
    simp [gRo, evE.eq_1, evE.eq_2, evE.eq_3, evE.eq_4, evE.eq_5, evE.eq_6, evE.eq_7, evE.eq_8, evE.eq_9, evE.eq_10, evE.eq_11, evE.eq_12, evE.eq_13, evE.eq_14, evE.eq_15, evE.eq_16, evE.eq_17, evE.eq_18, evE.eq_19, evE.eq_20, evE.eq_21, evE.eq_25, evE.eq_26, evE.eq_27, evE.eq_28, evE.eq_31, evSs, evS, evOp, evC, evEs, opnd, Opd.val, Slot.val, slotAt, fixv, isiV, isiF, typ, asBool, cmpF, endF, keptIo, lift, pur, bltF, len, assn, assns, evE.eq_22, evAs, argOf, callF, ioNd, order, finish, putBack, Arg.slot, Arg.isN, Arg.isAt, Arg.isV, ownAt, newArg, idxF, ixN, binF, fn__law_rows, ir__law_rows, qr]
  have hmk : (ev2 tab (k + 9)).2 = evF tab (k + 8) := mkc_succ tab (k + 8)
  have fn : tab.fn ("Machine" ++ ".__init__") = some ir_Machine___init__ := fn_Machine___init__
  have nm : "Machine" ++ ".__init__" = "Machine.__init__" := rfl
  have mk : ∀ (i j : Nat) (R' : List RowI) (ρ : Ro), ρ[i]? = some (.fz (.str l)) → ρ[j]? = some (.fz (rowsV R')) → GoodM l R' → evE tab (evF tab (k + 9)) (ev2 tab (k + 9)).2 (.mk "Machine" [(.v i), (.v j)] []) ρ = some (.ok (.ow (machV l R')) ρ) := by
    intro i j R' ρ hi hj M'
    have qi' := q_init (k + 5) M' qa
    have v2 : evE tab (evF tab (k + 9)) (ev2 tab (k + 9)).2 (.v i) ρ = some (.ok (.fz (.str l)) ρ) := by simp [evE_v, slotAt, hi, pur]
    have v3 : evE tab (evF tab (k + 9)) (ev2 tab (k + 9)).2 (.v j) ρ = some (.ok (.fz (rowsV R')) ρ) := by simp [evE_v, slotAt, hj, pur]
    simp only [evE_mk fn, evEs, v2, v3, bnd_ok, fixv, pur, bnd_pur, List.map_cons, List.map_nil]
    rw [nm, hmk, qi']
    rfl
  have st3 : evS tab (evF tab (k + 9)) (ev2 tab (k + 9)).2 (.par [4, 5] [(.mk "Machine" [(.v 2), (.v 3)] []), (.lrg (.blt .len [(.v 3)]))]) (gRo b2 s1 (.fz (.str l)) (.fz (rowsV R)) s4 s5 s6 s7 s8 s9 s10 s11 s12 s13) = some (.ok .nx (gRo b2 s1 (.fz (.str l)) (.fz (rowsV R)) (.ow (machV l R)) (.ow (.lst ((zeroTo R.length).map .int))) s6 s7 s8 s9 s10 s11 s12 s13)) := by
    have m1 := mk 2 3 R (gRo b2 s1 (.fz (.str l)) (.fz (rowsV R)) s4 s5 s6 s7 s8 s9 s10 s11 s12 s13) rfl rfl M
    have hlr : evE tab (evF tab (k + 9)) (ev2 tab (k + 9)).2 (.lrg (.blt .len [(.v 3)])) (gRo b2 s1 (.fz (.str l)) (.fz (rowsV R)) s4 s5 s6 s7 s8 s9 s10 s11 s12 s13) = some (.ok (.ow (.lst ((zeroTo R.length).map .int))) (gRo b2 s1 (.fz (.str l)) (.fz (rowsV R)) s4 s5 s6 s7 s8 s9 s10 s11 s12 s13)) := by
      simp [gRo, evE.eq_1, evE.eq_2, evE.eq_3, evE.eq_4, evE.eq_5, evE.eq_6, evE.eq_7, evE.eq_8, evE.eq_9, evE.eq_10, evE.eq_11, evE.eq_12, evE.eq_13, evE.eq_14, evE.eq_15, evE.eq_16, evE.eq_17, evE.eq_18, evE.eq_19, evE.eq_20, evE.eq_21, evE.eq_25, evE.eq_26, evE.eq_27, evE.eq_28, evE.eq_31, evSs, evS, evOp, evC, evEs, opnd, Opd.val, Slot.val, slotAt, fixv, isiV, isiF, typ, asBool, cmpF, endF, keptIo, lift, pur, bltF, len, assn, assns, evE_lrg, rowsV, rngF, hz, rng_zero]
    simp only [evS, evSl, m1, hlr, bnd_ok, pur, bnd_pur]
    rfl
  let A1 (b : Int × Int × Int) (s4 s5 s6 s7 s8 s9 s10 s11 s12 s13 : Slot) : Ro := gRo b s1 (.fz (.str l)) (.fz (rowsV R)) s4 s5 s6 s7 s8 s9 s10 s11 s12 s13
  have st4 : evS tab (evF tab (k + 9)) (ev2 tab (k + 9)).2 (.par [6, 7] [(.call "_law_ends_in" [(.v 3), (.int 0)] []), (.call "_law_ends_in" [(.v 3), (.int 1)] [])]) (A1 b2 (.ow (machV l R)) (.ow (.lst ((zeroTo R.length).map .int))) s6 s7 s8 s9 s10 s11 s12 s13) = some (.ok .nx (A1 b2 (.ow (machV l R)) (.ow (.lst ((zeroTo R.length).map .int))) (.ow (.lst (E0.map .int))) (.ow (.lst (E1.map .int))) s8 s9 s10 s11 s12 s13)) := by
    have c1 : evE tab (evF tab (k + 9)) (ev2 tab (k + 9)).2 (.call "_law_ends_in" [(.v 3), (.int 0)] []) (A1 b2 (.ow (machV l R)) (.ow (.lst ((zeroTo R.length).map .int))) s6 s7 s8 s9 s10 s11 s12 s13) = some (.ok (.ow (.lst (E0.map .int))) (A1 b2 (.ow (machV l R)) (.ow (.lst ((zeroTo R.length).map .int))) s6 s7 s8 s9 s10 s11 s12 s13)) := by
      simp [A1, gRo, evE.eq_1, evE.eq_2, evE.eq_3, evE.eq_4, evE.eq_5, evE.eq_6, evE.eq_7, evE.eq_8, evE.eq_9, evE.eq_10, evE.eq_11, evE.eq_12, evE.eq_13, evE.eq_14, evE.eq_15, evE.eq_16, evE.eq_17, evE.eq_18, evE.eq_19, evE.eq_20, evE.eq_21, evE.eq_25, evE.eq_26, evE.eq_27, evE.eq_28, evE.eq_31, evSs, evS, evOp, evC, evEs, opnd, Opd.val, Slot.val, slotAt, fixv, isiV, isiF, typ, asBool, cmpF, endF, keptIo, lift, pur, bltF, len, assn, assns, evE.eq_22, evAs, argOf, callF, ioNd, order, finish, putBack, Arg.slot, Arg.isN, Arg.isAt, Arg.isV, ownAt, newArg, idxF, ixN, binF, fn__law_ends_in, ir__law_ends_in, qe0]
    have c2 : evE tab (evF tab (k + 9)) (ev2 tab (k + 9)).2 (.call "_law_ends_in" [(.v 3), (.int 1)] []) (A1 b2 (.ow (machV l R)) (.ow (.lst ((zeroTo R.length).map .int))) s6 s7 s8 s9 s10 s11 s12 s13) = some (.ok (.ow (.lst (E1.map .int))) (A1 b2 (.ow (machV l R)) (.ow (.lst ((zeroTo R.length).map .int))) s6 s7 s8 s9 s10 s11 s12 s13)) := by
      simp [A1, gRo, evE.eq_1, evE.eq_2, evE.eq_3, evE.eq_4, evE.eq_5, evE.eq_6, evE.eq_7, evE.eq_8, evE.eq_9, evE.eq_10, evE.eq_11, evE.eq_12, evE.eq_13, evE.eq_14, evE.eq_15, evE.eq_16, evE.eq_17, evE.eq_18, evE.eq_19, evE.eq_20, evE.eq_21, evE.eq_25, evE.eq_26, evE.eq_27, evE.eq_28, evE.eq_31, evSs, evS, evOp, evC, evEs, opnd, Opd.val, Slot.val, slotAt, fixv, isiV, isiF, typ, asBool, cmpF, endF, keptIo, lift, pur, bltF, len, assn, assns, evE.eq_22, evAs, argOf, callF, ioNd, order, finish, putBack, Arg.slot, Arg.isN, Arg.isAt, Arg.isV, ownAt, newArg, idxF, ixN, binF, fn__law_ends_in, ir__law_ends_in, qe1]
    simp only [evS, evSl, c1, c2, bnd_ok, pur, bnd_pur]
    rfl
  let A2 (b : Int × Int × Int) (s4 s9 s10 s11 s12 s13 : Slot) : Ro := A1 b s4 (.fz (.lst ((zeroTo R.length).map .int))) (.ow (.lst (E0.map .int))) (.ow (.lst (E1.map .int))) (.ow (.lst (S.map .int))) s9 s10 s11 s12 s13
  have st5 : evS tab (evF tab (k + 9)) (ev2 tab (k + 9)).2 (.par [8, 9] [gL5, (.bl true)]) (A1 b2 (.ow (machV l R)) (.ow (.lst ((zeroTo R.length).map .int))) (.ow (.lst (E0.map .int))) (.ow (.lst (E1.map .int))) s8 s9 s10 s11 s12 s13) = some (.ok .nx (A2 b2 (.ow (machV l R)) (.fz (.bl true)) s10 s11 s12 s13)) := by
    have hit : evIt tab (evF tab (k + 9)) (ev2 tab (k + 9)).2 (.seq (.v 5)) (A1 b2 (.ow (machV l R)) (.ow (.lst ((zeroTo R.length).map .int))) (.ow (.lst (E0.map .int))) (.ow (.lst (E1.map .int))) s8 s9 s10 s11 s12 s13) = some (.ok ((zeroTo R.length).map .int) (A1 b2 (.ow (machV l R)) (.fz (.lst ((zeroTo R.length).map .int))) (.ow (.lst (E0.map .int))) (.ow (.lst (E1.map .int))) s8 s9 s10 s11 s12 s13)) := by
      simp [evIt, A1, gRo, evE.eq_1, evE.eq_2, evE.eq_3, evE.eq_4, evE.eq_5, evE.eq_6, evE.eq_7, evE.eq_8, evE.eq_9, evE.eq_10, evE.eq_11, evE.eq_12, evE.eq_13, evE.eq_14, evE.eq_15, evE.eq_16, evE.eq_17, evE.eq_18, evE.eq_19, evE.eq_20, evE.eq_21, evE.eq_25, evE.eq_26, evE.eq_27, evE.eq_28, evE.eq_31, evSs, evS, evOp, evC, evEs, opnd, Opd.val, Slot.val, slotAt, fixv, isiV, isiF, typ, asBool, cmpF, endF, keptIo, lift, pur, bltF, len, assn, assns, itemsF]
    have hlc := ev_lcB Val.int (fun p => if decide (p ∉ E0) || decide (p ∉ E1) then some (Val.int p) else none) hit (ns := [10]) (t := .nm 10) (c := (some (.or (.cmp .notin (.v 10) (.v 6)) (.cmp .notin (.v 10) (.v 7))))) (e := .v 10) (by rw [zeroTo_len]; unfold cap; omega) (clean_not (s := s10) rfl h10) rfl (fun p _ => by
      refine ⟨A1 b2 (.ow (machV l R)) (.fz (.lst ((zeroTo R.length).map .int))) (.ow (.lst (E0.map .int))) (.ow (.lst (E1.map .int))) s8 s9 (.fz (.int p)) s11 s12 s13, A1 b2 (.ow (machV l R)) (.fz (.lst ((zeroTo R.length).map .int))) (.ow (.lst (E0.map .int))) (.ow (.lst (E1.map .int))) s8 s9 (.fz (.int p)) s11 s12 s13, rfl, ?_, rfl⟩
      have i0 := inI p E0
      have i1 := inI p E1
      by_cases hq : p ∈ E0 <;> by_cases hq1 : p ∈ E1 <;> simp [lcF, A1, gRo, evE.eq_1, evE.eq_2, evE.eq_3, evE.eq_4, evE.eq_5, evE.eq_6, evE.eq_7, evE.eq_8, evE.eq_9, evE.eq_10, evE.eq_11, evE.eq_12, evE.eq_13, evE.eq_14, evE.eq_15, evE.eq_16, evE.eq_17, evE.eq_18, evE.eq_19, evE.eq_20, evE.eq_21, evE.eq_25, evE.eq_26, evE.eq_27, evE.eq_28, evE.eq_31, evSs, evS, evOp, evC, evEs, opnd, Opd.val, Slot.val, slotAt, fixv, isiV, isiF, typ, asBool, cmpF, endF, keptIo, lift, pur, bltF, len, assn, assns, i0, i1, hq, hq1])
    rw [fm_if (fun p => decide (p ∉ E0) || decide (p ∉ E1)), hS] at hlc
    have hbt : ∀ ρ, evE tab (evF tab (k + 9)) (ev2 tab (k + 9)).2 (.bl true) ρ = some (.ok (.fz (.bl true)) ρ) := fun ρ => by simp [evE.eq_1, evE.eq_2, evE.eq_3, evE.eq_4, evE.eq_5, evE.eq_6, evE.eq_7, evE.eq_8, evE.eq_9, evE.eq_10, evE.eq_11, evE.eq_12, evE.eq_13, evE.eq_14, evE.eq_15, evE.eq_16, evE.eq_17, evE.eq_18, evE.eq_19, evE.eq_20, evE.eq_21, evE.eq_25, evE.eq_26, evE.eq_27, evE.eq_28, evE.eq_31, evSs, evS, evOp, evC, evEs, opnd, Opd.val, Slot.val, slotAt, fixv, isiV, isiF, typ, asBool, cmpF, endF, keptIo, lift, pur, bltF, len, assn, assns]
    simp only [evS, evSl, hlc, hbt, bnd_ok, pur, bnd_pur]
    rfl
  have body6 : ∀ (q : Int) (d : Bool) (s11 : Slot), q ∈ zeroTo R.length → ∃ s11', evSs tab (evF tab (k + 9)) (ev2 tab (k + 9)).2 gI6 (A2 b2 (.ow (machV l R)) (.fz (.bl d)) (.fz (.int q)) s11 s12 s13) = some (.ok .nx (A2 b2 (.ow (machV l R)) (.fz (.bl (d && decide (Pq q)))) (.fz (.int q)) s11' s12 s13)) := by
    intro q d s11 hq
    obtain ⟨G, qf, gnd, gm⟩ := q_from (k + 8) M hq (X := zeroTo R.length) (fun _ h => h) (by rw [zeroTo_len]; omega)
    have hG : G.length ≤ 6 := by
      have := nodup_le gnd (m := zeroTo R.length) (fun x hx => ((gm x).mp hx).inn)
      rw [zeroTo_len] at this
      omega
    obtain ⟨Y, hY⟩ : ∃ Y, G.filter (fun g => decide (g ∈ S)) = Y := ⟨_, rfl⟩
    refine ⟨.ow (.lst (Y.map .int)), ?_⟩
    have hit : evIt tab (evF tab (k + 9)) (ev2 tab (k + 9)).2 (.seq (.call "_law_from" [(.v 3), (.v 10), (.v 5)] [])) (A2 b2 (.ow (machV l R)) (.fz (.bl d)) (.fz (.int q)) s11 s12 s13) = some (.ok (G.map .int) (A2 b2 (.ow (machV l R)) (.fz (.bl d)) (.fz (.int q)) s11 s12 s13)) := by
      simp [evIt, A2, A1, gRo, evE.eq_1, evE.eq_2, evE.eq_3, evE.eq_4, evE.eq_5, evE.eq_6, evE.eq_7, evE.eq_8, evE.eq_9, evE.eq_10, evE.eq_11, evE.eq_12, evE.eq_13, evE.eq_14, evE.eq_15, evE.eq_16, evE.eq_17, evE.eq_18, evE.eq_19, evE.eq_20, evE.eq_21, evE.eq_25, evE.eq_26, evE.eq_27, evE.eq_28, evE.eq_31, evSs, evS, evOp, evC, evEs, opnd, Opd.val, Slot.val, slotAt, fixv, isiV, isiF, typ, asBool, cmpF, endF, keptIo, lift, pur, bltF, len, assn, assns, evE.eq_22, evAs, argOf, callF, ioNd, order, finish, putBack, Arg.slot, Arg.isN, Arg.isAt, Arg.isV, ownAt, newArg, idxF, ixN, binF, fn__law_from, ir__law_from, qf, itemsF]
    have hlc := ev_lcB Val.int (fun g => if decide (g ∈ S) then some (Val.int g) else none) hit (ns := [13]) (t := .nm 13) (c := (some (.cmp .isin (.v 13) (.v 8)))) (e := .v 13) (by unfold cap; omega) (clean_not (s := s13) rfl h13) rfl (fun g _ => by
      refine ⟨A2 b2 (.ow (machV l R)) (.fz (.bl d)) (.fz (.int q)) s11 s12 (.fz (.int g)), A2 b2 (.ow (machV l R)) (.fz (.bl d)) (.fz (.int q)) s11 s12 (.fz (.int g)), rfl, ?_, rfl⟩
      have i2 := inI g S
      by_cases hg : g ∈ S <;> simp [lcF, A2, A1, gRo, evE.eq_1, evE.eq_2, evE.eq_3, evE.eq_4, evE.eq_5, evE.eq_6, evE.eq_7, evE.eq_8, evE.eq_9, evE.eq_10, evE.eq_11, evE.eq_12, evE.eq_13, evE.eq_14, evE.eq_15, evE.eq_16, evE.eq_17, evE.eq_18, evE.eq_19, evE.eq_20, evE.eq_21, evE.eq_25, evE.eq_26, evE.eq_27, evE.eq_28, evE.eq_31, evSs, evS, evOp, evC, evEs, opnd, Opd.val, Slot.val, slotAt, fixv, isiV, isiF, typ, asBool, cmpF, endF, keptIo, lift, pur, bltF, len, assn, assns, i2, hg])
    rw [fm_if, hY] at hlc
    have b1 : evS tab (evF tab (k + 9)) (ev2 tab (k + 9)).2 (.asg (.nm 11) gL6) (A2 b2 (.ow (machV l R)) (.fz (.bl d)) (.fz (.int q)) s11 s12 s13) = some (.ok .nx (A2 b2 (.ow (machV l R)) (.fz (.bl d)) (.fz (.int q)) (.ow (.lst (Y.map .int))) s12 s13)) := by
      simp only [evS, hlc, bnd_ok]
      rfl
    have hP : (decide (q ∈ S) || !Y.isEmpty) = decide (Pq q) := by
      refine Bool.eq_iff_iff.mpr ?_
      rw [Bool.or_eq_true, decide_eq_true_iff, Bool.not_eq_true', ← Bool.not_eq_true, List.isEmpty_iff, ← hY, List.filter_eq_nil_iff, decide_eq_true_iff]
      constructor
      · rintro (h | h)
        · exact ⟨q, .refl, ((hSm q).mp h).2⟩
        · refine Classical.byContradiction fun z => h fun g hg => ?_
          rw [decide_eq_true_iff]
          exact fun hgs => z ⟨g, .inr ((gm g).mp hg), ((hSm g).mp hgs).2⟩
      · rintro ⟨e, he, hse⟩
        rcases he with rfl | he
        · exact .inl ((hSm q).mpr ⟨hq, hse⟩)
        · exact .inr fun z => absurd (decide_eq_true ((hSm e).mpr ⟨he.inn, hse⟩)) (z e ((gm e).mpr he))
    have b2' : evS tab (evF tab (k + 9)) (ev2 tab (k + 9)).2 (.asg (.nm 9) (.and (.v 9) (.or (.cmp .isin (.v 10) (.v 8)) (.cmp .ne (.v 11) (.lst []))))) (A2 b2 (.ow (machV l R)) (.fz (.bl d)) (.fz (.int q)) (.ow (.lst (Y.map .int))) s12 s13) = some (.ok .nx (A2 b2 (.ow (machV l R)) (.fz (.bl (d && decide (Pq q)))) (.fz (.int q)) (.ow (.lst (Y.map .int))) s12 s13)) := by
      have i2 := inI q S
      have i3 := eq_nil Y
      have c0 : 0 ≤ cap := Nat.zero_le _
      rw [← hP]
      cases d
      · simp [A2, A1, gRo, evE.eq_1, evE.eq_2, evE.eq_3, evE.eq_4, evE.eq_5, evE.eq_6, evE.eq_7, evE.eq_8, evE.eq_9, evE.eq_10, evE.eq_11, evE.eq_12, evE.eq_13, evE.eq_14, evE.eq_15, evE.eq_16, evE.eq_17, evE.eq_18, evE.eq_19, evE.eq_20, evE.eq_21, evE.eq_25, evE.eq_26, evE.eq_27, evE.eq_28, evE.eq_31, evSs, evS, evOp, evC, evEs, opnd, Opd.val, Slot.val, slotAt, fixv, isiV, isiF, typ, asBool, cmpF, endF, keptIo, lift, pur, bltF, len, assn, assns]
      · by_cases hqs : q ∈ S
        · simp [A2, A1, gRo, evE.eq_1, evE.eq_2, evE.eq_3, evE.eq_4, evE.eq_5, evE.eq_6, evE.eq_7, evE.eq_8, evE.eq_9, evE.eq_10, evE.eq_11, evE.eq_12, evE.eq_13, evE.eq_14, evE.eq_15, evE.eq_16, evE.eq_17, evE.eq_18, evE.eq_19, evE.eq_20, evE.eq_21, evE.eq_25, evE.eq_26, evE.eq_27, evE.eq_28, evE.eq_31, evSs, evS, evOp, evC, evEs, opnd, Opd.val, Slot.val, slotAt, fixv, isiV, isiF, typ, asBool, cmpF, endF, keptIo, lift, pur, bltF, len, assn, assns, i2, hqs]
        · simp [A2, A1, gRo, evE.eq_1, evE.eq_2, evE.eq_3, evE.eq_4, evE.eq_5, evE.eq_6, evE.eq_7, evE.eq_8, evE.eq_9, evE.eq_10, evE.eq_11, evE.eq_12, evE.eq_13, evE.eq_14, evE.eq_15, evE.eq_16, evE.eq_17, evE.eq_18, evE.eq_19, evE.eq_20, evE.eq_21, evE.eq_25, evE.eq_26, evE.eq_27, evE.eq_28, evE.eq_31, evSs, evS, evOp, evC, evEs, opnd, Opd.val, Slot.val, slotAt, fixv, isiV, isiF, typ, asBool, cmpF, endF, keptIo, lift, pur, bltF, len, assn, assns, i2, hqs, i3]
    exact evSs_2 b1 (evSs_1 b2')
  have hFD : ∀ q ∈ F, q ∈ zeroTo R.length := fun q hq => by
    rcases (hFm q).mp hq with rfl | h
    · exact zero_in M
    · exact h.inn
  obtain ⟨ρ', h6, s10', s11', w, rfl, h10', hw0⟩ := forF_inv (body := evSs tab (evF tab (k + 9)) (ev2 tab (k + 9)).2 gI6) (t := .nm 10) (fun n ρ => ∃ s10 s11 d, ρ = A2 b2 (.ow (machV l R)) (.fz (.bl d)) s10 s11 s12 s13 ∧ (∀ v, s10 ≠ .ow v) ∧ (d = true ↔ ∀ q ∈ F.take n, Pq q)) (F.map .int) 0 (A2 b2 (.ow (machV l R)) (.fz (.bl true)) s10 s11 s12 s13) ⟨s10, s11, true, rfl, h10, by simp⟩ (fun n x ρ hx hI => by
    obtain ⟨t10, t11, d, rfl, _, hd⟩ := hI
    rw [List.getElem?_map] at hx
    obtain ⟨q, hq, rfl⟩ := Option.map_eq_some_iff.mp hx
    obtain ⟨s11', hb⟩ := body6 q d t11 (hFD q (List.mem_of_getElem? hq))
    refine ⟨A2 b2 (.ow (machV l R)) (.fz (.bl d)) (.fz (.int q)) t11 s12 s13, _, rfl, hb, .fz (.int q), s11', d && decide (Pq q), rfl, nofun, ?_⟩
    rw [Bool.and_eq_true, decide_eq_true_iff, hd, Nat.zero_add, List.take_add_one, hq]
    constructor
    · rintro ⟨h1, h2⟩ p hp
      rcases List.mem_append.mp hp with z | z
      · exact h1 p z
      · have : p = q := by simpa using z
        rw [this]; exact h2
    · intro h
      exact ⟨fun p hp => h p (List.mem_append_left _ hp), h q (List.mem_append_right _ (by simp))⟩)
  have hw : decide (Wat (AI R) (C0 R) (zeroTo R.length) 0) = w := by
    refine Bool.eq_iff_iff.mpr ?_
    rw [decide_eq_true_iff, hw0, Nat.zero_add, List.length_map, List.take_of_length_le (Nat.le_refl _)]
    exact ⟨fun h q hq => h q ((hFm q).mp hq), fun h q hq => h q ((hFm q).mpr hq)⟩
  rw [hw] at qw
  have st6 : evS tab (evF tab (k + 9)) (ev2 tab (k + 9)).2 (.for_ (.nm 10) (.seq (.call "_law_reached" [(.v 3)] [])) gI6) (A2 b2 (.ow (machV l R)) (.fz (.bl true)) s10 s11 s12 s13) = some (.ok .nx (A2 b2 (.ow (machV l R)) (.fz (.bl w)) s10' s11' s12 s13)) := by
    have hit : evIt tab (evF tab (k + 9)) (ev2 tab (k + 9)).2 (.seq (.call "_law_reached" [(.v 3)] [])) (A2 b2 (.ow (machV l R)) (.fz (.bl true)) s10 s11 s12 s13) = some (.ok (F.map .int) (A2 b2 (.ow (machV l R)) (.fz (.bl true)) s10 s11 s12 s13)) := by
      simp [evIt, A2, A1, gRo, evE.eq_1, evE.eq_2, evE.eq_3, evE.eq_4, evE.eq_5, evE.eq_6, evE.eq_7, evE.eq_8, evE.eq_9, evE.eq_10, evE.eq_11, evE.eq_12, evE.eq_13, evE.eq_14, evE.eq_15, evE.eq_16, evE.eq_17, evE.eq_18, evE.eq_19, evE.eq_20, evE.eq_21, evE.eq_25, evE.eq_26, evE.eq_27, evE.eq_28, evE.eq_31, evSs, evS, evOp, evC, evEs, opnd, Opd.val, Slot.val, slotAt, fixv, isiV, isiF, typ, asBool, cmpF, endF, keptIo, lift, pur, bltF, len, assn, assns, evE.eq_22, evAs, argOf, callF, ioNd, order, finish, putBack, Arg.slot, Arg.isN, Arg.isAt, Arg.isV, ownAt, newArg, idxF, ixN, binF, fn__law_reached, ir__law_reached, qre, itemsF]
    rw [evS_for, hit, bnd_ok, if_pos (by rw [List.length_map]; unfold cap; omega), h6]
  obtain ⟨tx, hr1, hr2⟩ := repr_bl w
  have st7 : evS tab (evF tab (k + 9)) (ev2 tab (k + 9)).2 gS7 (A2 b2 (.ow (machV l R)) (.fz (.bl w)) s10' s11' s12 s13) = some (.ok .nx (A2 b2 (.fz (machV l R)) (.fz (.bl w)) s10' s11' s12 s13)) := by
    have a1 : evE tab (evF tab (k + 9)) (ev2 tab (k + 9)).2 (.call "is_watchable" [(.v 4)] []) (A2 b2 (.ow (machV l R)) (.fz (.bl w)) s10' s11' s12 s13) = some (.ok (.fz (.bl w)) (A2 b2 (.fz (machV l R)) (.fz (.bl w)) s10' s11' s12 s13)) := by
      simp [A2, A1, gRo, evE.eq_1, evE.eq_2, evE.eq_3, evE.eq_4, evE.eq_5, evE.eq_6, evE.eq_7, evE.eq_8, evE.eq_9, evE.eq_10, evE.eq_11, evE.eq_12, evE.eq_13, evE.eq_14, evE.eq_15, evE.eq_16, evE.eq_17, evE.eq_18, evE.eq_19, evE.eq_20, evE.eq_21, evE.eq_25, evE.eq_26, evE.eq_27, evE.eq_28, evE.eq_31, evSs, evS, evOp, evC, evEs, opnd, Opd.val, Slot.val, slotAt, fixv, isiV, isiF, typ, asBool, cmpF, endF, keptIo, lift, pur, bltF, len, assn, assns, evE.eq_22, evAs, argOf, callF, ioNd, order, finish, putBack, Arg.slot, Arg.isN, Arg.isAt, Arg.isV, ownAt, newArg, idxF, ixN, binF, fn_is_watchable, ir_is_watchable, qw]
    have a2 : evE tab (evF tab (k + 9)) (ev2 tab (k + 9)).2 (.call "is_watchable" [(.v 4)] ["machine"]) (A2 b2 (.fz (machV l R)) (.fz (.bl w)) s10' s11' s12 s13) = some (.ok (.fz (.bl w)) (A2 b2 (.fz (machV l R)) (.fz (.bl w)) s10' s11' s12 s13)) := by
      simp [A2, A1, gRo, evE.eq_1, evE.eq_2, evE.eq_3, evE.eq_4, evE.eq_5, evE.eq_6, evE.eq_7, evE.eq_8, evE.eq_9, evE.eq_10, evE.eq_11, evE.eq_12, evE.eq_13, evE.eq_14, evE.eq_15, evE.eq_16, evE.eq_17, evE.eq_18, evE.eq_19, evE.eq_20, evE.eq_21, evE.eq_25, evE.eq_26, evE.eq_27, evE.eq_28, evE.eq_31, evSs, evS, evOp, evC, evEs, opnd, Opd.val, Slot.val, slotAt, fixv, isiV, isiF, typ, asBool, cmpF, endF, keptIo, lift, pur, bltF, len, assn, assns, evE.eq_22, evAs, argOf, callF, ioNd, order, finish, putBack, Arg.slot, Arg.isN, Arg.isAt, Arg.isV, ownAt, newArg, idxF, ixN, binF, fn_is_watchable, ir_is_watchable, byName, kwEnd, qw]
    have v9 : evE tab (evF tab (k + 9)) (ev2 tab (k + 9)).2 (.v 9) (A2 b2 (.fz (machV l R)) (.fz (.bl w)) s10' s11' s12 s13) = some (.ok (.fz (.bl w)) (A2 b2 (.fz (machV l R)) (.fz (.bl w)) s10' s11' s12 s13)) := rfl
    have a3 : evE tab (evF tab (k + 9)) (ev2 tab (k + 9)).2 (.blt .repr [(.lst [(.call "is_watchable" [(.v 4)] []), (.call "is_watchable" [(.v 4)] ["machine"])])]) (A2 b2 (.ow (machV l R)) (.fz (.bl w)) s10' s11' s12 s13) = some (.ok (.fz (.str tx)) (A2 b2 (.fz (machV l R)) (.fz (.bl w)) s10' s11' s12 s13)) := by
      simp only [evE_blt1, opnd, evE_lst, evEs, a1, a2, bnd_ok, bnd_pur, pur, fixv, List.length_cons, List.length_nil]
      rw [if_pos (by unfold cap; omega)]
      simp only [bnd_ok, Opd.val, Option.bind_some, hr1, lift, pur]
    have a4 : evE tab (evF tab (k + 9)) (ev2 tab (k + 9)).2 (.blt .repr [(.lst [(.v 9), (.v 9)])]) (A2 b2 (.fz (machV l R)) (.fz (.bl w)) s10' s11' s12 s13) = some (.ok (.fz (.str tx)) (A2 b2 (.fz (machV l R)) (.fz (.bl w)) s10' s11' s12 s13)) := by
      simp only [evE_blt1, opnd, evE_lst, evEs, v9, bnd_ok, bnd_pur, pur, fixv, List.length_cons, List.length_nil]
      rw [if_pos (by unfold cap; omega)]
      simp only [bnd_ok, Opd.val, Option.bind_some, hr1, lift, pur]
    rw [evS_ife, evE_cmp]
    simp only [opnd, a3, a4, bnd_ok, pur, Opd.val, Option.bind_some, cmpF, eqF, hr2, Bool.and_self, if_true, Option.map_some, lift, asBool]
    have : eqv (.str tx) (.str tx) = true := by simp [eqv]
    simp only [this, Bool.not_true, Bool.false_eq_true, if_false, evSs, pur]
  have st8 : evS tab (evF tab (k + 9)) (ev2 tab (k + 9)).2 gS8 (A2 b2 (.fz (machV l R)) (.fz (.bl w)) s10' s11' s12 s13) = some (.ok .nx (A2 b3 (.fz (machV l R)) (.fz (.bl w)) s10' s11' (.fz (rowsV (R ++ [(c7, List.replicate l.length 0)]))) s13)) := by
    have c1 : (1 : Int) ≤ (l.length : Nat) ∧ ((l.length : Nat) : Int) ≤ 1000 := by omega
    have c2 : R.length + 1 ≤ cap := by unfold cap; omega
    have c3 : 2 ≤ cap := by unfold cap; omega
    have c4 : 1 ≤ cap := by unfold cap; omega
    have c5 : l.length ≤ cap := by unfold cap; omega
    simp [A2, A1, gRo, evE.eq_1, evE.eq_2, evE.eq_3, evE.eq_4, evE.eq_5, evE.eq_6, evE.eq_7, evE.eq_8, evE.eq_9, evE.eq_10, evE.eq_11, evE.eq_12, evE.eq_13, evE.eq_14, evE.eq_15, evE.eq_16, evE.eq_17, evE.eq_18, evE.eq_19, evE.eq_20, evE.eq_21, evE.eq_25, evE.eq_26, evE.eq_27, evE.eq_28, evE.eq_31, evSs, evS, evOp, evC, evEs, opnd, Opd.val, Slot.val, slotAt, fixv, isiV, isiF, typ, asBool, cmpF, endF, keptIo, lift, pur, bltF, len, assn, assns, evE.eq_22, evAs, argOf, callF, ioNd, order, finish, putBack, Arg.slot, Arg.isN, Arg.isAt, Arg.isV, ownAt, newArg, idxF, ixN, binF, fn__law_take, ir__law_take, qt, rowsV, rowV, c1, c2, c3, c4, c5, repV_zero]
  have st9 : evS tab (evF tab (k + 9)) (ev2 tab (k + 9)).2 gS9 (A2 b3 (.fz (machV l R)) (.fz (.bl w)) s10' s11' (.fz (rowsV (R ++ [(c7, List.replicate l.length 0)]))) s13) = some (.ok .nx (A2 b3 (.fz (machV l R)) (.fz (.bl w)) s10' s11' (.fz (rowsV (R ++ [(c7, List.replicate l.length 0)]))) s13)) := by
    have t1 : evE tab (evF tab (k + 9)) (ev2 tab (k + 9)).2 (.cmp .lt (.blt .len [(.v 3)]) (.int 6)) (A2 b3 (.fz (machV l R)) (.fz (.bl w)) s10' s11' (.fz (rowsV (R ++ [(c7, List.replicate l.length 0)]))) s13) = some (.ok (.fz (.bl (decide (R.length < 6)))) (A2 b3 (.fz (machV l R)) (.fz (.bl w)) s10' s11' (.fz (rowsV (R ++ [(c7, List.replicate l.length 0)]))) s13)) := by
      have : decide (((R.length : Nat) : Int) < 6) = decide (R.length < 6) := by
        refine Bool.eq_iff_iff.mpr ?_
        rw [decide_eq_true_iff, decide_eq_true_iff]; omega
      simp [A2, A1, gRo, evE.eq_1, evE.eq_2, evE.eq_3, evE.eq_4, evE.eq_5, evE.eq_6, evE.eq_7, evE.eq_8, evE.eq_9, evE.eq_10, evE.eq_11, evE.eq_12, evE.eq_13, evE.eq_14, evE.eq_15, evE.eq_16, evE.eq_17, evE.eq_18, evE.eq_19, evE.eq_20, evE.eq_21, evE.eq_25, evE.eq_26, evE.eq_27, evE.eq_28, evE.eq_31, evSs, evS, evOp, evC, evEs, opnd, Opd.val, Slot.val, slotAt, fixv, isiV, isiF, typ, asBool, cmpF, endF, keptIo, lift, pur, bltF, len, assn, assns, rowsV]
      omega
    have hand : evE tab (evF tab (k + 9)) (ev2 tab (k + 9)).2 (.and (.cmp .lt (.blt .len [(.v 3)]) (.int 6)) (.cmp .ne (.call "is_watchable" [(.mk "Machine" [(.v 2), (.v 12)] [])] []) (.v 9))) (A2 b3 (.fz (machV l R)) (.fz (.bl w)) s10' s11' (.fz (rowsV (R ++ [(c7, List.replicate l.length 0)]))) s13) = some (.ok (.fz (.bl false)) (A2 b3 (.fz (machV l R)) (.fz (.bl w)) s10' s11' (.fz (rowsV (R ++ [(c7, List.replicate l.length 0)]))) s13)) := by
      rw [evE_andL, t1, bnd_ok]
      simp only [asBool, pur, bnd_ok]
      by_cases h6 : R.length < 6
      · rw [if_pos (decide_eq_true h6)]
        have M' := M.wide h6 d7.1 (by omega : c7 ≤ 6)
        have m1 := mk 2 12 _ (A2 b3 (.fz (machV l R)) (.fz (.bl w)) s10' s11' (.fz (rowsV (R ++ [(c7, List.replicate l.length 0)]))) s13) rfl rfl M'
        have qw' := q_is_watchable k M'
        have e1 : decide (Wat (AI (R ++ [(c7, List.replicate l.length 0)])) (C0 (R ++ [(c7, List.replicate l.length 0)])) (zeroTo (R ++ [(c7, List.replicate l.length 0)]).length) 0) = w := by
          rw [← hw]
          refine Bool.eq_iff_iff.mpr ?_
          rw [decide_eq_true_iff, decide_eq_true_iff]
          exact wide_wat M _
        rw [e1] at qw'
        have hc : evE tab (evF tab (k + 9)) (ev2 tab (k + 9)).2 (.call "is_watchable" [(.mk "Machine" [(.v 2), (.v 12)] [])] []) (A2 b3 (.fz (machV l R)) (.fz (.bl w)) s10' s11' (.fz (rowsV (R ++ [(c7, List.replicate l.length 0)]))) s13) = some (.ok (.fz (.bl w)) (A2 b3 (.fz (machV l R)) (.fz (.bl w)) s10' s11' (.fz (rowsV (R ++ [(c7, List.replicate l.length 0)]))) s13)) :=
          ev_callV fn_is_watchable rfl (vs := [machV l (R ++ [(c7, List.replicate l.length 0)])]) (by simp only [evEs, m1, bnd_ok, bnd_pur, fixv, pur]) (fun a ha => by simp at ha) qw'
        have o9 : ∀ m, opnd (.v 9) m (A2 b3 (.fz (machV l R)) (.fz (.bl w)) s10' s11' (.fz (rowsV (R ++ [(c7, List.replicate l.length 0)]))) s13) = some (.ok (.pl 9) (A2 b3 (.fz (machV l R)) (.fz (.bl w)) s10' s11' (.fz (rowsV (R ++ [(c7, List.replicate l.length 0)]))) s13)) := fun _ => rfl
        have v9 : Opd.val (.pl 9) (A2 b3 (.fz (machV l R)) (.fz (.bl w)) s10' s11' (.fz (rowsV (R ++ [(c7, List.replicate l.length 0)]))) s13) = some (.bl w) := rfl
        have eb : eqF (.bl w) (.bl w) = some true := by cases w <;> rfl
        have oc : opnd (.call "is_watchable" [(.mk "Machine" [(.v 2), (.v 12)] [])] []) (evE tab (evF tab (k + 9)) (ev2 tab (k + 9)).2 (.call "is_watchable" [(.mk "Machine" [(.v 2), (.v 12)] [])] [])) (A2 b3 (.fz (machV l R)) (.fz (.bl w)) s10' s11' (.fz (rowsV (R ++ [(c7, List.replicate l.length 0)]))) s13) = some (.ok (.tm (.bl w)) (A2 b3 (.fz (machV l R)) (.fz (.bl w)) s10' s11' (.fz (rowsV (R ++ [(c7, List.replicate l.length 0)]))) s13)) := by
          simp only [opnd, hc, bnd_ok, pur]
        have vt : Opd.val (.tm (.bl w)) (A2 b3 (.fz (machV l R)) (.fz (.bl w)) s10' s11' (.fz (rowsV (R ++ [(c7, List.replicate l.length 0)]))) s13) = some (.bl w) := rfl
        rw [evE_cmp, oc, bnd_ok, o9, bnd_ok, vt, v9]
        simp only [Option.bind_some, cmpF, eb, Option.map_some, lift, pur, Bool.not_true]
      · rw [if_neg (by simp [h6])]
    rw [evS_ife, hand, bnd_ok]
    simp only [asBool, pur, bnd_ok, Bool.false_eq_true, if_false, evSs]
  refine ⟨b3, .fz (.str l), .fz (rowsV R), .fz (machV l R), .fz (.lst ((zeroTo R.length).map .int)), .ow (.lst (E0.map .int)), .ow (.lst (E1.map .int)), .ow (.lst (S.map .int)), .fz (.bl w), s10', s11', .fz (rowsV (R ++ [(c7, List.replicate l.length 0)])), ?_, h10'⟩
  exact evSs_2 st1 (evSs_2 st2 (evSs_2 st3 (evSs_2 st4 (evSs_2 st5 (evSs_2 st6 (evSs_2 st7 (evSs_2 st8 (evSs_1 st9))))))))
theorem q_right (k : Nat) (b : Int × Int × Int) : ∃ b', evF tab (k + 10) "_law_right" [.ow (bagV b)] = some (.ok (.fz (.bl true)) [.ow (bagV b')]) := by
  obtain ⟨ρ', h1, b', r, rfl, hr, hc⟩ := forF_inv (body := evSs tab (evF tab (k + 9)) (ev2 tab (k + 9)).2 gBody) (t := .nm 1) (fun _ ρ => ∃ b r, ρ = .ow (bagV b) :: r ∧ r.length = 13 ∧ clean [10, 13] (.ow (bagV b) :: r) = true) (rng 0 3) 0 [.ow (bagV b), .un, .un, .un, .un, .un, .un, .un, .un, .un, .un, .un, .un, .un] ⟨b, _, rfl, rfl, rfl⟩ (fun n x ρ hx hI => by
    obtain ⟨b, r, rfl, hr, hc⟩ := hI
    match r, hr with
    | [s1, s2, s3, s4, s5, s6, s7, s8, s9, s10, s11, s12, s13], _ =>
      have h10 : ∀ v, s10 ≠ .ow v := fun v e => by subst e; simp [clean] at hc
      have h13 : ∀ v, s13 ≠ .ow v := fun v e => by subst e; simp [clean] at hc
      obtain ⟨b', s2', s3', s4', s5', s6', s7', s8', s9', s10', s11', s12', h, h10'⟩ := g_turn k b (.fz x) s2 s3 s4 s5 s6 s7 s8 s9 s10 s11 s12 s13 h10 h13
      refine ⟨gRo b (.fz x) s2 s3 s4 s5 s6 s7 s8 s9 s10 s11 s12 s13, _, rfl, h, b', _, rfl, rfl, ?_⟩
      cases s10' with
      | ow v => exact absurd rfl (h10' v)
      | fz v => cases s13 with
        | ow v => exact absurd rfl (h13 v)
        | fz v => rfl
        | un => rfl
      | un => cases s13 with
        | ow v => exact absurd rfl (h13 v)
        | fz v => rfl
        | un => rfl)
  refine ⟨b', ?_⟩
  rw [evF_succ, run_def fn__law_right (tab_ext _) rfl]
  have hit : evIt tab (evF tab (k + 9)) (ev2 tab (k + 9)).2 (.rng (.int 3)) [.ow (bagV b), .un, .un, .un, .un, .un, .un, .un, .un, .un, .un, .un, .un, .un] = some (.ok (rng 0 3) [.ow (bagV b), .un, .un, .un, .un, .un, .un, .un, .un, .un, .un, .un, .un, .un]) := by
    have hz : -(cap : Int) ≤ 3 ∧ (3 : Int) ≤ cap := by unfold cap; omega
    simp [evIt, evE.eq_1, evE.eq_2, evE.eq_3, evE.eq_4, evE.eq_5, evE.eq_6, evE.eq_7, evE.eq_8, evE.eq_9, evE.eq_10, evE.eq_11, evE.eq_12, evE.eq_13, evE.eq_14, evE.eq_15, evE.eq_16, evE.eq_17, evE.eq_18, evE.eq_19, evE.eq_20, evE.eq_21, evE.eq_25, evE.eq_26, evE.eq_27, evE.eq_28, evE.eq_31, evSs, evS, evOp, evC, evEs, opnd, Opd.val, Slot.val, slotAt, fixv, isiV, isiF, typ, asBool, cmpF, endF, keptIo, lift, pur, bltF, len, assn, assns, rngF, hz]
  have st1 : evS tab (evF tab (k + 9)) (ev2 tab (k + 9)).2 (.for_ (.nm 1) (.rng (.int 3)) gBody) [.ow (bagV b), .un, .un, .un, .un, .un, .un, .un, .un, .un, .un, .un, .un, .un] = some (.ok .nx (.ow (bagV b') :: r)) := by
    rw [evS_for, hit, bnd_ok, if_pos (by unfold cap; decide), h1]
  have st2 : evS tab (evF tab (k + 9)) (ev2 tab (k + 9)).2 (.ret (.bl true)) (.ow (bagV b') :: r) = some (.ok (.rt (.fz (.bl true))) (.ow (bagV b') :: r)) := by
    simp [evE.eq_1, evE.eq_2, evE.eq_3, evE.eq_4, evE.eq_5, evE.eq_6, evE.eq_7, evE.eq_8, evE.eq_9, evE.eq_10, evE.eq_11, evE.eq_12, evE.eq_13, evE.eq_14, evE.eq_15, evE.eq_16, evE.eq_17, evE.eq_18, evE.eq_19, evE.eq_20, evE.eq_21, evE.eq_25, evE.eq_26, evE.eq_27, evE.eq_28, evE.eq_31, evSs, evS, evOp, evC, evEs, opnd, Opd.val, Slot.val, slotAt, fixv, isiV, isiF, typ, asBool, cmpF, endF, keptIo, lift, pur, bltF, len, assn, assns]
  have e : evSs tab (evF tab (k + 9)) (ev2 tab (k + 9)).2 ir__law_right.body [.ow (bagV b), .un, .un, .un, .un, .un, .un, .un, .un, .un, .un, .un, .un, .un] = some (.ok (.rt (.fz (.bl true))) (.ow (bagV b') :: r)) := by
    exact evSs_2 st1 (evSs_r st2)
  show endF _ _ (evSs tab (evF tab (k + 9)) (ev2 tab (k + 9)).2 ir__law_right.body [.ow (bagV b), .un, .un, .un, .un, .un, .un, .un, .un, .un, .un, .un, .un, .un]) = _
  rw [e]
  simp [endF, keptIo, ir__law_right]
theorem q_quiet (k : Nat) (b : Int × Int × Int) : ∃ b', evF tab (k + 11) "_law_quiet" [.ow (bagV b)] = some (.ok (.fz (.bl true)) [.ow (bagV b')]) := by
  obtain ⟨b', q⟩ := q_right k b
  refine ⟨b', ?_⟩
  rw [evF_succ, run_def fn__law_quiet (tab_ext _) rfl]
  simp [ir__law_quiet, evE.eq_1, evE.eq_2, evE.eq_3, evE.eq_4, evE.eq_5, evE.eq_6, evE.eq_7, evE.eq_8, evE.eq_9, evE.eq_10, evE.eq_11, evE.eq_12, evE.eq_13, evE.eq_14, evE.eq_15, evE.eq_16, evE.eq_17, evE.eq_18, evE.eq_19, evE.eq_20, evE.eq_21, evE.eq_25, evE.eq_26, evE.eq_27, evE.eq_28, evE.eq_31, evSs, evS, evOp, evC, evEs, opnd, Opd.val, Slot.val, slotAt, fixv, isiV, isiF, typ, asBool, cmpF, endF, keptIo, lift, pur, bltF, len, assn, assns, evE.eq_22, evAs, argOf, callF, ioNd, order, finish, putBack, Arg.slot, Arg.isN, Arg.isAt, Arg.isV, ownAt, newArg, idxF, ixN, binF, fn__law_right, ir__law_right, q, quiet]
theorem law_holds (ns : List Int) (h : ns.length ≤ 63) : ∃ fin, evF tab 28 "law" [.fz (.scr ns)] = some (.ok (.fz (.bl true)) fin) := by
  refine ⟨[.fz (.scr ns)], ?_⟩
  rw [evF_succ, run_def fn_law (tab_ext _) rfl]
  obtain ⟨m, hm⟩ : ∃ m : Int, evE tab (evF tab 27) (ev2 tab 27).2 (.blt .max [(.int 2), (.blt .min [(.blt .len [(.v 0)]), (.int 5)])]) [.fz (.scr ns), .un] = some (.ok (.fz (.int m)) [.fz (.scr ns), .un]) ∧ m ≤ 63 ∧ 0 ≤ m := by
    refine ⟨_, by simp [evE.eq_1, evE.eq_2, evE.eq_3, evE.eq_4, evE.eq_5, evE.eq_6, evE.eq_7, evE.eq_8, evE.eq_9, evE.eq_10, evE.eq_11, evE.eq_12, evE.eq_13, evE.eq_14, evE.eq_15, evE.eq_16, evE.eq_17, evE.eq_18, evE.eq_19, evE.eq_20, evE.eq_21, evE.eq_25, evE.eq_26, evE.eq_27, evE.eq_28, evE.eq_31, evSs, evS, evOp, evC, evEs, opnd, Opd.val, Slot.val, slotAt, fixv, isiV, isiF, typ, asBool, cmpF, endF, keptIo, lift, pur, bltF, len, assn, assns]; rfl, ?_⟩
    split <;> split <;> omega
  have hz : -(cap : Int) ≤ m ∧ m ≤ cap := by unfold cap; omega
  have hit : evIt tab (evF tab 27) (ev2 tab 27).2 (.rng (.blt .max [(.int 2), (.blt .min [(.blt .len [(.v 0)]), (.int 5)])])) [.fz (.scr ns), .un] = some (.ok ((List.range m.toNat).map fun t => .int (t : Nat)) [.fz (.scr ns), .un]) := by
    simp only [evIt, hm.1, bnd_ok, fixv, pur, rngF, hz, and_self, if_true, lift]
    unfold rng
    simp
  have hlc : evE tab (evF tab 27) (ev2 tab 27).2 (.lc [1] (.nm 1) (.rng (.blt .max [(.int 2), (.blt .min [(.blt .len [(.v 0)]), (.int 5)])])) none (.call "_law_quiet" [(.call "_law_bag" [(.v 0), (.v 1)] [])] [])) [.fz (.scr ns), .un] = some (.ok (.ow (.lst ((List.range m.toNat).map fun _ => .bl true))) [.fz (.scr ns), .un]) := by
    have := ev_lcB (fun t : Nat => Val.int (t : Nat)) (fun _ => some (Val.bl true)) hit (ns := [1]) (t := .nm 1) (c := none) (e := (.call "_law_quiet" [(.call "_law_bag" [(.v 0), (.v 1)] [])] [])) (by rw [List.length_range]; unfold cap; omega) rfl rfl (fun t _ => by
      refine ⟨[.fz (.scr ns), .fz (.int (t : Nat))], [.fz (.scr ns), .fz (.int (t : Nat))], rfl, ?_, rfl⟩
      obtain ⟨b, qb⟩ := q_bag 26 ns t h
      obtain ⟨b', qq⟩ := q_quiet 16 b
      simp [lcF, evE.eq_1, evE.eq_2, evE.eq_3, evE.eq_4, evE.eq_5, evE.eq_6, evE.eq_7, evE.eq_8, evE.eq_9, evE.eq_10, evE.eq_11, evE.eq_12, evE.eq_13, evE.eq_14, evE.eq_15, evE.eq_16, evE.eq_17, evE.eq_18, evE.eq_19, evE.eq_20, evE.eq_21, evE.eq_25, evE.eq_26, evE.eq_27, evE.eq_28, evE.eq_31, evSs, evS, evOp, evC, evEs, opnd, Opd.val, Slot.val, slotAt, fixv, isiV, isiF, typ, asBool, cmpF, endF, keptIo, lift, pur, bltF, len, assn, assns, evE.eq_22, evAs, argOf, callF, ioNd, order, finish, putBack, Arg.slot, Arg.isN, Arg.isAt, Arg.isV, ownAt, newArg, idxF, ixN, binF, fn__law_quiet, ir__law_quiet, fn__law_bag, ir__law_bag, qb, qq])
    rw [this]
    simp
  have ha : allB ((List.range m.toNat).map fun _ => Val.bl true) = some ((List.range m.toNat).map fun _ => true) := allB_map (fun _ => true) _
  have e : evSs tab (evF tab 27) (ev2 tab 27).2 ir_law.body [.fz (.scr ns), .un] = some (.ok (.rt (.fz (.bl true))) [.fz (.scr ns), .un]) := by
    simp only [ir_law, evSs, evS, evE_blt1, opnd, hlc, bnd_ok, bnd_pur, pur, Opd.val, Option.bind_some, bltF, ha, Option.map_some, lift]
    have : ((List.range m.toNat).map fun _ => true).all id = true := by simp
    rw [this]
  show endF _ _ (evSs tab (evF tab 27) (ev2 tab 27).2 ir_law.body [.fz (.scr ns), .un]) = _
  rw [e]
  simp [endF, keptIo, ir_law]
end EV
namespace GH
open PySem PySem.Spec PyProof.Rows L2
def lawFa0 : List He.Fa := [.free "len", .free "all", .free "isinstance", .free "zip", .free "enumerate", .free "range", .free "max", .free "min", .free "abs", .free "divmod", .free "int", .free "str", .free "bool", .free "tuple", .free "list", .free "repr", .free "any", .free "sorted", .free "dict", .free "set"]
def lawFa1 : List He.Fa := [.glo "all_of", .glo "graph_of", .glo "loops_of", .glo "leading_to", .glo "is_integer", .glo "is_word_of", .glo "is_tuple_of", .glo "are_letters", .glo "is_state", .glo "digit_of", .glo "state_of", .glo "check_machine", .glo "with_loops", .glo "live_of", .glo "sure_of", .glo "ends_for", .glo "is_watched", .glo "is_watchable", .glo "_law_bag", .glo "_law_take"]
def lawFa2 : List He.Fa := [.glo "_law_signs", .glo "_law_rows", .glo "_law_from", .glo "_law_loops", .glo "_law_ends_in", .glo "_law_reached", .glo "_law_right", .glo "_law_quiet", .glo "law", .int "MOST_LETTERS" 3, .int "MOST_STATES" 6, .int "MOST_COLOUR" 6, .str "LETTERS" (Str.ofString "abcdefghijklmnopqrstuvwxyz"), .str "DIGITS" (Str.ofString "0123456789"), .glo "Machine", .cls "Machine", .meth "Machine" "__len__", .glo "Graph", .cls "Graph", .mkr "Graph"]
def lawFa3 : List He.Fa := [.noat "Graph" "signs", .noat "Graph" "arrows", .noat "Graph" "colours", .meth "Graph" "ways", .meth "Graph" "part", .meth "Graph" "parts", .meth "Graph" "up_to", .meth "Graph" "has"]
def lawFa : List He.Fa := lawFa0 ++ lawFa1 ++ lawFa2 ++ lawFa3
def lawDn0 : List Dn := [dnG "all_of" s_all_of, dnG "graph_of" s_graph_of, dnG "loops_of" s_loops_of, dnG "leading_to" s_leading_to, dnG "is_integer" s_is_integer, dnG "is_word_of" s_is_word_of, dnG "is_tuple_of" s_is_tuple_of, dnG "are_letters" s_are_letters, dnG "is_state" s_is_state, dnG "digit_of" s_digit_of, dnG "state_of" s_state_of, dnG "check_machine" s_check_machine, dnG "with_loops" s_with_loops, dnG "live_of" s_live_of, dnG "sure_of" s_sure_of, dnG "ends_for" s_ends_for, dnG "is_watched" s_is_watched, dnG "is_watchable" s_is_watchable, dnG "_law_bag" s__law_bag, dnG "_law_take" s__law_take]
def lawDn1 : List Dn := [dnG "_law_signs" s__law_signs, dnG "_law_rows" s__law_rows, dnG "_law_from" s__law_from, dnG "_law_loops" s__law_loops, dnG "_law_ends_in" s__law_ends_in, dnG "_law_reached" s__law_reached, dnG "_law_right" s__law_right, dnG "_law_quiet" s__law_quiet, dnG "law" s_law, dnI s_Machine___init__, dnL s_Machine_letters, dnS s_Machine_states, dnM "Machine" "__len__" "Machine.__len__" s_Machine___len__, dnM "Graph" "__init__" "Graph.__init__" s_Graph___init__, dnM "Graph" "ways" "Graph.ways" s_Graph_ways, dnM "Graph" "part" "Graph.part" s_Graph_part, dnM "Graph" "parts" "Graph.parts" s_Graph_parts, dnM "Graph" "up_to" "Graph.up_to" s_Graph_up_to, dnM "Graph" "has" "Graph.has" s_Graph_has]
def lawDn : List Dn := lawDn0 ++ lawDn1
def lawOut0 : List Str := ["_wall", "BadValue", "BadName", "NoAnswer", "InvalidText", "InvalidLetters", "NotAMachine", "InvalidStates", "Graph", "all_of", "graph_of", "loops_of", "leading_to", "MOST_LETTERS", "MOST_STATES", "MOST_COLOUR", "LETTERS", "DIGITS", "is_integer", "is_word_of"]
def lawOut1 : List Str := ["is_tuple_of", "are_letters", "is_state", "digit_of", "state_of", "Machine", "check_machine", "with_loops", "live_of", "sure_of", "ends_for", "is_watched", "is_watchable", "_law_bag", "_law_take", "_law_signs", "_law_rows", "_law_from", "_law_loops", "_law_ends_in"]
def lawOut2 : List Str := ["_law_reached", "_law_right", "_law_quiet"]
def lawOut : List Str := lawOut0 ++ lawOut1 ++ lawOut2
def lawEx (K : PySem.W.Frag) : Bool := facts lawFa K && machB K
abbrev lawRow : PySem.W.OpenRow := PySem.W.OpenLaw.row PySem.Challenge.rw_guardhopes_k15_whole_watchable
abbrev lawHook : PySem.W.Hook := hookM 5 lawDn lawEx
def lawOb (s : PySem.W.SharedT) : He.Al := lookG 5 lawDn lawEx (HandSHeadRun.getT s)
theorem lawOb_eq (s : PySem.W.SharedT) : lawOb s = lawHook.obs s.abs := lookG_eq (HandSHeadRun.getT_eq s)
theorem lawRun (w : World) : HandSHeadRun.RunEq lawRow (PySem.W.view lawRow.prog [49]) lawHook lawOb 4000 lawOut w := by
  intro os
  kernel_rfl
theorem lawTxt {K : PySem.W.Frag} {h : Heap} {mg : Str → Option Value} (X : K.In h) (G : h.Ns mainGlobals mg) (c : SaysM lawDn lawEx K) : Txt K mg := by
  have z := c.more
  obtain ⟨z, zM⟩ := He.ba z
  exact {
    B := ⟨He.free_ok X G (facts_at z 0), He.free_ok X G (facts_at z 1), He.free_ok X G (facts_at z 2), He.free_ok X G (facts_at z 3), He.free_ok X G (facts_at z 4), He.free_ok X G (facts_at z 5), He.free_ok X G (facts_at z 6), He.free_ok X G (facts_at z 7), He.free_ok X G (facts_at z 8), He.free_ok X G (facts_at z 9), He.free_ok X G (facts_at z 10), He.free_ok X G (facts_at z 11), He.free_ok X G (facts_at z 12), He.free_ok X G (facts_at z 13), He.free_ok X G (facts_at z 14), He.free_ok X G (facts_at z 15), He.free_ok X G (facts_at z 16), He.free_ok X G (facts_at z 17), He.free_ok X G (facts_at z 18), He.free_ok X G (facts_at z 19)⟩
    d_all_of := def_is X G (facts_at z 20) (c.is 0)
    d_graph_of := def_is X G (facts_at z 21) (c.is 1)
    d_loops_of := def_is X G (facts_at z 22) (c.is 2)
    d_leading_to := def_is X G (facts_at z 23) (c.is 3)
    d_is_integer := def_is X G (facts_at z 24) (c.is 4)
    d_is_word_of := def_is X G (facts_at z 25) (c.is 5)
    d_is_tuple_of := def_is X G (facts_at z 26) (c.is 6)
    d_are_letters := def_is X G (facts_at z 27) (c.is 7)
    d_is_state := def_is X G (facts_at z 28) (c.is 8)
    d_digit_of := def_is X G (facts_at z 29) (c.is 9)
    d_state_of := def_is X G (facts_at z 30) (c.is 10)
    d_check_machine := def_is X G (facts_at z 31) (c.is 11)
    d_with_loops := def_is X G (facts_at z 32) (c.is 12)
    d_live_of := def_is X G (facts_at z 33) (c.is 13)
    d_sure_of := def_is X G (facts_at z 34) (c.is 14)
    d_ends_for := def_is X G (facts_at z 35) (c.is 15)
    d_is_watched := def_is X G (facts_at z 36) (c.is 16)
    d_is_watchable := def_is X G (facts_at z 37) (c.is 17)
    d__law_bag := def_is X G (facts_at z 38) (c.is 18)
    d__law_take := def_is X G (facts_at z 39) (c.is 19)
    d__law_signs := def_is X G (facts_at z 40) (c.is 20)
    d__law_rows := def_is X G (facts_at z 41) (c.is 21)
    d__law_from := def_is X G (facts_at z 42) (c.is 22)
    d__law_loops := def_is X G (facts_at z 43) (c.is 23)
    d__law_ends_in := def_is X G (facts_at z 44) (c.is 24)
    d__law_reached := def_is X G (facts_at z 45) (c.is 25)
    d__law_right := def_is X G (facts_at z 46) (c.is 26)
    d__law_quiet := def_is X G (facts_at z 47) (c.is 27)
    d_law := def_is X G (facts_at z 48) (c.is 28)
    c_MOST_LETTERS := cst_int X G (facts_at z 49)
    c_MOST_STATES := cst_int X G (facts_at z 50)
    c_MOST_COLOUR := cst_int X G (facts_at z 51)
    c_LETTERS := cst_str X G (facts_at z 52)
    c_DIGITS := cst_str X G (facts_at z 53)
    M := mach_is X G zM (c.is 29) (c.is 30) (c.is 31)
    m_Machine___len__ := meth_is X G (facts_at z 54) (facts_at z 55) (facts_at z 56) (c.is 32)
    k_Graph := cls_is X G (facts_at z 57) (facts_at z 58)
    i_Graph := new_is X G (facts_at z 57) (facts_at z 58) (facts_at z 59) (c.is 33)
    n_Graph_signs := noat_is X G (facts_at z 57) (facts_at z 60)
    n_Graph_arrows := noat_is X G (facts_at z 57) (facts_at z 61)
    n_Graph_colours := noat_is X G (facts_at z 57) (facts_at z 62)
    m_Graph_ways := meth_is X G (facts_at z 57) (facts_at z 58) (facts_at z 63) (c.is 34)
    m_Graph_part := meth_is X G (facts_at z 57) (facts_at z 58) (facts_at z 64) (c.is 35)
    m_Graph_parts := meth_is X G (facts_at z 57) (facts_at z 58) (facts_at z 65) (c.is 36)
    m_Graph_up_to := meth_is X G (facts_at z 57) (facts_at z 58) (facts_at z 66) (c.is 37)
    m_Graph_has := meth_is X G (facts_at z 57) (facts_at z 58) (facts_at z 67) (c.is 38)
  }
end GH
open PySem PySem.W PySem.Calls PyProof.Rows
theorem PySem.Challenge.cw_guardhopes_k15_whole_watchable_holds : PySem.Challenge.rw_guardhopes_k15_whole_watchable.Holds := by
  w_on; o_law
  refine HandSHeadRun.head_any (r := OpenLaw.row PySem.Challenge.rw_guardhopes_k15_whole_watchable) (q := view (OpenLaw.row PySem.Challenge.rw_guardhopes_k15_whole_watchable).prog [49]) (H := GH.lawHook) (ob := GH.lawOb) (M := 4000) (loose := GH.lawOut) (d := HandSHeadRun.topDef (OpenLaw.row PySem.Challenge.rw_guardhopes_k15_whole_watchable).prog 49) (kwd := []) GH.lawOb_eq
    (by kernel_rfl) (fun s => by kernel_rfl) GH.lawRun (by kernel_rfl) (by kernel_rfl) (by kernel_rfl) (by rfl) (by first | assumption | decide +kernel) (by decide +kernel) ⟨rfl, rfl, rfl, rfl, rfl, by decide +kernel⟩ ?hw ?hc
  case hw => w_witness2
  case hc =>
    refine GH.go_walk (l := PySem.Challenge.rw_guardhopes_k15_whole_watchable) (n := 63) (k := 30) (x := "_law_script") rfl (by decide) (by kernel_rfl) ⟨rfl, by decide, by decide⟩ ?F
    intro w mg fa h Y G hmg0
    obtain ⟨K, KX, c⟩ := Y
    have e0 : (HandSHeadRun.topDef (OpenLaw.row PySem.Challenge.rw_guardhopes_k15_whole_watchable).prog 49).name = ("law" : PySem.Str) := by kernel_rfl
    rw [e0] at hmg0
    have T := GH.lawTxt KX G c
    obtain ⟨fd, hb, hF⟩ := GH.OkG.every (P := (PySem.Challenge.rw_guardhopes_k15_whole_watchable).prog) (w := w) (fun base => EV.okG_of (EV.good T 28).f_law) hmg0
    exact ⟨K, fd, EV.spL K mg (EV.evF EV.tab 28) "law", KX, hb, fun H a ns hl hS => (let ⟨_, z⟩ := EV.law_holds ns hl; EV.law_sp z hS _), fun base => hF base⟩
