import PyProof.Rows.All
import Wide.All
import OpenK.AllK
import Wide.FinOn
import HandS.ForMost
import HandS.Walk
import KE.GoesZip
import KE.GoesEnum
import HandS.Defaults
import HandS.WordsExc
import HandS.IsInst
import HandS.Star
import HandS.Style
import HandS.Property
import HandS.Replace
import HandS.Exc
import HandS.Codes
import HandS.HeadHook1
import HandS.More
import HandS.Head0
import HandS.Head1
import HandS.Head2
import HandS.HeadEnd
import HandS.HeadHook2
import HandS.Dict
import HandS.DictComp
import HandS.WordsDict
import PyProof.DictUpdate
import PyProof.FactsAll.dict_3
import PyProof.FactsAll.dict_4
import HandS.ClsMeth
import HandS.HeadNt
import HandS.Base
import HandS.List
import PyProof.Claim2
import HandS.RaiseMore
import PyProof.ReprLen
import PyProof.ReprRoads
import KE.SortData
import PyProof.TupleKey
import PyProof.Dict
import HandS.Lambda
import HandS.Iter
import HandS.TupMul
import HandS.Conv
import PyProof.ListStr
import HandS.TupAny
import HandS.Deep
import HandS.Text
import HandS.TupLen
import HandS.Comp
import KE.KDictCopyH
import KE.KDictDisplayH
import HandS.Ends
import KE.KIndexOf
import HandS.Zip
import KE.KDictZip
import PyProof.TupleOfGen
import KE.KRevSl
import PyProof.ListNew
import KE.KDictPairs
import KE.KDictWalk
import KE.KCallOwn
import PyProof.InstEq
import HandS.MakeKw
import KE.KUnpackStar
import PyProof.Conv_bool
import PyProof.InstNe
import PyProof.EqKinds
import PyProof.NeKinds
import PySem.Challenge.RW_guardhopes_k05_machines_compared
set_option Elab.async false
set_option linter.all false
set_option maxRecDepth 100000
set_option maxHeartbeats 0
namespace GH
open PySem PySem.Spec PyProof.Rows L2
inductive Src where
  | txt (x : Str)
  | tup (a : Addr) (xs : List V)
namespace Src
def val : Src → V
  | .txt x => .str x
  | .tup a _ => .ref a
def items : Src → List V
  | .txt x => x.cps.toList.map fun c => V.str ⟨#[c]⟩
  | .tup _ xs => xs
def At (K : PySem.W.Frag) (H : Hp) : Src → Prop
  | .txt _ => True
  | .tup a xs => SqT K H a xs
def On (h : Heap) (it : Addr) (i : Nat) : Src → Prop
  | .txt x => ∃ t, h.IsStrIter it (strIterType x) x t i
  | .tup a _ => h.IsTupleIter it a i
theorem On.move {h h' : Heap} {it : Addr} {i : Nat} : ∀ {s : Src}, s.On h it i → (∀ o, h.get? it = some o → h'.get? it = some o) → s.On h' it i
  | .txt _, ⟨t, ob, q, r⟩, k => ⟨t, ob, k ob q, r⟩
  | .tup _ _, st, k => Heap.IsTupleIter.at st k
theorem On.obj {h : Heap} {it : Addr} {i : Nat} : ∀ {s : Src}, s.On h it i → ∃ o, h.get? it = some o ∧ ∀ v, o.data ≠ .cell v
  | .txt _, ⟨t, ob, q, _, d⟩ => ⟨ob, q, fun v z => by rw [d] at z; cases z⟩
  | .tup _ _, ⟨ob, q, _, d⟩ => ⟨ob, q, fun v z => by rw [d] at z; cases z⟩
structure Gives (X : Cx) (s : Shared) (A : Around) (H : Hp) (it : Addr) (i : Nat) (src : Src) (fp : List Addr) (P : Nat → Value → Prop) (St : Nat → Heap → Prop) : Prop where
  d : Draws X.prog X.w A it fp src.items.length P St
  st : St i s.heap
  mem : it ∈ fp
  sub : ∀ b ∈ fp, b = it ∨ (H b ≠ none ∨ ∃ o, X.base.get? b = some o)
  yl : ∀ j v, P j v → ∃ x, src.items[j]? = some x ∧ RelV x v
  on : ∀ j h, St j h → src.On h it j
theorem gives {X : Cx} {pins : List (Addr × Obj)} {σ : L2.St} {H : Hp} {s : Shared} {A : Around} {it : Addr} {i : Nat} (hh : A.handled = none) (I : Inv X pins σ H s) : ∀ {src : Src}, src.At X.K H → src.On s.heap it i → ∃ fp P St, Gives X s A H it i src fp P St
  | .txt x, _, ⟨t, on⟩ => by
    have e : (Src.txt x).items.length = x.cps.size := by simp [items]
    have d := Draws.text (prog := X.prog) (w := X.w) hh it x t
    rw [← e] at d
    refine ⟨[it], _, _, ⟨d, on, by simp, fun b hb => .inl (by simpa using hb), fun j v hv => ?_, fun j h st => ⟨t, st⟩⟩⟩
    obtain ⟨c, u, hc, rfl⟩ := hv
    exact ⟨.str ⟨#[c]⟩, by simp [items, hc], u, rfl⟩
  | .tup a xs, hat, on => by
    have hat' : SqT X.K H a xs := hat
    obtain ⟨its, rv, p, _⟩ := I.tuple hat'
    have hne : a ≠ it := by
      intro e
      obtain ⟨o, ho, hc, n, hd⟩ := p
      obtain ⟨o2, ho2, hc2, hd2⟩ := on
      rw [e, ho2] at ho
      cases ho
      rw [hc] at hc2
      exact absurd hc2 (by decide)
    have el : its.toArray.size = xs.length := by
      have := rv.length
      simp [this]
    have d := Draws.tuple (prog := X.prog) (w := X.w) hh it a hne its.toArray
    rw [show its.toArray.size = (Src.tup a xs).items.length from el] at d
    refine ⟨[it, a], _, _, ⟨d, ⟨on, p⟩, by simp, fun b hb => ?_, fun j v hv => ?_, fun j h st => st.1⟩⟩
    · have e' : b = it ∨ b = a := by simpa using hb
      rcases e' with z | z
      · exact .inl z
      · refine .inr ?_
        rw [z]
        rcases hat' with (h1 | ⟨o, h1⟩) | h1
        · exact .inl (by rw [h1]; simp)
        · exact .inl (by rw [h1]; simp)
        · obtain ⟨o, its2, n2, lk, _⟩ := h1
          exact .inr ⟨o, I.ok.mod.kin _ _ lk⟩
    · have hv' : its[j]? = some v := by simpa using hv
      cases hx : xs[j]? with
      | none =>
        have := rv.none_of hx
        rw [this] at hv'; cases hv'
      | some x =>
        obtain ⟨u, hu, ru⟩ := rv.get hx
        rw [hu] at hv'
        cases hv'
        exact ⟨x, hx, ru⟩
theorem Gives.out {X : Cx} {pins : List (Addr × Obj)} {σ : L2.St} {H : Hp} {s : Shared} {A : Around} {it b : Addr} {i : Nat} {src : Src} {fp : List Addr} {P : Nat → Value → Prop} {St : Nat → Heap → Prop} (g : Gives X s A H it i src fp P St) (I : Inv X pins σ H s) (hb : FpOk X pins H b) (hx : X.base.get? b = none) (hne : b ≠ it) : b ∉ fp := fun hm => by
  rcases g.sub b hm with z | z | ⟨o, z⟩
  · exact hne z
  · exact z hb.1
  · rw [hx] at z; cases z
end Src
end GH
namespace GH
open PySem PySem.Spec PyProof.Rows L2
theorem fp_base {X : Cx} {pins : List (Addr × Obj)} {σ : L2.St} {H : Hp} {s : Shared} {b : Addr} (I : Inv X pins σ H s) (f : FpOk X pins H b) : X.base.get? b = none := by
  cases e : X.base.get? b with
  | none => rfl
  | some o =>
    rcases f.2.2.2.1 with z | z
    · exact absurd z (I.ok.noex b o e)
    · exact absurd (Nat.lt_of_lt_of_le (Heap.lt_size (I.ok.bs b o e).1) z) (Nat.lt_irrefl _)
def ItZ (K : PySem.W.Frag) (s1 s2 : Src) : It where
  go := fun i H => s1.At K H ∧ s2.At K H ∧ i < s1.items.length ∧ i < s2.items.length
  yld := fun i H v H' => ∃ T x y, v = .ref T ∧ H T = none ∧ H' = upd H T (.tup [x, y]) ∧ s1.items[i]? = some x ∧ s2.items[i]? = some y
  stop := fun i H => s1.At K H ∧ s2.At K H ∧ i = min s1.items.length s2.items.length
structure Five (z TI TO i1 i2 : Addr) : Prop where
  a1 : TI ≠ z
  a2 : TO ≠ z
  a3 : TI ≠ TO
  a4 : TI ≠ i1
  a5 : TI ≠ i2
  a6 : z ≠ i1
  a7 : z ≠ i2
  a8 : TO ≠ i1
  a9 : TO ≠ i2
  a0 : i1 ≠ i2
theorem five_of (n : Nat) : Five (n + 4) (n + 2) (n + 3) n (n + 1) := by
  constructor <;> (show (_ : Nat) ≠ _) <;> omega
theorem turn_zipG {P : Program} {w : World} {K : PySem.W.Frag} {elts : List Expr} {kk : Nat} {tpos : Pos} {z TI TO i1 i2 : Addr} {s1 s2 : Src} (F : Five z TI TO i1 i2) :
    Turn P w K (.Tuple elts kk tpos) (ItZ K s1 s2) [z, TI, TO, i1, i2] z (fun i h => IsZip h z TI TO .none ∧ IsTupOf2 h TI (.ref i1) (.ref i2) ∧ (∃ p q, IsTupOf2 h TO p q) ∧ s1.On h i1 i ∧ s2.On h i2 i) where
  mem := by simp
  obj := fun i h st c hc => by
    obtain ⟨hz, hI, ⟨p, q, hO⟩, h1, h2⟩ := st
    have e : c = z ∨ c = TI ∨ c = TO ∨ c = i1 ∨ c = i2 := by simpa using hc
    rcases e with rfl | rfl | rfl | rfl | rfl
    · exact ⟨_, hz, fun v q => nomatch q⟩
    · exact ⟨_, hI, fun v q => nomatch q⟩
    · exact ⟨_, hO, fun v q => nomatch q⟩
    · exact h1.obj
    · exact h2.obj
  keep := fun i h h' st k => by
    obtain ⟨hz, hI, ⟨p, q, hO⟩, h1, h2⟩ := st
    exact ⟨k z (by simp) _ hz, k TI (by simp) _ hI, ⟨p, q, k TO (by simp) _ hO⟩, h1.move fun o e => k i1 (by simp) o e, h2.move fun o e => k i2 (by simp) o e⟩
  item := by
    intro X eP ew eK hc i pins s σ H E I hf st hg
    subst eP ew eK
    obtain ⟨hz, hI, ⟨p, q, hO⟩, h1, h2⟩ := st
    obtain ⟨A1, A2, l1, l2⟩ := hg
    obtain ⟨fp1, P1, S1, g1⟩ := Src.gives (A := X.A.in1) (it := i1) (i := i) (src := s1) (I.ok.hd hc) I A1 h1
    obtain ⟨fp2, P2, S2, g2⟩ := Src.gives (A := X.A.in1) (it := i2) (i := i) (src := s2) (I.ok.hd hc) I A2 h2
    have nb : ∀ b ∈ [z, TI, TO, i1, i2], FpOk X pins H b ∧ X.base.get? b = none := fun b hb => ⟨hf b hb, fp_base I (hf b hb)⟩
    have o1 : ∀ b ∈ [z, TI, TO, i1, i2], b ≠ i1 → b ∉ fp1 := fun b hb hn => g1.out I (nb b hb).1 (nb b hb).2 hn
    have o2 : ∀ b ∈ [z, TI, TO, i1, i2], b ≠ i2 → b ∉ fp2 := fun b hb hn => g2.out I (nb b hb).1 (nb b hb).2 hn
    have sep : ZipSep2 z TI TO i1 i2 fp1 fp2 := ⟨F.a1, F.a2, F.a3, F.a4, g1.mem, o1 z (by simp) F.a6, o1 TO (by simp) F.a8, F.a5, g2.mem, o2 z (by simp) F.a7, o2 TO (by simp) F.a9, o2 i1 (by simp) F.a0, o1 i2 (by simp) F.a0.symm⟩
    have zl : z < s.heap.objs.size := Heap.lt_size hz
    refine wpAny_pyNext_zipD2_item sep g1.d g2.d hz hI hO g1.st g2.st l1 l2 fun u1 u2 h' tk y1 y2 z' O' n1 n2 hT hsz hk => ?_
    obtain ⟨x1, e1, r1⟩ := g1.yl i u1 y1
    obtain ⟨x2, e2, r2⟩ := g2.yl i u2 y2
    refine ⟨_, rfl, wpAny_letOwnedTupleGo_zip (s := { s with heap := h', toks := tk }) z' fun h'' z'' sb => ?_⟩
    have hT2 : h''.get? s.heap.objs.size = some { cls := .type "tuple", data := .seq #[u1, u2] } := (sb.2 _ (Nat.ne_of_gt zl)).trans hT
    have new : ObjOk X.prog X.w (upd H s.heap.objs.size (.tup [x1, x2])) h'' s.heap.objs.size (.tup [x1, x2]) :=
      ⟨by show 2 ≤ sizeLine; decide, [u1, u2], .cons r1 (.cons r2 .nil), ⟨_, hT2, rfl, _, rfl⟩⟩
    have I1 : Inv X pins σ (upd H s.heap.objs.size (.tup [x1, x2])) { s with heap := h'', toks := tk } :=
      I.turnedNew (t' := tk) (ch := [z, TI, TO, i1, i2]) (fun c o hb e => (sb.2 c (fun e' => hb (by simp [e']))).trans (hk c o (fun e' => hb (by simp [e'])) (fun e' => hb (by simp [e'])) (fun e' => hb (by simp [e'])) (fun e' => hb (by simp [e'])) e)) hf (Nat.le_refl _) new
    refine ⟨.ref s.heap.objs.size, _, I1, rfl, ⟨_, x1, x2, rfl, I.hok.fresh (Nat.le_refl _), rfl, e1, e2⟩, ⟨z'', ?_, ⟨u1, u2, ?_⟩, ?_, ?_⟩, fun c hcm => ?_⟩
    · exact (sb.2 _ F.a1).trans (hk _ _ F.a1 F.a3 F.a4 F.a5 hI)
    · exact (sb.2 _ F.a2).trans O'
    · exact (g1.on _ _ n1).move fun o e => (sb.2 _ F.a6.symm).trans e
    · exact (g2.on _ _ n2).move fun o e => (sb.2 _ F.a7.symm).trans e
    · have lt : c < s.heap.objs.size := by
        have e' : c = z ∨ c = TI ∨ c = TO ∨ c = i1 ∨ c = i2 := by simpa using hcm
        rcases e' with rfl | rfl | rfl | rfl | rfl
        · exact zl
        · exact Heap.lt_size hI
        · exact Heap.lt_size hO
        · obtain ⟨_, e, _⟩ := h1.obj; exact Heap.lt_size e
        · obtain ⟨_, e, _⟩ := h2.obj; exact Heap.lt_size e
      rw [upd_ne (Nat.ne_of_lt lt)]
      exact (hf c hcm).1
  done := by
    intro X eP ew eK hc i pins s σ H E I hf st hg
    subst eP ew eK
    obtain ⟨hz, hI, ⟨p, q, hO⟩, h1, h2⟩ := st
    obtain ⟨A1, A2, he⟩ := hg
    obtain ⟨fp1, P1, S1, g1⟩ := Src.gives (A := X.A.in1) (it := i1) (i := i) (src := s1) (I.ok.hd hc) I A1 h1
    obtain ⟨fp2, P2, S2, g2⟩ := Src.gives (A := X.A.in1) (it := i2) (i := i) (src := s2) (I.ok.hd hc) I A2 h2
    have nb : ∀ b ∈ [z, TI, TO, i1, i2], FpOk X pins H b ∧ X.base.get? b = none := fun b hb => ⟨hf b hb, fp_base I (hf b hb)⟩
    have o1 : ∀ b ∈ [z, TI, TO, i1, i2], b ≠ i1 → b ∉ fp1 := fun b hb hn => g1.out I (nb b hb).1 (nb b hb).2 hn
    have o2 : ∀ b ∈ [z, TI, TO, i1, i2], b ≠ i2 → b ∉ fp2 := fun b hb hn => g2.out I (nb b hb).1 (nb b hb).2 hn
    have sep : ZipSep2 z TI TO i1 i2 fp1 fp2 := ⟨F.a1, F.a2, F.a3, F.a4, g1.mem, o1 z (by simp) F.a6, o1 TO (by simp) F.a8, F.a5, g2.mem, o2 z (by simp) F.a7, o2 TO (by simp) F.a9, o2 i1 (by simp) F.a0, o1 i2 (by simp) F.a0.symm⟩
    exact wpAny_pyNext_zipD2_end sep g1.d g2.d hz hI hO g1.st g2.st (by omega) (by omega) (by omega) fun h' tk hk => ⟨rfl, I.turnedL (t' := tk) (ch := [z, TI, TO, i1, i2]) (fun c o hb e =>
      hk c o (fun e' => hb (by simp [e'])) (fun e' => hb (by simp [e'])) (fun e' => hb (by simp [e'])) (fun e' => hb (by simp [e'])) e) hf⟩
  self := fun A i s Q E st h => wpAny_pyIter_zip st.1 h
def iZipG (K : PySem.W.Frag) (ta : TA) : TI := fun σ H R => ta σ H fun vs H1 => ∃ s1 s2 : Src, vs = [s1.val, s2.val] ∧ s1.At K H1 ∧ s2.At K H1 ∧ R (ItZ K s1 s2) H1
theorem src_begins {X : Cx} {pins : List (Addr × Obj)} {σ : L2.St} {H : Hp} {s : Shared} (I : Inv X pins σ H s) : ∀ {src : Src} {u : Value}, RelV src.val u → src.At X.K H →
    ∃ (o : Obj) (G : Heap → Prop), Begins u o G ∧ G s.heap ∧ ∀ (h : Heap) (it : Addr), h.get? it = some o → src.On h it 0
  | .txt x, _, ⟨t, rfl⟩, _ => ⟨_, _, begins_text x t, trivial, fun h it e => ⟨t, _, e, rfl, rfl⟩⟩
  | .tup a xs, u, r, hat => by
    obtain ⟨its, rv, p, _⟩ := I.tuple (show SqT X.K H a xs from hat)
    cases (show u = Value.ref a from r)
    exact ⟨_, _, begins_tuple a its.toArray, p, fun h it e => ⟨_, e, rfl, rfl⟩⟩
theorem pi_zipG {X : Cx} {e e2 : Expr} {ta : TA} {p pos tpos : Pos} {elts : List Expr} {kk : Nat} (hg : Gl X "zip") (hm : X.mg "zip" = none) (ha : PA X [e, e2] ta)
    (hs : starEach [e, e2] X.env = (false, eval e X.env) :: starEach [e2] X.env := by rfl) (hpl : (backTo pos (starEach [e2] X.env)).any (·.1) = false := by rfl) :
    PI X (.Tuple elts kk tpos) (.Call (.Name "zip" p) [e, e2] [] pos) (iZipG X.K ta) := by
  constructor
  intro pins s σ H R I h
  refine Call_ (ld_blt I hg hm PyProof.Rows.boot_zip (PyProof.Rows.callWith_type1 (thn (ha.run pos pins s σ H _ I h) fun us s1 hh => ?_) hs hpl))
  obtain ⟨vs, H1, I1, rr, a, b, ev, A1, A2, q⟩ := hh
  subst ev
  cases rr with
  | cons r1 rr =>
    cases rr with
    | cons r2 rr =>
      cases rr
      obtain ⟨o1, G1, B1, k1, on1⟩ := src_begins I1 r1 A1
      obtain ⟨o2, G2, B2, k2, on2⟩ := src_begins I1 r2 A2
      refine zip_begins2 B1 B2 k1 k2 fun h' hz hI hO e1 e2 hsz hk => wpAny_pyIter_zip hz ?_
      have I2 : Inv X pins σ H1 { s1 with heap := h' } := I1.kept (t' := s1.toks) hk
      refine ⟨s1.heap.objs.size + 4, [s1.heap.objs.size + 4, s1.heap.objs.size + 2, s1.heap.objs.size + 3, s1.heap.objs.size, s1.heap.objs.size + 1], _, _, H1, rfl, I2, turn_zipG ?_, ⟨hz, hI, ⟨_, _, hO⟩, on1 _ _ e1, on2 _ _ e2⟩, fun c hcm => ?_, q⟩
      · exact five_of s1.heap.objs.size
      · have e' : c = s1.heap.objs.size + 4 ∨ c = s1.heap.objs.size + 2 ∨ c = s1.heap.objs.size + 3 ∨ c = s1.heap.objs.size ∨ c = s1.heap.objs.size + 1 := by simpa using hcm
        have hle : s1.heap.objs.size ≤ c := by
          rcases e' with z | z | z | z | z
          · rw [z]; exact Nat.le_add_right _ _
          · rw [z]; exact Nat.le_add_right _ _
          · rw [z]; exact Nat.le_add_right _ _
          · rw [z]; exact Nat.le_refl _
          · rw [z]; exact Nat.le_add_right _ _
        exact I1.fpOk hle (I1.hok.fresh hle)
def ItE (K : PySem.W.Frag) (s1 : Src) : It where
  go := fun i H => s1.At K H ∧ i < s1.items.length
  yld := fun i H v H' => ∃ T x y, v = .ref T ∧ H T = none ∧ H' = upd H T (.tup [x, y]) ∧ some (V.int (i : Nat)) = some x ∧ s1.items[i]? = some y
  stop := fun i H => s1.At K H ∧ i = s1.items.length
theorem turn_enumG {P : Program} {w : World} {K : PySem.W.Frag} {elts : List Expr} {kk : Nat} {tpos : Pos} {e it : Addr} {s1 : Src} (ne : e ≠ it) :
    Turn P w K (.Tuple elts kk tpos) (ItE K s1) [e, it] e (fun i h => (∃ old, IsEnum h e it ((i : Nat) : Int) old) ∧ s1.On h it i) where
  mem := by simp
  obj := fun i h st c hc => by
    obtain ⟨⟨old, he⟩, h1⟩ := st
    have e' : c = e ∨ c = it := by simpa using hc
    rcases e' with rfl | rfl
    · exact ⟨_, he, fun v q => nomatch q⟩
    · exact h1.obj
  keep := fun i h h' st k => by
    obtain ⟨⟨old, he⟩, h1⟩ := st
    exact ⟨⟨old, k e (by simp) _ he⟩, h1.move fun o q => k it (by simp) o q⟩
  item := by
    intro X eP ew eK hc i pins s σ H E I hf st hg
    subst eP ew eK
    obtain ⟨⟨old, he⟩, h1⟩ := st
    obtain ⟨A1, l1⟩ := hg
    obtain ⟨fp1, P1, S1, g1⟩ := Src.gives (A := X.A.in1) (it := it) (i := i) (src := s1) (I.ok.hd hc) I A1 h1
    have hx : e ∉ fp1 := g1.out I (hf e (by simp)) (fp_base I (hf e (by simp))) ne
    have el : e < s.heap.objs.size := Heap.lt_size he
    have il : it < s.heap.objs.size := by obtain ⟨_, q, _⟩ := h1.obj; exact Heap.lt_size q
    refine wpAny_pyNext_enum_itemD g1.d he g1.st l1 ne hx fun u h' tk y1 out n1 hT hsz hk => ?_
    obtain ⟨x1, e1, r1⟩ := g1.yl i u y1
    refine ⟨_, rfl, wpAny_letOwnedTupleGo_enum (s := { s with heap := h', toks := tk + 1 }) out fun h'' he' sb => ?_⟩
    have hT2 : h''.get? s.heap.objs.size = some { cls := .type "tuple", data := .seq #[.int i tk, u] } := (sb.2 _ (Nat.ne_of_gt el)).trans hT
    have new : ObjOk X.prog X.w (upd H s.heap.objs.size (.tup [.int (i : Nat), x1])) h'' s.heap.objs.size (.tup [.int (i : Nat), x1]) :=
      ⟨by show 2 ≤ sizeLine; decide, [.int i tk, u], .cons ⟨_, rfl⟩ (.cons r1 .nil), ⟨_, hT2, rfl, _, rfl⟩⟩
    have I1 : Inv X pins σ (upd H s.heap.objs.size (.tup [.int (i : Nat), x1])) { s with heap := h'', toks := tk + 1 } :=
      I.turnedNew (t' := tk + 1) (ch := [e, it]) (fun c o hb q => (sb.2 c (fun z => hb (by simp [z]))).trans (hk c o (fun z => hb (by simp [z])) (fun z => hb (by simp [z])) q)) hf (Nat.le_refl _) new
    refine ⟨.ref s.heap.objs.size, _, I1, rfl, ⟨_, .int (i : Nat), x1, rfl, I.hok.fresh (Nat.le_refl _), rfl, rfl, e1⟩, ⟨⟨u, ?_⟩, ?_⟩, fun c hcm => ?_⟩
    · rw [show ((i + 1 : Nat) : Int) = (i : Int) + 1 by omega]
      exact he'
    · exact (g1.on _ _ n1).move fun o q => (sb.2 _ ne.symm).trans q
    · have lt : c < s.heap.objs.size := by
        have e' : c = e ∨ c = it := by simpa using hcm
        rcases e' with rfl | rfl
        · exact el
        · exact il
      rw [upd_ne (Nat.ne_of_lt lt)]
      exact (hf c hcm).1
  done := by
    intro X eP ew eK hc i pins s σ H E I hf st hg
    subst eP ew eK
    obtain ⟨⟨old, he⟩, h1⟩ := st
    obtain ⟨A1, hl⟩ := hg
    subst hl
    obtain ⟨fp1, P1, S1, g1⟩ := Src.gives (A := X.A.in1) (it := it) (i := s1.items.length) (src := s1) (I.ok.hd hc) I A1 h1
    obtain ⟨f0, f1, f2, f3, f4, f5⟩ := hf it (by simp)
    exact wpAny_pyNext_enum_endD g1.d he g1.st fun h' eb => ⟨rfl, I.turned (t' := s.toks) (fun b o hb q => eb b o hb q) f0 f1 f3 f4 f5⟩
  self := fun A i s Q E st h => by
    obtain ⟨⟨old, he⟩, _⟩ := st
    exact wpAny_pyIter_enum he h
theorem meets_enum1 {v : Value} {o : Obj} {G : Heap → Prop} (B : Begins v o G) :
    Meets (Builtin.«enumerate.__new__» ⟨[.type "enumerate", v], []⟩) (fun _ R s => G s.heap ∧
      R (.ok (.ret (.ref (s.heap.push o).objs.size))) { s with heap := (s.heap.push o).push { cls := .type "enumerate", data := .fields #[.none, .bool false, .ref s.heap.objs.size, rawInt 0, .none, .none] } }) :=
  .of_wp fun prog w A R s hh => by
    obtain ⟨hp, g, d, tk, os⟩ := s
    obtain ⟨h1, h⟩ := hh
    have hsub := sub_enumerate
    have q1 : ∀ {A' : Around} {E : Value → Shared → Prop} {Q : Value → Shared → Prop}, Q (.ref hp.objs.size) ⟨hp.push o, g, d, tk, os⟩ → wpAny (model prog w) A' (pyIter v) Q E ⟨hp, g, d, tk, os⟩ := fun z => B.iter prog w _ _ ⟨hp, g, d, tk, os⟩ _ h1 z
    wp_walk using q1
    refine wpAny_stack_any fun st => wpAny_pure ?_
    split
    · rename_i c _ _ _ _ _
      cases (c == Value.type "enumerate") <;> (wp_walk using q1; exact ⟨_, rfl, h⟩)
    · wp_walk using q1
      exact ⟨_, rfl, h⟩
theorem enum_begins1 {prog : Program} {w : World} {A : Around} {E : Value → Shared → Prop} {s : Shared} {v : Value} {o : Obj} {G : Heap → Prop} {Q : Value → Shared → Prop} (B : Begins v o G) (h1 : G s.heap)
    (h : ∀ h', IsEnum h' (s.heap.objs.size + 1) s.heap.objs.size 0 .none → h'.get? s.heap.objs.size = some o → (∀ b u, s.heap.get? b = some u → h'.get? b = some u) → Q (.ref (s.heap.objs.size + 1)) { s with heap := h' }) :
    wpAny (model prog w) A (call (.type "enumerate") [v]) Q E s := by
  refine callType_new F.called_enumerate (by decide) (F.typeCall_enumerate_1 _) (F.newCall_enumerate_1 _) (fun obj => F.args_object_init_2 obj _) F.entry_enumerate_new (meets_enum1 B) ⟨h1, ?_⟩
  have hz : (s.heap.push o).objs.size = s.heap.objs.size + 1 := Heap.size_push ..
  show _ ∧ _
  rw [hz]
  have he : IsEnum ((s.heap.push o).push { cls := .type "enumerate", data := .fields #[.none, .bool false, .ref s.heap.objs.size, rawInt 0, .none, .none] }) (s.heap.objs.size + 1) s.heap.objs.size 0 .none := by
    have z := Heap.get?_push_size (s.heap.push o) (o := { cls := .type "enumerate", data := .fields #[.none, .bool false, .ref s.heap.objs.size, rawInt 0, .none, .none] }) rfl
    rw [hz] at z
    exact z
  exact ⟨⟨_, he, rfl⟩, h _ he (Heap.get?_push_of_some _ (Heap.get?_push_size _ B.free)) fun b u x => Heap.get?_push_of_some _ (Heap.get?_push_of_some _ x)⟩
def iEnumG (K : PySem.W.Frag) (ta : TA) : TI := fun σ H R => ta σ H fun vs H1 => ∃ s1 : Src, vs = [s1.val] ∧ s1.At K H1 ∧ R (ItE K s1) H1
theorem pi_enumG {X : Cx} {e : Expr} {ta : TA} {p pos tpos : Pos} {elts : List Expr} {kk : Nat} (hg : Gl X "enumerate") (hm : X.mg "enumerate" = none) (ha : PA X [e] ta) (hs : starEach [e] X.env = [(false, eval e X.env)] := by rfl) :
    PI X (.Tuple elts kk tpos) (.Call (.Name "enumerate" p) [e] [] pos) (iEnumG X.K ta) := by
  constructor
  intro pins s σ H R I h
  refine Call_ (ld_blt I hg hm boot_enumerate (PyProof.Rows.callWith_type1 (thn (ha.run pos pins s σ H _ I h) fun us s1 hh => ?_) hs rfl))
  obtain ⟨vs, H1, I1, rr, a, ev, A1, q⟩ := hh
  subst ev
  cases rr with
  | cons r1 rr =>
    cases rr
    obtain ⟨o1, G1, B1, k1, on1⟩ := src_begins I1 r1 A1
    refine enum_begins1 B1 k1 fun h' he e1 hk => wpAny_pyIter_enum he ?_
    have I2 : Inv X pins σ H1 { s1 with heap := h' } := I1.kept (t' := s1.toks) hk
    refine ⟨s1.heap.objs.size + 1, [s1.heap.objs.size + 1, s1.heap.objs.size], _, _, H1, rfl, I2, turn_enumG (Nat.succ_ne_self _), ⟨⟨.none, he⟩, on1 _ _ e1⟩, fun c hcm => ?_, q⟩
    have e' : c = s1.heap.objs.size + 1 ∨ c = s1.heap.objs.size := by simpa using hcm
    have hle : s1.heap.objs.size ≤ c := by
      rcases e' with z | z
      · rw [z]; exact Nat.le_add_right _ _
      · rw [z]; exact Nat.le_refl _
    exact I1.fpOk hle (I1.hok.fresh hle)
end GH
namespace GH
abbrev W := Nat → Nat
def app (u : List Nat) (a : W) : W := fun n => if h : n < u.length then u[n] else a (n - u.length)
def rep (v : List Nat) : W := fun n => v.getD (n % v.length) 0
def pow (v : List Nat) : Nat → List Nat
  | 0 => []
  | n + 1 => v ++ pow v n
abbrev Row := Nat × List Nat
def stp (L : List Nat) (R : List Row) (s c : Nat) : Nat := ((R.getD s (0, [])).2).getD (L.idxOf c) 0
def col (R : List Row) (s : Nat) : Nat := (R.getD s (0, [])).1
def way (L : List Nat) (R : List Row) : Nat → List Nat → List Nat
  | _, [] => []
  | s, c :: w => stp L R s c :: way L R (stp L R s c) w
def endS (L : List Nat) (R : List Row) (s : Nat) (w : List Nat) : Nat := w.foldl (stp L R) s
def run (L : List Nat) (R : List Row) (s : Nat) (a : W) : Nat → Nat
  | 0 => s
  | n + 1 => stp L R (run L R s a n) (a n)
def Io (L : List Nat) (R : List Row) (s : Nat) (a : W) (c : Nat) : Prop := ∀ n, ∃ m, n ≤ m ∧ col R (run L R s a (m + 1)) = c
def Lies (L : List Nat) (R : List Row) (s : Nat) (a : W) : Prop := ∃ c, Io L R s a c ∧ (∀ c', Io L R s a c' → c' ≤ c) ∧ c % 2 = 0
def IsMax (l : List Nat) (m : Nat) : Prop := m ∈ l ∧ ∀ x ∈ l, x ≤ m
def iter (f : Nat → Nat) : Nat → Nat → Nat
  | 0, s => s
  | n + 1, s => iter f n (f s)
theorem pow_length (v : List Nat) : ∀ n, (pow v n).length = n * v.length
  | 0 => by simp [pow]
  | n + 1 => by
    show (v ++ pow v n).length = _
    rw [List.length_append, pow_length v n, Nat.succ_mul, Nat.add_comm]
end GH
namespace GH
open PySem PySem.Spec PyProof.Rows L2
def Besides (x : Addr) (H H' : Hp) : Prop := ∀ b o, b ≠ x → H b = some o → H' b = some o
structure Tups (H H' : Hp) : Prop where
  t : ∀ b xs, H b = some (.tup xs) → H' b = some (.tup xs)
  f : ∀ b o u, H b = some (.frz o u) → H' b = some (.frz o u)
theorem Tups.refl (H : Hp) : Tups H H := ⟨fun _ _ e => e, fun _ _ _ e => e⟩
theorem Tups.trans {H H1 H2 : Hp} (a : Tups H H1) (b : Tups H1 H2) : Tups H H2 := ⟨fun c xs e => b.t c xs (a.t c xs e), fun c o u e => b.f c o u (a.f c o u e)⟩
theorem Tups.seq {K : PySem.W.Frag} {H H' : Hp} {a : Addr} {xs : List V} (s : Tups H H') (h : SqT K H a xs) : SqT K H' a xs := by
  rcases h with (h | ⟨o, h⟩) | h
  · exact .inl (.inl (s.t _ _ h))
  · exact .inl (.inr ⟨o, s.f _ _ _ h⟩)
  · exact .inr h
theorem Same.new {H : Hp} {p : Addr} {o : HO} (h : H p = none) : Same H (upd H p o) := fun b x e => by
  rw [upd_ne (ne_of_none e h)]; exact e
theorem Same.mut {H H' : Hp} {p : Addr} {o : HO} (s : Same H H') (h : H p = none) : Same H (upd H' p o) := fun b x e => by
  rw [upd_ne (ne_of_none e h)]; exact s b x e
theorem Besides.refl (x : Addr) (H : Hp) : Besides x H H := fun _ _ _ e => e
theorem Besides.trans {x : Addr} {H H1 H2 : Hp} (a : Besides x H H1) (b : Besides x H1 H2) : Besides x H H2 := fun c o n e => b c o n (a c o n e)
theorem Same.but {x : Addr} {H H' : Hp} (s : Same H H') : Besides x H H' := fun b o _ e => s b o e
theorem Besides.upd {x : Addr} {H H' : Hp} {o : HO} (s : Besides x H H') : Besides x H (upd H' x o) := fun b u n e => by
  rw [upd_ne n]; exact s b u n e
theorem Besides.new {x p : Addr} {H H' : Hp} {o : HO} (s : Besides x H H') (h : H' p = none) : Besides x H (L2.upd H' p o) := fun b u n e => by
  have e' := s b u n e
  rw [upd_ne (ne_of_none e' h)]; exact e'
structure Ok (P : Program) (w : World) (K : PySem.W.Frag) (mg : Str → Option Value) (base : Heap) (n : Nat) (x : Str) (ps : List Str) (sp : Sp) : Prop where
  ex : ∃ f fd, FnOk P w K mg base CX0 n f fd ps sp ∧ Binds K fd ps [] ∧ mg x = some (.ref f) ∧ PySem.W.keepIn K (.ref f) = true ∧ (∀ (s : Shared) (us : List Value), us.length = ps.length → BindsTo s fd ⟨us, []⟩ (ps.zip us)) ∧ ∃ oc od osl, K.lookup f = some ⟨oc, od, .func fd, osl⟩
section
variable {X : Cx} {n : Nat} {x : Str} {ps : List Str} {sp : Sp} {p pos : Pos} {e : Expr} {es : List Expr} {t : TA}
end
theorem foldl_cat : ∀ (n : Nat) (b a : Array Nat), ((List.replicate n b).foldl (· ++ ·) a).toList = a.toList ++ pow b.toList n
  | 0, b, a => by simp [pow]
  | n + 1, b, a => by
    rw [List.replicate_succ, List.foldl_cons, foldl_cat n b (a ++ b)]
    simp [pow]
theorem pow_nil : ∀ n, pow [] n = []
  | 0 => rfl
  | n + 1 => by show [] ++ pow [] n = []; rw [pow_nil n]; rfl
def rMulS : R2 := fun x y H Q => ∃ (l : List Nat) (n : Nat), x = .str (SX.S l) ∧ y = .int (n : Int) ∧ 1 ≤ n ∧ n ≤ 1000 ∧ l.length ≤ 1000 ∧ Q (.str (SX.S (pow l n))) H
theorem op_mulS {X : Cx} : OpR X (binaryOp .Mult) rMulS := by
  intro pins s σ H x y v u Q I rx ry h
  obtain ⟨l, n, rfl, rfl, h1, h2, h3, q⟩ := h
  obtain ⟨t, rfl⟩ := rx
  obtain ⟨t', rfl⟩ := ry
  have hl : (SX.S l).length = l.length := SX.S_len l
  have hmul : l.length * n ≤ 1000 * 1000 := Nat.mul_le_mul h3 h2
  refine PySem.P.mul_str (by simp; omega) (fun _ _ => ?_) (fun _ _ => ?_) ?_
  · rw [hl]
    have h4 : (1000 : Int) ≤ (2 ^ 63 - 1) / (n : Int) := Int.le_ediv_of_mul_le (by omega) (by omega)
    omega
  · rw [hl, Int.toNat_natCast]
    show decide (l.length * n > sizeLine) = false
    rw [sizeLine_eq]
    exact decide_eq_false (by omega)
  · rw [if_neg (by omega)]
    by_cases hc : ((n : Int) == 1 || (SX.S l).length == 0) = true
    · rw [if_pos hc]
      have e : pow l n = l := by
        rcases Bool.or_eq_true_iff.mp hc with z | z
        · have : n = 1 := by have := eq_of_beq z; omega
          subst this
          show l ++ [] = l
          simp
        · have : l.length = 0 := by have := eq_of_beq z; rw [hl] at this; exact this
          have : l = [] := List.length_eq_zero_iff.mp this
          subst this
          exact pow_nil n
      rw [e] at q
      exact ⟨.str (SX.S l), H, I, ⟨t, rfl⟩, q⟩
    · rw [if_neg hc]
      have e : (⟨(List.replicate ((n : Int)).toNat (SX.S l).cps).foldl (· ++ ·) #[]⟩ : Str) = SX.S (pow l n) := by
        have z := foldl_cat n (SX.S l).cps #[]
        rw [Int.toNat_natCast]
        unfold SX.S at z ⊢
        congr 1
        apply Array.ext'
        rw [z]; simp
      rw [e]
      refine ⟨?_, .str _, H, I.tok _, ⟨_, rfl⟩, q⟩
      rw [SX.S_len, pow_length, Nat.mul_comm, sizeLine_eq]
      omega
end GH
namespace GH
open PySem PySem.Spec PyProof.Rows L2
theorem paired_get {α β : Type} {R : α → β → Prop} : ∀ {xs : List α} {ys : List β} {i : Nat} {x : α}, Paired R xs ys → xs[i]? = some x → ∃ y, ys[i]? = some y ∧ R x y
  | _, _, _, _, .nil, e => by simp at e
  | _, _, 0, _, .cons r _, e => by simp at e; subst e; exact ⟨_, rfl, r⟩
  | _, _, i + 1, x, .cons _ t, e => by
    obtain ⟨y, h1, h2⟩ := paired_get (i := i) t (by simpa using e)
    exact ⟨y, by simpa using h1, h2⟩
theorem paired_get' {α β : Type} {R : α → β → Prop} : ∀ {xs : List α} {ys : List β} {i : Nat} {y : β}, Paired R xs ys → ys[i]? = some y → ∃ x, xs[i]? = some x ∧ R x y
  | _, _, _, _, .nil, e => by simp at e
  | _, _, 0, _, .cons r _, e => by simp at e; subst e; exact ⟨_, rfl, r⟩
  | _, _, i + 1, y, .cons _ t, e => by
    obtain ⟨x, h1, h2⟩ := paired_get' (i := i) t (by simpa using e)
    exact ⟨x, by simpa using h1, h2⟩
end GH
namespace GH
open PySem PySem.Spec PyProof.Rows L2
structure Blt (mg : Str → Option Value) : Prop where
  len_ : mg "len" = none
  all_ : mg "all" = none
  isinstance_ : mg "isinstance" = none
  zip_ : mg "zip" = none
  enumerate_ : mg "enumerate" = none
  range_ : mg "range" = none
  max_ : mg "max" = none
  min_ : mg "min" = none
  abs_ : mg "abs" = none
  divmod_ : mg "divmod" = none
  int_ : mg "int" = none
  str_ : mg "str" = none
  bool_ : mg "bool" = none
  tuple_ : mg "tuple" = none
  list_ : mg "list" = none
  repr_ : mg "repr" = none
  any_ : mg "any" = none
  sorted_ : mg "sorted" = none
  dict_ : mg "dict" = none
  set_ : mg "set" = none
section
variable {X : Cx} {e e2 : Expr} {ta : TA} {p pos : Pos}
end
section
variable {X : Cx} {K : PySem.W.Frag}
end
def Cst (mg : Str → Option Value) (x : Str) (v : V) : Prop := ∃ u, mg x = some u ∧ RelV v u
theorem pe_cst {X : Cx} {x : Str} {v : V} {pos : Pos} (h : Cst X.mg x v) (hg : Gl X x := by rfl) (hd : (x == ("__debug__" : Str)) = false := by decide) : PE X (.Name x pos) (tC v) := by
  obtain ⟨u, m, r⟩ := h
  exact pe_glob hg m r hd
theorem pe_type {X : Cx} {x : Str} {T : String} {pos : Pos} (hm : X.mg x = none) (hv : bootBuiltins x = some (.type T)) (hg : Gl X x := by rfl) (hn : x ≠ "__name__" := by decide) (hd : (x == ("__debug__" : Str)) = false := by decide) : PE X (.Name x pos) (tC (.ty T)) := pe_bltn hg hm hv rfl hn hd
theorem ty_tup {K : PySem.W.Frag} {H : Hp} {a : Addr} {xs : List V} (h : SqT K H a xs) : TyX K H (.ref a) (.type "tuple") := by
  rcases h with (h | ⟨o, h⟩) | ⟨o, its, n, lk, hc, _⟩
  · exact .base (.tup h)
  · exact .fTuple h
  · exact .kTuple lk hc
end GH
namespace GH
open PySem PySem.Spec PyProof.Rows L2
def Def (K : PySem.W.Frag) (mg : Str → Option Value) (x : Str) (st : Stmt) : Prop := ∃ f fd, Fun K x x st f fd ∧ mg x = some (.ref f)
def kitBs : List String := ["NoneType", "bool", "int", "str", "list", "tuple", "dict"]
def KitNo (K : PySem.W.Frag) (C : Addr) : Prop := ∀ B ∈ kitBs, PySem.W.kitOne K (.type B) (.ref C) = some false
structure MachCls (K : PySem.W.Frag) (mg : Str → Option Value) (sI sL sS : Stmt) : Prop where
  ex : ∃ (C fI pL gL pS gS : Addr) (fdI fdL fdS : FuncData), mg "Machine" = some (.ref C) ∧ Cls K C ∧ Mk K C fI ∧ NoAttr K C "held_letters" ∧ NoAttr K C "held_states" ∧
    Fun K "__init__" "Machine.__init__" sI fI fdI ∧ PropOf K C "letters" pL gL ∧ Fun K "letters" "Machine.letters" sL gL fdL ∧ PropOf K C "states" pS gS ∧ Fun K "states" "Machine.states" sS gS fdS ∧
    PySem.W.findIn K (.ref C) "__class__" = some (some (.builtin "object.__class__")) ∧ PySem.W.specialIn K (.builtin "object.__class__") "__get__" = some (some (.builtin "getset_descriptor.__get__")) ∧ PySem.W.takesIn K (.builtin "object.__class__") = some true ∧
    PySem.W.mroIn K C (.type "object") = some true ∧ PySem.W.kitOne K (.ref C) (.ref C) = some true ∧ KitNo K C
def machC (mg : Str → Option Value) : Addr := match mg "Machine" with
  | some (.ref C) => C
  | _ => 0
section
variable {K : PySem.W.Frag} {mg : Str → Option Value} {sI sL sS : Stmt}
theorem MachCls.c (M : MachCls K mg sI sL sS) : ∃ (fI pL gL pS gS : Addr) (fdI fdL fdS : FuncData), mg "Machine" = some (.ref (machC mg)) ∧ Cls K (machC mg) ∧ Mk K (machC mg) fI ∧ NoAttr K (machC mg) "held_letters" ∧ NoAttr K (machC mg) "held_states" ∧
    Fun K "__init__" "Machine.__init__" sI fI fdI ∧ PropOf K (machC mg) "letters" pL gL ∧ Fun K "letters" "Machine.letters" sL gL fdL ∧ PropOf K (machC mg) "states" pS gS ∧ Fun K "states" "Machine.states" sS gS fdS := by
  obtain ⟨C, fI, pL, gL, pS, gS, fdI, fdL, fdS, m, h1, h2, h3, h4, h5, h6, h7, h8, h9, _⟩ := M.ex
  have e : machC mg = C := by unfold machC; rw [m]
  rw [e]
  exact ⟨fI, pL, gL, pS, gS, fdI, fdL, fdS, m, h1, h2, h3, h4, h5, h6, h7, h8, h9⟩
theorem MachCls.g (M : MachCls K mg sI sL sS) : mg "Machine" = some (.ref (machC mg)) := by
  obtain ⟨_, _, _, _, _, _, _, _, m, _⟩ := M.c
  exact m
theorem MachCls.cl (M : MachCls K mg sI sL sS) : Cls K (machC mg) := by
  obtain ⟨_, _, _, _, _, _, _, _, _, m, _⟩ := M.c
  exact m
theorem MachCls.n1 (M : MachCls K mg sI sL sS) : NoAttr K (machC mg) "held_letters" := by
  obtain ⟨_, _, _, _, _, _, _, _, _, _, _, m, _⟩ := M.c
  exact m
theorem MachCls.n2 (M : MachCls K mg sI sL sS) : NoAttr K (machC mg) "held_states" := by
  obtain ⟨_, _, _, _, _, _, _, _, _, _, _, _, m, _⟩ := M.c
  exact m
theorem MachCls.no (M : MachCls K mg sI sL sS) : KitNo K (machC mg) := by
  obtain ⟨C, fI, pL, gL, pS, gS, fdI, fdL, fdS, m, h1, h2, h3, h4, h5, h6, h7, h8, h9, a1, a2, a3, a4, a5, a6⟩ := M.ex
  have z : machC mg = C := by unfold machC; rw [m]
  rw [z]
  exact a6
theorem MachCls.ty (M : MachCls K mg sI sL sS) {H : Hp} {a dx : Addr} {fs : List (Str × V)} (e : H a = some (.ins (machC mg) dx fs)) : TyX K H (.ref a) (.ref (machC mg)) ∧ PySem.W.kitOne K (.ref (machC mg)) (.ref (machC mg)) = some true ∧ KitNo K (machC mg) := by
  obtain ⟨C, fI, pL, gL, pS, gS, fdI, fdL, fdS, m, h1, h2, h3, h4, h5, h6, h7, h8, h9, a1, a2, a3, a4, a5, a6⟩ := M.ex
  have z : machC mg = C := by unfold machC; rw [m]
  rw [z] at e ⊢
  exact ⟨.base (.ins e h1 a1 a2 a3 a4), a5, a6⟩
end
def mF (s q : V) : List (Str × V) := [("held_letters", s), ("held_states", q)]
section
variable {X : Cx} {sI sL sS : Stmt} {e : Expr} {te : TE} {pos : Pos}
theorem fn_get {P : Program} {w : World} {K : PySem.W.Frag} {mg : Str → Option Value} {base : Heap} {name qual f : Str} {st : Stmt} {fa C : Addr} {fd : FuncData} (F : Fun K name qual st fa fd) (S : FnScope ["self"] ["self"] (defScope st)) (hb : ∃ p1 p2 p3, defBody st = [.Return (some (.Attribute (.Name "self" p1) f p2)) p3]) (c : Cls K C) (n : NoAttr K C f) :
    FnOk P w K mg base CX0 1 fa fd ["self"] (getSp C f) := by
  obtain ⟨p1, p2, p3, hb⟩ := hb
  obtain ⟨oc, od, kV, doc, pm, an, cdv, ct, osl, rfl, lk, hcd⟩ := F.ex
  exact fn_getter lk hcd S rfl hb c n
end
end GH
namespace GH
open PySem PySem.Spec PyProof.Rows L2
structure Dn where
  adr : PySem.W.Frag → Addr
  nm : Str
  qu : Str
  st : Stmt
def Dn.seen (K : PySem.W.Frag) (d : Dn) : He.FnV := match K.lookup (d.adr K) with
  | some ⟨_, _, .func u, _⟩ => some (u.name, u.qualname, u.params, u.body, u.scope, u.globals, u.closure, u.defaults, u.builtins)
  | _ => none
def Dn.due (d : Dn) : He.FnV := some (d.nm, d.qu, defArgs d.st, .stmts (defBody d.st), defScope d.st, mainGlobals, [], .none, builtinsNs)
def Dn.fit (K : PySem.W.Frag) (d : Dn) : Bool := PySem.W.keepIn K (.ref (d.adr K)) && (match K.lookup (d.adr K) with
  | some ⟨_, _, .func u, _⟩ => PySem.W.codeIn K u.code d.qu
  | _ => false)
theorem Dn.is {K : PySem.W.Frag} {d : Dn} (e : d.seen K = d.due) (c : d.fit K = true) : ∃ u, Fun K d.nm d.qu d.st (d.adr K) u := by
  obtain ⟨kp, c⟩ := He.ba c
  unfold Dn.seen at e
  cases q : K.lookup (d.adr K) with
  | none => rw [q] at c; cases c
  | some o =>
    obtain ⟨oc, od, dt, osl⟩ := o
    rw [q] at c e
    cases dt with
    | func u =>
      obtain ⟨m1, m2, m3, m4, m5, m6, m7, m8, m9, m10, m11, m12, m13, m14, m15⟩ := u
      have e2 : (some (m1, m2, m3, m4, m5, m6, m7, m8, m15) : He.FnV) = some (d.nm, d.qu, defArgs d.st, .stmts (defBody d.st), defScope d.st, mainGlobals, [], .none, builtinsNs) := e
      simp only [Option.some.injEq, Prod.mk.injEq] at e2
      obtain ⟨i1, i2, i3, i4, i5, i6, i7, i8, i9⟩ := e2
      subst i1 i2 i3 i4 i5 i6 i7 i8 i9
      exact ⟨_, fun_mk q c kp⟩
    | _ => cases c
def lookM (ds : List Dn) (ex : PySem.W.Frag → Bool) (K : PySem.W.Frag) : He.Al := (ex K && ds.all fun d => d.fit K, ds.map fun d => d.seen K)
def dueM (ds : List Dn) : He.Al := (true, ds.map Dn.due)
def SaysM (ds : List Dn) (ex : PySem.W.Frag → Bool) (K : PySem.W.Frag) : Prop := lookM ds ex K = dueM ds
def lookG (n : Nat) (ds : List Dn) (ex : PySem.W.Frag → Bool) (g : Addr → Option Obj) : He.Al := lookM ds ex (He.frG g (He.asD g n))
def hookM (n : Nat) (ds : List Dn) (ex : PySem.W.Frag → Bool) : PySem.W.Hook where
  α := He.Al
  obs := fun s => lookG n ds ex s.heap.get?
  val := fun _ => dueM ds
  says := fun _ h => ∃ K : PySem.W.Frag, K.In h ∧ SaysM ds ex K
  of := fun _ _ e => ⟨_, He.frG_in, e⟩
  keeps := fun _ _ _ ⟨K, hK, c⟩ k => ⟨K, PySem.W.Frag.In.keeps hK k, c⟩
def lookR (n : Nat) (ds : List Dn) (ex : PySem.W.Frag → Bool) (g : Addr → Option Obj) : He.Al := lookM ds ex (He.frG g (List.range n))
def hookR (n : Nat) (ds : List Dn) (ex : PySem.W.Frag → Bool) : PySem.W.Hook where
  α := He.Al
  obs := fun s => lookR n ds ex s.heap.get?
  val := fun _ => dueM ds
  says := fun _ h => ∃ K : PySem.W.Frag, K.In h ∧ SaysM ds ex K
  of := fun _ _ e => ⟨_, He.frG_in, e⟩
  keeps := fun _ _ _ ⟨K, hK, c⟩ k => ⟨K, PySem.W.Frag.In.keeps hK k, c⟩
theorem lookR_eq {n : Nat} {ds : List Dn} {ex : PySem.W.Frag → Bool} {g : Addr → Option Obj} {s : Shared} (h : ∀ a, g a = s.heap.get? a) : lookR n ds ex g = (hookR n ds ex).obs s := by
  have e : g = s.heap.get? := funext h
  rw [e] <;> rfl
section
variable {ds : List Dn} {ex : PySem.W.Frag → Bool} {K : PySem.W.Frag} {mg : Str → Option Value} {h : Heap}
theorem SaysM.more (c : SaysM ds ex K) : ex K = true := (He.ba (show (ex K && ds.all fun d => d.fit K) = true from congrArg (fun z : He.Al => z.1) c)).1
theorem SaysM.is (c : SaysM ds ex K) (i : Nat) {d : Dn} (h : ds[i]? = some d := by rfl) : ∃ u, Fun K d.nm d.qu d.st (d.adr K) u := by
  have c2 := (He.ba (show (ex K && ds.all fun d => d.fit K) = true from congrArg (fun z : He.Al => z.1) c)).2
  have e : ds.map (fun d => d.seen K) = ds.map Dn.due := congrArg (fun z : He.Al => z.2) c
  have e2 : (ds.map fun d => d.seen K)[i]? = (ds.map Dn.due)[i]? := by rw [e]
  rw [List.getElem?_map, List.getElem?_map, h] at e2
  exact Dn.is (Option.some.inj e2) (List.all_eq_true.mp c2 d (List.mem_of_getElem? h))
def dnG (x : Str) (st : Stmt) : Dn := ⟨fun K => He.ga K x, x, x, st⟩
def facts (fs : List He.Fa) (K : PySem.W.Frag) : Bool := fs.all fun f => f.ok K
theorem facts_at {fs : List He.Fa} (c : facts fs K = true) (i : Nat) {f : He.Fa} (h : fs[i]? = some f := by rfl) : f.ok K = true := List.all_eq_true.mp c f (List.mem_of_getElem? h)
theorem def_is (X : K.In h) (G : h.Ns mainGlobals mg) {x : Str} {st : Stmt} (g : (He.Fa.glo x).ok K = true) (c : ∃ u, Fun K x x st (He.ga K x) u) : Def K mg x st := by
  obtain ⟨u, F⟩ := c
  exact ⟨_, u, F, He.glo_ok X G g⟩
theorem cst_int (X : K.In h) (G : h.Ns mainGlobals mg) {x : Str} {i : Int} (c : (He.Fa.int x i).ok K = true) : Cst mg x (.int i) := by
  obtain ⟨t, e⟩ := He.int_ok X G c
  exact ⟨_, e, t, rfl⟩
theorem cst_str (X : K.In h) (G : h.Ns mainGlobals mg) {x z : Str} (c : (He.Fa.str x z).ok K = true) : Cst mg x (.str z) := by
  obtain ⟨t, e⟩ := He.str_ok X G c
  exact ⟨_, e, t, rfl⟩
def mP (x f : Str) (K : PySem.W.Frag) : Addr := He.ma K (He.ga K x) f
def mGet (x f : Str) (K : PySem.W.Frag) : Addr := match PySem.W.recIn K (mP x f K) "property" with
  | some (.ref g :: _) => g
  | _ => 0
def propB (x f : Str) (K : PySem.W.Frag) : Bool := He.eqO (PySem.W.findIn K (.ref (He.ga K x)) f) (some (some (.ref (mP x f K)))) && (He.eqO (PySem.W.specialIn K (.ref (mP x f K)) "__get__") (some (some (.builtin "property.__get__"))) &&
  (decide (PySem.W.takesIn K (.ref (mP x f K)) = some true) && (match PySem.W.recIn K (mP x f K) "property" with
    | some (.ref _ :: _) => true
    | _ => false)))
theorem propB_ok {x f : Str} (c : propB x f K = true) : PropOf K (He.ga K x) f (mP x f K) (mGet x f K) := by
  obtain ⟨c1, c⟩ := He.ba c
  obtain ⟨c2, c⟩ := He.ba c
  obtain ⟨c3, c4⟩ := He.ba c
  refine ⟨He.eqO_ok c1, He.eqO_ok c2, of_decide_eq_true c3, ?_⟩
  unfold mGet
  split at c4
  · rename_i g r e
    exact ⟨r, by rw [e]⟩
  · cases c4
def clsB (x : Str) (K : PySem.W.Frag) : Bool := He.eqO (PySem.W.findIn K (.ref (He.ga K x)) "__class__") (some (some (.builtin "object.__class__"))) && (He.eqO (PySem.W.specialIn K (.builtin "object.__class__") "__get__") (some (some (.builtin "getset_descriptor.__get__"))) &&
  (decide (PySem.W.takesIn K (.builtin "object.__class__") = some true) && (decide (PySem.W.mroIn K (He.ga K x) (.type "object") = some true) && (decide (PySem.W.kitOne K (.ref (He.ga K x)) (.ref (He.ga K x)) = some true) && kitBs.all fun B => decide (PySem.W.kitOne K (.type B) (.ref (He.ga K x)) = some false)))))
def machFa : List He.Fa := [.glo "Machine", .cls "Machine", .mkr "Machine", .noat "Machine" "held_letters", .noat "Machine" "held_states"]
def machB (K : PySem.W.Frag) : Bool := facts machFa K && (propB "Machine" "letters" K && (propB "Machine" "states" K && clsB "Machine" K))
def dnI (st : Stmt) : Dn := ⟨mP "Machine" "__init__", "__init__", "Machine.__init__", st⟩
def dnL (st : Stmt) : Dn := ⟨mGet "Machine" "letters", "letters", "Machine.letters", st⟩
def dnS (st : Stmt) : Dn := ⟨mGet "Machine" "states", "states", "Machine.states", st⟩
theorem mach_is (X : K.In h) (G : h.Ns mainGlobals mg) {sI sL sS : Stmt} (c : machB K = true) (cI : ∃ u, Fun K "__init__" "Machine.__init__" sI (mP "Machine" "__init__" K) u) (cL : ∃ u, Fun K "letters" "Machine.letters" sL (mGet "Machine" "letters" K) u) (cS : ∃ u, Fun K "states" "Machine.states" sS (mGet "Machine" "states" K) u) : MachCls K mg sI sL sS := by
  obtain ⟨c0, c⟩ := He.ba c
  obtain ⟨c1, c⟩ := He.ba c
  obtain ⟨c2, c⟩ := He.ba c
  obtain ⟨d1, c⟩ := He.ba c
  obtain ⟨d2, c⟩ := He.ba c
  obtain ⟨d3, c⟩ := He.ba c
  obtain ⟨d4, c⟩ := He.ba c
  obtain ⟨d5, d6⟩ := He.ba c
  obtain ⟨u1, F1⟩ := cI
  obtain ⟨u2, F2⟩ := cL
  obtain ⟨u3, F3⟩ := cS
  exact ⟨_, _, _, _, _, _, u1, u2, u3, He.glo_ok X G (facts_at c0 0), He.cls_ok (facts_at c0 1), He.mkr_ok (facts_at c0 2), He.noat_ok (facts_at c0 3), He.noat_ok (facts_at c0 4), F1, propB_ok c1, F2, propB_ok c2, F3,
    He.eqO_ok d1, He.eqO_ok d2, of_decide_eq_true d3, of_decide_eq_true d4, of_decide_eq_true d5, fun B hB => of_decide_eq_true (List.all_eq_true.mp d6 B hB)⟩
end
theorem Ok.every {P : Program} {w : World} {K : PySem.W.Frag} {mg : Str → Option Value} {n : Nat} {x p : Str} {sp : Sp} {f : Addr} (O : ∀ base : Heap, Ok P w K mg base n x [p] sp) (m : mg x = some (.ref f)) :
    ∃ fd : FuncData, (∀ (s : Shared) (u : Value), BindsTo s fd ⟨[u], []⟩ [(p, u)]) ∧ ∀ base : Heap, FnOk P w K mg base CX0 n f fd [p] sp := by
  obtain ⟨f0, fd, F, b, m0, k, bt, oc, od, osl, lk⟩ := (O default).ex
  rw [m] at m0
  cases m0
  refine ⟨fd, fun s u => bt s [u] rfl, fun base => ?_⟩
  obtain ⟨f1, fd1, F1, _, m1, _, _, oc1, od1, osl1, lk1⟩ := (O base).ex
  rw [m] at m1
  cases m1
  rw [lk] at lk1
  cases lk1
  exact F1
end GH
namespace GH
open PySem PySem.Spec PyProof.Rows L2
def tAlt (t1 t2 : TE) : TE := fun σ H Q => t1 σ H Q ∨ t2 σ H Q
theorem pe_alt {X : Cx} {e : Expr} {t1 t2 : TE} (h1 : PE X e t1) (h2 : PE X e t2) : PE X e (tAlt t1 t2) :=
  ⟨fun pins s σ H Q I h => h.elim (fun z => h1.run pins s σ H Q I z) fun z => h2.run pins s σ H Q I z⟩
def bAlt (t1 t2 : TT) : TT := fun σ H Q => t1 σ H Q ∨ t2 σ H Q
def iAlt (t1 t2 : TI) : TI := fun σ H R => t1 σ H R ∨ t2 σ H R
theorem pi_alt {X : Cx} {tg e : Expr} {t1 t2 : TI} (h1 : PI X tg e t1) (h2 : PI X tg e t2) : PI X tg e (iAlt t1 t2) :=
  ⟨fun pins s σ H R I h => h.elim (fun z => h1.run pins s σ H R I z) fun z => h2.run pins s σ H R I z⟩
def iKeysL (td : TE) : TI := fun σ H R => td σ H fun x H1 => ∃ d kvs, x = .ref d ∧ ((∃ o, H1 d = some (.frz o (.dK kvs)) ∧ R (Itk d o kvs) H1) ∨ (H1 d = some (.dK kvs) ∧ ∀ o, R (Itk d o kvs) (upd H1 d (.frz o (.dK kvs)))))
def rUpd : V → List V → Hp → VK → Prop := fun x xs H Q => ∃ (d o : Addr) (kvs more : List (Key × V)), x = .ref d ∧ xs = [.ref o] ∧ H d = some (.dK kvs) ∧ H o = some (.dK more) ∧ d ≠ o ∧ kvs.length + more.length ≤ 1000 ∧ Q .non (upd H d (.dK (mergeK kvs more)))
end GH
namespace GH
open PySem PySem.Spec PyProof.Rows L2
def clsA (mg : Str → Option Value) (c : Str) : Addr := match mg c with
  | some (.ref C) => C
  | _ => 0
theorem clsA_of {mg : Str → Option Value} {c : Str} {C : Addr} (h : mg c = some (.ref C)) : clsA mg c = C := by unfold clsA; rw [h]
structure ClsAt (K : PySem.W.Frag) (mg : Str → Option Value) (c : Str) : Prop where
  g : mg c = some (.ref (clsA mg c))
  cl : Cls K (clsA mg c)
structure MethAt (K : PySem.W.Frag) (mg : Str → Option Value) (c m qual : Str) (st : Stmt) : Prop where
  ex : ∃ f fd, Cls K (clsA mg c) ∧ Meth K (clsA mg c) m f ∧ Fun K m qual st f fd
structure NewAt (K : PySem.W.Frag) (mg : Str → Option Value) (c qual : Str) (st : Stmt) : Prop where
  ex : ∃ f fd, mg c = some (.ref (clsA mg c)) ∧ Cls K (clsA mg c) ∧ Mk K (clsA mg c) f ∧ Fun K "__init__" qual st f fd
structure OkM (P : Program) (w : World) (K : PySem.W.Frag) (mg : Str → Option Value) (base : Heap) (n : Nat) (c m : Str) (ps : List Str) (sp : Sp) : Prop where
  ex : ∃ f fd, Cls K (clsA mg c) ∧ Meth K (clsA mg c) m f ∧ FnOk P w K mg base CX0 n f fd ps sp ∧ Binds K fd ps []
structure OkN (P : Program) (w : World) (K : PySem.W.Frag) (mg : Str → Option Value) (base : Heap) (n : Nat) (c : Str) (ps : List Str) (sp : Sp) : Prop where
  ex : ∃ f fd, mg c = some (.ref (clsA mg c)) ∧ Mk K (clsA mg c) f ∧ FnOk P w K mg base CX0 n f fd ps sp ∧ Binds K fd ps []
section
variable {P : Program} {w : World} {K : PySem.W.Frag} {mg : Str → Option Value} {base : Heap} {k : Nat} {c m qual : Str} {st : Stmt} {N ps : List Str} {sp : Sp}
end
section
variable {X : Cx} {n : Nat} {c m x : Str} {ps : List Str} {sp : Sp} {p pos apos : Pos} {e o : Expr} {es : List Expr} {ta : TE} {t : TA} {mg : Str → Option Value}
end
section
variable {K : PySem.W.Frag} {mg : Str → Option Value} {h : Heap}
def dnM (c m qual : Str) (st : Stmt) : Dn := ⟨mP c m, m, qual, st⟩
theorem meth_is (X : K.In h) (G : h.Ns mainGlobals mg) {c m qual : Str} {st : Stmt} (g : (He.Fa.glo c).ok K = true) (cl : (He.Fa.cls c).ok K = true) (me : (He.Fa.meth c m).ok K = true) (F : ∃ u, Fun K m qual st (mP c m K) u) : MethAt K mg c m qual st := by
  obtain ⟨u, F⟩ := F
  have e : clsA mg c = He.ga K c := clsA_of (He.glo_ok X G g)
  exact ⟨_, u, by rw [e]; exact He.cls_ok cl, by rw [e]; exact He.meth_ok me, F⟩
end
structure PropM (K : PySem.W.Frag) (mg : Str → Option Value) (c m qual : Str) (st : Stmt) : Prop where
  ex : ∃ pa f fd, Cls K (clsA mg c) ∧ PropOf K (clsA mg c) m pa f ∧ Fun K m qual st f fd
def dnP (c m qual : Str) (st : Stmt) : Dn := ⟨mGet c m, m, qual, st⟩
end GH
namespace GH
open PySem PySem.Spec PyProof.Rows L2
def eqStrs : List Str → List Value → Bool
  | [], [] => true
  | z :: zs, .str y _ :: us => decide (y = z) && eqStrs zs us
  | _, _ => false
def tupB (x : Str) (zs : List Str) (K : PySem.W.Frag) : Bool := match PySem.W.nsIn K mainGlobals x with
  | some (some (.ref a)) => (match K.lookup a with
    | some o => decide (o.cls = .type "tuple") && o.dict.isNone && (match o.data with
      | .seq its _ => decide (its.size ≤ 1000) && eqStrs zs its.toList
      | _ => false)
    | none => false)
  | _ => false
def SqK (K : PySem.W.Frag) (a : Addr) (xs : List V) : Prop := ∃ (o : Obj) (its : Array Value) (n : Nat), K.lookup a = some o ∧ o.cls = .type "tuple" ∧ o.dict = none ∧ o.data = .seq its n ∧ its.size ≤ sizeLine ∧ Vals xs its.toList
theorem SqK.sqT {K : PySem.W.Frag} {a : Addr} {xs : List V} (h : SqK K a xs) (H : Hp) : SqT K H a xs := by
  obtain ⟨o, its, n, h1, h2, _, h3, h4, h5⟩ := h
  exact .inr ⟨o, its, n, h1, h2, h3, h4, h5⟩
structure CstT (K : PySem.W.Frag) (mg : Str → Option Value) (x : Str) (zs : List Str) : Prop where
  ex : ∃ a, mg x = some (.ref a) ∧ SqK K a (zs.map V.str)
end GH
namespace GH
open PySem PySem.Spec PyProof.Rows L2
structure CMetAt (K : PySem.W.Frag) (mg : Str → Option Value) (c m qual : Str) (st : Stmt) : Prop where
  ex : ∃ f p fd mc, mg c = some (.ref (clsA mg c)) ∧ ClX.CRead K (clsA mg c) mc ∧ ClX.CMet K (clsA mg c) mc m p f ∧ Fun K m qual st f fd
structure NeAt (K : PySem.W.Frag) (mg : Str → Option Value) (c : Str) : Prop where
  ne : PySem.W.findIn K (.ref (clsA mg c)) "__ne__" = some (some (.builtin "object.__ne__"))
  mr : PySem.W.mroIn K (clsA mg c) (.type "object") = some true
  kn : ∀ T ∈ ["NoneType", "bool", "int", "str", "list", "tuple", "dict"], PySem.W.mroIn K (clsA mg c) (.type T) = some false
section
variable {K : PySem.W.Frag} {mg : Str → Option Value} {h : Heap}
def cmP (c m : Str) (K : PySem.W.Frag) : Addr := He5.wf K (He.ga K c) "classmethod" m
def cmetB (c m : Str) (K : PySem.W.Frag) : Bool := PySem.W.readsIn K (He.ga K c) (.type "type") && (He5.wrapB K (He.ga K c) "classmethod" "classmethod.__get__" m && PySem.W.fnIn K (cmP c m K))
def neB (c : Str) (K : PySem.W.Frag) : Bool := He.eqO (PySem.W.findIn K (.ref (He.ga K c)) "__ne__") (some (some (.builtin "object.__ne__"))) && (decide (PySem.W.mroIn K (He.ga K c) (.type "object") = some true) && ["NoneType", "bool", "int", "str", "list", "tuple", "dict"].all fun T => decide (PySem.W.mroIn K (He.ga K c) (.type T) = some false))
def dnC (c m qual : Str) (st : Stmt) : Dn := ⟨cmP c m, m, qual, st⟩
theorem cread_by {C : Addr} (h : PySem.W.readsIn K C (.type "type") = true) : ClX.CRead K C (.type "type") := by
  refine ⟨h, ?_⟩
  unfold PySem.W.readsIn at h
  obtain ⟨h, _⟩ := He.ba h
  obtain ⟨h, _⟩ := He.ba h
  obtain ⟨h, h3⟩ := He.ba h
  obtain ⟨_, h2⟩ := He.ba h
  unfold PySem.W.specialIn
  rw [beq_iff_eq.mp h2, Option.bind_some]
  exact beq_iff_eq.mp h3
theorem cmet_is (X : K.In h) (G : h.Ns mainGlobals mg) {c m qual : Str} {st : Stmt} (g : (He.Fa.glo c).ok K = true) (b : cmetB c m K = true) (F : ∃ u, Fun K m qual st (cmP c m K) u) : CMetAt K mg c m qual st := by
  obtain ⟨u, F⟩ := F
  obtain ⟨b1, b⟩ := He.ba b
  obtain ⟨b2, b3⟩ := He.ba b
  have e : clsA mg c = He.ga K c := clsA_of (He.glo_ok X G g)
  exact ⟨_, He.ma K (He.ga K c) m, u, .type "type", by rw [e]; exact He.glo_ok X G g, by rw [e]; exact cread_by b1, by rw [e]; exact He5.cmet_of b2 b3, F⟩
theorem ne_is (X : K.In h) (G : h.Ns mainGlobals mg) {c : Str} (g : (He.Fa.glo c).ok K = true) (b : neB c K = true) : NeAt K mg c := by
  obtain ⟨b1, b⟩ := He.ba b
  obtain ⟨b2, b3⟩ := He.ba b
  have e : clsA mg c = He.ga K c := clsA_of (He.glo_ok X G g)
  exact ⟨by rw [e]; exact He.eqO_ok b1, by rw [e]; exact of_decide_eq_true b2, by rw [e]; exact fun T hT => of_decide_eq_true (List.all_eq_true.mp b3 T hT)⟩
end
end GH
namespace GH
open PySem PySem.Spec PyProof.Rows L2
def top (i : Nat) : Stmt := PySem.Challenge.pw_guardhopes_k05_machines_compared.main.body.getD i (.Pass ⟨0, 0, 0, 0⟩)
abbrev s_InvalidText___init__ : Stmt := inClass (top 5) 0
abbrev s_InvalidLetters___init__ : Stmt := inClass (top 6) 0
abbrev s_InvalidStates___init__ : Stmt := inClass (top 7) 0
abbrev s_is_integer : Stmt := top 14
theorem sc_is_integer : FnScope ["value", "least", "greatest"] ["value", "least", "greatest"] (defScope s_is_integer) := ⟨rfl, rfl, rfl, by decide +kernel, rfl, by decide +kernel, by decide +kernel⟩
abbrev s_is_word_of : Stmt := top 15
theorem sc_is_word_of : FnScope ["value", "signs", "most", "sign"] ["value", "signs", "most"] (defScope s_is_word_of) := ⟨rfl, rfl, rfl, by decide +kernel, rfl, by decide +kernel, by decide +kernel⟩
abbrev s_is_tuple_of : Stmt := top 16
theorem sc_is_tuple_of : FnScope ["value", "many"] ["value", "many"] (defScope s_is_tuple_of) := ⟨rfl, rfl, rfl, by decide +kernel, rfl, by decide +kernel, by decide +kernel⟩
abbrev s_are_letters : Stmt := top 18
theorem sc_are_letters : FnScope ["value", "one", "other"] ["value"] (defScope s_are_letters) := ⟨rfl, rfl, rfl, by decide +kernel, rfl, by decide +kernel, by decide +kernel⟩
abbrev s_is_state : Stmt := top 19
theorem sc_is_state : FnScope ["value", "letters", "many", "target"] ["value", "letters", "many"] (defScope s_is_state) := ⟨rfl, rfl, rfl, by decide +kernel, rfl, by decide +kernel, by decide +kernel⟩
abbrev s_digit_of : Stmt := top 20
theorem sc_digit_of : FnScope ["text"] ["text"] (defScope s_digit_of) := ⟨rfl, rfl, rfl, by decide +kernel, rfl, by decide +kernel, by decide +kernel⟩
abbrev s_state_of : Stmt := top 21
theorem sc_state_of : FnScope ["row", "words", "word"] ["row"] (defScope s_state_of) := ⟨rfl, rfl, rfl, by decide +kernel, rfl, by decide +kernel, by decide +kernel⟩
abbrev s_Machine___init__ : Stmt := inClass (top 22) 0
theorem sc_Machine___init__ : FnScope ["self", "letters", "states", "index", "state"] ["self", "letters", "states"] (defScope s_Machine___init__) := ⟨rfl, rfl, rfl, by decide +kernel, rfl, by decide +kernel, by decide +kernel⟩
abbrev s_Machine_read : Stmt := inClass (top 22) 1
theorem sc_Machine_read : FnScope ["cls", "text", "head", "rows", "words", "machine", "row"] ["cls", "text"] (defScope s_Machine_read) := ⟨rfl, rfl, rfl, by decide +kernel, rfl, by decide +kernel, by decide +kernel⟩
abbrev s_Machine_letters : Stmt := inClass (top 22) 2
theorem sc_Machine_letters : FnScope ["self"] ["self"] (defScope s_Machine_letters) := ⟨rfl, rfl, rfl, by decide +kernel, rfl, by decide +kernel, by decide +kernel⟩
abbrev s_Machine_states : Stmt := inClass (top 22) 3
theorem sc_Machine_states : FnScope ["self"] ["self"] (defScope s_Machine_states) := ⟨rfl, rfl, rfl, by decide +kernel, rfl, by decide +kernel, by decide +kernel⟩
abbrev s_Machine___len__ : Stmt := inClass (top 22) 4
theorem sc_Machine___len__ : FnScope ["self"] ["self"] (defScope s_Machine___len__) := ⟨rfl, rfl, rfl, by decide +kernel, rfl, by decide +kernel, by decide +kernel⟩
abbrev s_Machine___bool__ : Stmt := inClass (top 22) 5
theorem sc_Machine___bool__ : FnScope ["self"] ["self"] (defScope s_Machine___bool__) := ⟨rfl, rfl, rfl, by decide +kernel, rfl, by decide +kernel, by decide +kernel⟩
abbrev s_Machine___iter__ : Stmt := inClass (top 22) 6
abbrev s_Machine___str__ : Stmt := inClass (top 22) 7
theorem sc_Machine___str__ : FnScope ["self", "rows", "target", "colour", "targets"] ["self"] (defScope s_Machine___str__) := ⟨rfl, rfl, rfl, by decide +kernel, rfl, by decide +kernel, by decide +kernel⟩
abbrev s_Machine___eq__ : Stmt := inClass (top 22) 8
theorem sc_Machine___eq__ : FnScope ["self", "other"] ["self", "other"] (defScope s_Machine___eq__) := ⟨rfl, rfl, rfl, by decide +kernel, rfl, by decide +kernel, by decide +kernel⟩
abbrev s_Machine_changed : Stmt := inClass (top 22) 9
abbrev s__law_bag : Stmt := top 24
theorem sc__law_bag : FnScope ["_law_script", "_law_turn", "_law_figure", "_law_seed", "_law_each"] ["_law_script", "_law_turn"] (defScope s__law_bag) := ⟨rfl, rfl, rfl, by decide +kernel, rfl, by decide +kernel, by decide +kernel⟩
abbrev s__law_take : Stmt := top 25
theorem sc__law_take : FnScope ["_law_bag_here", "_law_many", "_law_digit"] ["_law_bag_here", "_law_many"] (defScope s__law_take) := ⟨rfl, rfl, rfl, by decide +kernel, rfl, by decide +kernel, by decide +kernel⟩
abbrev s__law_signs : Stmt := top 26
theorem sc__law_signs : FnScope ["_law_bag_here"] ["_law_bag_here"] (defScope s__law_signs) := ⟨rfl, rfl, rfl, by decide +kernel, rfl, by decide +kernel, by decide +kernel⟩
abbrev s__law_rows : Stmt := top 27
theorem sc__law_rows : FnScope ["_law_bag_here", "_law_signs_here", "_law_most", "_law_many", "_law_found", "_law_top", "_law_at", "_law_way", "_law_colour", "_law_goals", "_law_sign"] ["_law_bag_here", "_law_signs_here", "_law_most"] (defScope s__law_rows) := ⟨rfl, rfl, rfl, by decide +kernel, rfl, by decide +kernel, by decide +kernel⟩
abbrev s__law_page : Stmt := top 28
theorem sc__law_page : FnScope ["_law_signs_here", "_law_rows_here", "_law_lines", "_law_colour", "_law_goals", "_law_goal"] ["_law_signs_here", "_law_rows_here"] (defScope s__law_page) := ⟨rfl, rfl, rfl, by decide +kernel, rfl, by decide +kernel, by decide +kernel⟩
abbrev s__law_pair_right : Stmt := top 29
theorem sc__law_pair_right : FnScope ["_law_mine", "_law_mate", "_law_due", "_law_told"] ["_law_mine", "_law_mate", "_law_due"] (defScope s__law_pair_right) := ⟨rfl, rfl, rfl, by decide +kernel, rfl, by decide +kernel, by decide +kernel⟩
abbrev s__law_others : Stmt := top 30
theorem sc__law_others : FnScope ["_law_bag_here", "_law_signs_here", "_law_rows_here", "_law_at", "_law_by", "_law_colour", "_law_goals", "_law_spot", "_law_fresh", "_law_found"] ["_law_bag_here", "_law_signs_here", "_law_rows_here"] (defScope s__law_others) := ⟨rfl, rfl, rfl, by decide +kernel, rfl, by decide +kernel, by decide +kernel⟩
abbrev s__law_right : Stmt := top 31
theorem sc__law_right : FnScope ["_law_bag_here", "_law_signs_here", "_law_rows_here", "_law_mine", "_law_letters_here", "_law_states_here", "_law_is_same", "_law_thing"] ["_law_bag_here"] (defScope s__law_right) := ⟨rfl, rfl, rfl, by decide +kernel, rfl, by decide +kernel, by decide +kernel⟩
abbrev s__law_quiet : Stmt := top 32
theorem sc__law_quiet : FnScope ["_law_bag_here", "_law_is_right"] ["_law_bag_here"] (defScope s__law_quiet) := ⟨rfl, rfl, rfl, by decide +kernel, rfl, by decide +kernel, by decide +kernel⟩
abbrev s_law : Stmt := top 33
theorem sc_law : FnScope ["_law_script", "_law_turn"] ["_law_script"] (defScope s_law) := ⟨rfl, rfl, rfl, by decide +kernel, rfl, by decide +kernel, by decide +kernel⟩
structure Txt (K : PySem.W.Frag) (mg : Str → Option Value) : Prop where
  B : Blt mg
  d_is_integer : Def K mg "is_integer" s_is_integer
  d_is_word_of : Def K mg "is_word_of" s_is_word_of
  d_is_tuple_of : Def K mg "is_tuple_of" s_is_tuple_of
  d_are_letters : Def K mg "are_letters" s_are_letters
  d_is_state : Def K mg "is_state" s_is_state
  d_digit_of : Def K mg "digit_of" s_digit_of
  d_state_of : Def K mg "state_of" s_state_of
  d__law_bag : Def K mg "_law_bag" s__law_bag
  d__law_take : Def K mg "_law_take" s__law_take
  d__law_signs : Def K mg "_law_signs" s__law_signs
  d__law_rows : Def K mg "_law_rows" s__law_rows
  d__law_page : Def K mg "_law_page" s__law_page
  d__law_pair_right : Def K mg "_law_pair_right" s__law_pair_right
  d__law_others : Def K mg "_law_others" s__law_others
  d__law_right : Def K mg "_law_right" s__law_right
  d__law_quiet : Def K mg "_law_quiet" s__law_quiet
  d_law : Def K mg "law" s_law
  c_MOST_LETTERS : Cst mg "MOST_LETTERS" (.int 3)
  c_MOST_STATES : Cst mg "MOST_STATES" (.int 6)
  c_MOST_COLOUR : Cst mg "MOST_COLOUR" (.int 6)
  c_LETTERS : Cst mg "LETTERS" (.str (Str.ofString "abcdefghijklmnopqrstuvwxyz"))
  c_DIGITS : Cst mg "DIGITS" (.str (Str.ofString "0123456789"))
  M : MachCls K mg s_Machine___init__ s_Machine_letters s_Machine_states
  m_Machine_read : CMetAt K mg "Machine" "read" "Machine.read" s_Machine_read
  ne : NeAt K mg "Machine"
  m_Machine___len__ : MethAt K mg "Machine" "__len__" "Machine.__len__" s_Machine___len__
  m_Machine___bool__ : MethAt K mg "Machine" "__bool__" "Machine.__bool__" s_Machine___bool__
  m_Machine___str__ : MethAt K mg "Machine" "__str__" "Machine.__str__" s_Machine___str__
  m_Machine___eq__ : MethAt K mg "Machine" "__eq__" "Machine.__eq__" s_Machine___eq__
end GH
namespace GH
open PySem PySem.Spec PyProof.Rows L2
def lawFa0 : List He.Fa := [.free "len", .free "all", .free "isinstance", .free "zip", .free "enumerate", .free "range", .free "max", .free "min", .free "abs", .free "divmod", .free "int", .free "str", .free "bool", .free "tuple", .free "list", .free "repr", .free "any", .free "sorted", .free "dict", .free "set"]
def lawFa1 : List He.Fa := [.glo "is_integer", .glo "is_word_of", .glo "is_tuple_of", .glo "are_letters", .glo "is_state", .glo "digit_of", .glo "state_of", .glo "_law_bag", .glo "_law_take", .glo "_law_signs", .glo "_law_rows", .glo "_law_page", .glo "_law_pair_right", .glo "_law_others", .glo "_law_right", .glo "_law_quiet", .glo "law", .int "MOST_LETTERS" 3, .int "MOST_STATES" 6, .int "MOST_COLOUR" 6]
def lawFa2 : List He.Fa := [.str "LETTERS" (Str.ofString "abcdefghijklmnopqrstuvwxyz"), .str "DIGITS" (Str.ofString "0123456789"), .glo "Machine", .cls "Machine", .meth "Machine" "__len__", .meth "Machine" "__bool__", .meth "Machine" "__str__", .meth "Machine" "__eq__", .glo "Machine"]
def lawFa : List He.Fa := lawFa0 ++ lawFa1 ++ lawFa2
def lawDn0 : List Dn := [dnG "is_integer" s_is_integer, dnG "is_word_of" s_is_word_of, dnG "is_tuple_of" s_is_tuple_of, dnG "are_letters" s_are_letters, dnG "is_state" s_is_state, dnG "digit_of" s_digit_of, dnG "state_of" s_state_of, dnG "_law_bag" s__law_bag, dnG "_law_take" s__law_take, dnG "_law_signs" s__law_signs, dnG "_law_rows" s__law_rows, dnG "_law_page" s__law_page, dnG "_law_pair_right" s__law_pair_right, dnG "_law_others" s__law_others, dnG "_law_right" s__law_right, dnG "_law_quiet" s__law_quiet, dnG "law" s_law, dnI s_Machine___init__, dnL s_Machine_letters, dnS s_Machine_states]
def lawDn1 : List Dn := [dnM "Machine" "__len__" "Machine.__len__" s_Machine___len__, dnM "Machine" "__bool__" "Machine.__bool__" s_Machine___bool__, dnM "Machine" "__str__" "Machine.__str__" s_Machine___str__, dnM "Machine" "__eq__" "Machine.__eq__" s_Machine___eq__, dnC "Machine" "read" "Machine.read" s_Machine_read]
def lawDn : List Dn := lawDn0 ++ lawDn1
def lawOut0 : List Str := ["_wall", "BadValue", "BadName", "NoAnswer", "InvalidText", "InvalidLetters", "InvalidStates", "MOST_LETTERS", "MOST_STATES", "MOST_COLOUR", "LETTERS", "DIGITS", "is_integer", "is_word_of", "is_tuple_of", "are_letters", "is_state", "digit_of", "state_of", "Machine"]
def lawOut1 : List Str := ["_law_bag", "_law_take", "_law_signs", "_law_rows", "_law_page", "_law_pair_right", "_law_others", "_law_right", "_law_quiet"]
def lawOut : List Str := lawOut0 ++ lawOut1
def lawEx (K : PySem.W.Frag) : Bool := facts lawFa K && machB K && cmetB "Machine" "read" K && neB "Machine" K
abbrev lawRow : PySem.W.OpenRow := PySem.W.OpenLaw.row PySem.Challenge.rw_guardhopes_k05_machines_compared
abbrev lawHook : PySem.W.Hook := hookR 1500 lawDn lawEx
def lawOb (s : PySem.W.SharedT) : He.Al := lookR 1500 lawDn lawEx (HandSHeadRun.getT s)
theorem lawOb_eq (s : PySem.W.SharedT) : lawOb s = lawHook.obs s.abs := lookR_eq (HandSHeadRun.getT_eq s)
theorem lawRun (w : World) : HandSHeadRun.RunEq lawRow (PySem.W.view lawRow.prog [33]) lawHook lawOb 9000 lawOut w := by
  intro os
  kernel_rfl
end GH
namespace EU
open PySem PySem.Spec PyProof.Rows L2
section
variable {prog : Program} {w : World} {A : Around} {E : Value → Shared → Prop} {s : Shared}
theorem draw_list {it t : Addr} {items : Array Value} (hne : t ≠ it) : ∀ (n i : Nat) (s : Shared) (Q : List Value → Shared → Prop), s.heap.IsListIter it t i → s.heap.IsList t items → i + n ≤ items.size →
    (∀ h', h'.IsListIter it t (i + n) → Heap.SameBut it s.heap h' → Q ((items.toList.drop i).take n) { s with heap := h' }) → wpAny (model prog w) A (draw (.ref it) n) Q E s
  | 0, i, s, Q, hit, _, _, hQ => by
    show wpAny _ _ (pure []) Q E s
    exact wpAny_pure (by simpa using hQ s.heap hit (Heap.SameBut.refl ..))
  | n + 1, i, s, Q, hit, ht, hle, hQ => by
    have hlt : i < items.size := by omega
    show wpAny _ _ (pyNext (.ref it) >>= _) Q E s
    refine wpAny_bind (wpAny_pyNext_list_item hit ht (x := items[i]) (by simp [hlt]) fun h₁ hit₁ hs₁ => ?_)
    refine wpAny_bind (wpAny_holding (draw_list hne n (i + 1) _ _ hit₁ (ht.extBut hs₁.extBut hne) (by omega) fun h₂ hit₂ hs₂ => wpAny_pure ?_))
    have hd : items.toList.drop i = items[i] :: items.toList.drop (i + 1) := by simp [List.drop_eq_getElem_cons, hlt]
    have := hQ h₂ (by rw [show i + (n + 1) = i + 1 + n by omega]; exact hit₂) (hs₁.trans hs₂)
    rw [hd, List.take_succ_cons] at this
    exact this
theorem unpackItems_list {t : Addr} {items : Array Value} {Q : List Value → Shared → Prop} (hh : A.handled = none) (ht : s.heap.IsList t items)
    (hQ : ∀ h', Heap.ExtBut s.heap.objs.size s.heap h' → Q items.toList { s with heap := h' }) : wpAny (model prog w) A (unpackItems (.ref t) items.size none) Q E s := by
  have hlt : t ≠ s.heap.objs.size := by obtain ⟨o, ho, _⟩ := ht; exact Nat.ne_of_lt (Heap.lt_size ho)
  unfold unpackItems
  refine wpAny_bind ?_
  · unfold notIterableAtAll
    refine wpAny_bind (wpAny_specialOf ht.typeIs PySem.slot_list_iter.lookup ?_)
    refine wpAny_pure ?_
    simp only [Bool.false_eq_true, if_false]
    refine wpAny_bind (wpAny_holding (wpAny_pyIter_list ht ?_))
    have hp : (s.heap.push { cls := .type "list_iterator", data := .fields #[.ref t, .int 0 0] }).IsList t items := ht.extBut (b := s.heap.objs.size) (fun b o hb e => Heap.get?_push_of_some _ e) hlt
    refine wpAny_bind (wpAny_holding (draw_list hlt items.size 0 _ _ ⟨_, Heap.get?_push_size _ rfl, rfl, rfl⟩ hp (by omega) fun h₁ hit₁ hs₁ => ?_))
    have hall : List.take items.size (List.drop 0 items.toList) = items.toList := by
      rw [List.drop_zero]; exact List.take_of_length_le (by simp)
    rw [hall]
    rw [if_neg (by simp)]
    have ht₁ : h₁.IsList t items := hp.extBut hs₁.extBut hlt
    refine wpAny_bind (wpAny_holding (wpAny_pyNext_list_end hh hit₁ ht₁ (by simp) fun h₂ he₂ => ?_))
    simp only [Option.isSome_none, Bool.false_eq_true, if_false]
    refine wpAny_pure (hQ h₂ fun b o hb e => he₂ b o hb (hs₁.extBut b o hb (Heap.get?_push_of_some _ e)))
theorem assign_Tuple_list {env : Env} {elts : List Expr} {x1} {pos : Pos} {t : Addr} {items : Array Value} {Q : Unit → Shared → Prop} (hh : A.handled = none) (ht : s.heap.IsList t items)
    (hn : (assignEach elts env).length = items.size) (hstar : (assignEach elts env).findIdx? (·.1) = none)
    (h : ∀ h', Heap.ExtBut s.heap.objs.size s.heap h' → wpAny (model prog w) A (assignInOrder ((assignEach elts env).map (·.2)) items.toList) Q E { s with heap := h' }) :
    wpAny (model prog w) A (assign (.Tuple elts x1 pos) env (.ref t)) Q E s := by
  rw [assign_Tuple]
  refine wpAny_bind (wpAny_standAt ?_)
  unfold unpack
  rw [hn, hstar]
  exact wpAny_bind (wpAny_holding (unpackItems_list hh ht h))
end
def gSq (K : PySem.W.Frag) (n : Nat) (t : TGs) : TG := fun v σ H Q => ∃ a xs, v = .ref a ∧ (SqT K H a xs ∨ SqL K H a xs) ∧ xs.length = n ∧ t xs σ H Q
theorem pg_sq {X : Cx} {es : List Expr} {k : Nat} {t : TGs} {n : Nat} {pos : Pos} (hc : X.calm = true) (h : PGs X es t)
    (hn : (assignEach es X.env).length = n := by rfl) (hst : (assignEach es X.env).findIdx? (·.1) = none := by rfl) : PG X (.Tuple es k pos) (gSq X.K n t) := by
  refine ⟨fun pins s σ H v u Q I r hw => ?_⟩
  obtain ⟨a, xs, rfl, hq | hq, hl, hw⟩ := hw
  · exact (pg_tup hc h hn hst).run pins s σ H _ u Q I r ⟨a, xs, rfl, hq, hl, hw⟩
  · cases r
    obtain ⟨its, rv, p, hz⟩ := I.list hq
    refine assign_Tuple_list (I.ok.hd hc) p.isList (by simp [hn, ← hl, rv.length]) hst fun h' hx => ?_
    have I1 : Inv X pins σ H { s with heap := h' } := I.kept (t' := s.toks) fun b o e => hx b o (Nat.ne_of_lt (Heap.lt_size e)) e
    exact h.run pins _ σ H xs _ Q I1 (by simpa using rv) hw
end EU
namespace EV
open PySem
inductive Val where
  | non | bl (b : Bool) | int (i : Int) | str (l : List Nat)
  | lst (xs : List Val) | tup (xs : List Val) | dct (kvs : List (Val × Val)) | obj (c : String) (fs : List (String × Val)) | scr (xs : List Int) | wtp (xs : List (List Nat)) | cls (c : String)
inductive Slot where
  | un | fz (v : Val) | ow (v : Val)
def Slot.val : Slot → Option Val
  | .un => none
  | .fz v => some v
  | .ow v => some v
abbrev Ro := List Slot
structure Exc where
  c : String
  fs : List (String × Val)
inductive Out (α : Type) where
  | ok (a : α) (ρ : Ro) | ex (e : Exc) (ρ : Ro)
abbrev Res (α : Type) := Option (Out α)
def bnd {α β : Type} (m : Res α) (k : α → Ro → Res β) : Res β := match m with
  | some (.ok a ρ) => k a ρ
  | some (.ex e ρ) => some (.ex e ρ)
  | none => none
def pur {α : Type} (a : α) (ρ : Ro) : Res α := some (.ok a ρ)
@[simp] theorem bnd_none {α β : Type} (k : α → Ro → Res β) : bnd none k = none := rfl
@[simp] theorem bnd_ok {α β : Type} (a : α) (ρ : Ro) (k : α → Ro → Res β) : bnd (some (.ok a ρ)) k = k a ρ := rfl
@[simp] theorem bnd_pur {α β : Type} (a : α) (ρ : Ro) (k : α → Ro → Res β) : bnd (pur a ρ) k = k a ρ := rfl
@[simp] theorem bnd_ex {α β : Type} (e : Exc) (ρ : Ro) (k : α → Ro → Res β) : bnd (some (.ex e ρ)) k = some (.ex e ρ) := rfl
def lift {α : Type} (o : Option α) (ρ : Ro) : Res α := match o with
  | some a => pur a ρ
  | none => none
@[simp] theorem lift_some {α : Type} (a : α) (ρ : Ro) : lift (some a) ρ = pur a ρ := rfl
@[simp] theorem lift_none {α : Type} (ρ : Ro) : lift (none : Option α) ρ = none := rfl
def cap : Nat := 1000000
mutual
def toD : Val → Option PyData
  | .non => some .none
  | .bl b => some (.bool b)
  | .int i => some (.int i)
  | .str l => some (.str ⟨l.toArray⟩)
  | .lst xs => (toDs xs).map .list
  | .tup xs => (toDs xs).map .tuple
  | .dct _ => none
  | .obj _ _ => none
  | .scr _ => none
  | .wtp _ => none
  | .cls _ => none
def toDs : List Val → Option (List PyData)
  | [] => some []
  | x :: r => (toD x).bind fun d => (toDs r).map (d :: ·)
end
mutual
def eqv : Val → Val → Bool
  | .non, b => match b with | .non => true | _ => false
  | .bl a, b => match b with | .bl b => a == b | .int j => (if a then 1 else 0) == j | _ => false
  | .int a, b => match b with | .int b => a == b | .bl c => a == (if c then 1 else 0) | _ => false
  | .str a, b => match b with | .str b => a == b | _ => false
  | .lst a, b => match b with | .lst b => eqvs a b | _ => false
  | .tup a, b => match b with | .tup b => eqvs a b | _ => false
  | .dct _, _ => false
  | .obj _ _, _ => false
  | .scr _, _ => false
  | .wtp _, _ => false
  | .cls _, _ => false
def eqvs : List Val → List Val → Bool
  | [], b => match b with | [] => true | _ => false
  | x :: r, b => match b with | [] => false | y :: s => eqv x y && eqvs r s
end
def shp (v : Val) : Bool := match toD v with
  | some d => SeqAt.shaped d
  | none => false
def isS : Val → Bool
  | .str _ => true
  | _ => false
def eqF (a b : Val) : Option Bool := if (isS a && isS b) || (shp a && shp b) then some (eqv a b) else none
inductive Bin where
  | add | sub | mul | mod | fdiv | pow
def repS (l : List Nat) : Nat → List Nat
  | 0 => []
  | n + 1 => l ++ repS l n
def repV (l : List Val) : Nat → List Val
  | 0 => []
  | n + 1 => l ++ repV l n
def small (i : Int) : Bool := decide (-(2 ^ 64) < i) && decide (i < 2 ^ 64)
def binF : Bin → Val → Val → Option Slot
  | .add, .int a, .int b => some (.fz (.int (a + b)))
  | .add, .str a, .str b => if a.length + b.length ≤ cap then some (.fz (.str (a ++ b))) else none
  | .add, .lst a, .lst b => if a.length + b.length ≤ cap then some (.ow (.lst (a ++ b))) else none
  | .add, .tup a, .tup b => if a.length + b.length ≤ cap then some (.fz (.tup (a ++ b))) else none
  | .sub, .int a, .int b => some (.fz (.int (a - b)))
  | .mul, .int a, .int b => if small a || small b then some (.fz (.int (a * b))) else none
  | .mul, .str a, .int n => if a.length ≤ 1000 ∧ 1 ≤ n ∧ n ≤ 1000 then some (.fz (.str (repS a n.toNat))) else none
  | .mul, .lst a, .int n => if a.length ≤ 1000 ∧ 0 ≤ n ∧ n ≤ 1000 then some (.ow (.lst (repV a n.toNat))) else none
  | .mul, .tup a, .int n => if a.length ≤ 1000 ∧ 1 ≤ n ∧ n ≤ 1000 ∧ 1 ≤ a.length then some (.fz (.tup (repV a n.toNat))) else none
  | .mod, .int a, .int b => if 0 < b then some (.fz (.int (a % b))) else none
  | .fdiv, .int a, .int b => if 0 < b ∧ b < 2 ^ 30 then some (.fz (.int (a / b))) else none
  | .pow, .int a, .int b => if 0 ≤ a ∧ a ≤ 10 ∧ 0 ≤ b ∧ b ≤ 40 then some (.fz (.int (a ^ b.toNat))) else none
  | _, _, _ => none
inductive Cmp where
  | eq | ne | lt | le | gt | ge | isin | notin | is | isnt
def keyOk : Val → Bool
  | .int _ => true
  | .str _ => true
  | _ => false
def dkey : Val → Bool
  | .int _ => true
  | .str _ => true
  | .tup xs => xs.all keyOk
  | _ => false
def look (kvs : List (Val × Val)) (k : Val) : Option Val := (kvs.find? fun p => eqv p.1 k).map (·.2)
def put (kvs : List (Val × Val)) (k v : Val) : List (Val × Val) :=
  if (kvs.any fun p => eqv p.1 k) then kvs.map fun p => if eqv p.1 k then (p.1, v) else p else kvs ++ [(k, v)]
def isTup : Val → Bool
  | .tup _ => true
  | _ => false
def fits (kvs : List (Val × Val)) (k : Val) : Bool := kvs.all fun p => isTup p.1 == isTup k
def inF (x c : Val) : Option Bool := match c with
  | .str l => (match x with
    | .str [s] => some (l.contains s)
    | _ => none)
  | .lst ys => if shp x && shp (.lst ys) then some (ys.any fun y => eqv y x) else none
  | .tup ys => if shp x && shp (.tup ys) then some (ys.any fun y => eqv y x) else none
  | .dct kvs => if dkey x && fits kvs x then some (look kvs x).isSome else none
  | .wtp xs => (match x with
    | .str l => some (xs.contains l)
    | _ => none)
  | _ => none
def cmpF : Cmp → Val → Val → Option Bool
  | .eq, a, b => eqF a b
  | .ne, a, b => (eqF a b).map (!·)
  | .lt, .int a, .int b => some (decide (a < b))
  | .le, .int a, .int b => some (decide (a ≤ b))
  | .gt, .int a, .int b => some (decide (b < a))
  | .ge, .int a, .int b => some (decide (b ≤ a))
  | .lt, .str a, .str b => some (decide (a < b))
  | .isin, a, b => inF a b
  | .notin, a, b => (inF a b).map (!·)
  | .is, a, .non => some (match a with | .non => true | _ => false)
  | .isnt, a, .non => some (match a with | .non => false | _ => true)
  | .is, .bl a, .bl b => some (a == b)
  | .isnt, .bl a, .bl b => some (a != b)
  | _, _, _ => none
def ixN (n : Nat) (i : Int) : Option Nat := if 0 ≤ i ∧ i < n then some i.toNat else if i < 0 ∧ -(n : Int) ≤ i then some (i + n).toNat else none
def idxF : Val → Val → Option Val
  | .lst xs, .int i => (ixN xs.length i).bind fun j => xs[j]?
  | .tup xs, .int i => (ixN xs.length i).bind fun j => xs[j]?
  | .str l, .int i => if l.length ≤ cap then (ixN l.length i).bind fun j => (l[j]?).map fun c => .str [c] else none
  | .dct kvs, k => if dkey k && fits kvs k then look kvs k else none
  | .scr xs, .int i => ((ixN xs.length i).bind fun j => xs[j]?).map .int
  | _, _ => none
def sIx (n d : Nat) : Option Int → Nat
  | none => d
  | some v => if v < 0 then (v + (n : Int)).toNat else min v.toNat n
def cut {α : Type} (xs : List α) (lo hi : Option Int) : List α := (xs.drop (sIx xs.length 0 lo)).take (sIx xs.length xs.length hi - sIx xs.length 0 lo)
def slcF (v : Val) (lo hi : Option Int) : Option Slot := match v with
  | .lst xs => some (.ow (.lst (cut xs lo hi)))
  | .tup xs => some (.fz (.tup (cut xs lo hi)))
  | .str l => if l.length ≤ cap then some (.fz (.str (cut l lo hi))) else none
  | .scr xs => some (.ow (.lst ((cut xs lo hi).map .int)))
  | _ => none
def fldF (v : Val) (f : String) : Option Val := match v with
  | .obj _ fs => fs.lookup f
  | _ => none
def typ : Val → String
  | .non => "NoneType" | .bl _ => "bool" | .int _ => "int" | .str _ => "str" | .lst _ => "list" | .tup _ => "tuple" | .dct _ => "dict" | .obj c _ => c | .scr _ => "list" | .wtp _ => "tuple" | .cls _ => "type"
def isiF (v : Val) (t : String) : Bool := typ v == t || (t == "int" && typ v == "bool")
def allB : List Val → Option (List Bool)
  | [] => some []
  | .bl b :: r => (allB r).map (b :: ·)
  | _ :: _ => none
def allI : List Val → Option (List Int)
  | [] => some []
  | .int i :: r => (allI r).map (i :: ·)
  | _ :: _ => none
def allS : List Val → Option (List (List Nat))
  | [] => some []
  | .str l :: r => (allS r).map (l :: ·)
  | _ :: _ => none
def maxI : Int → List Int → Int
  | m, [] => m
  | m, i :: r => maxI (max m i) r
def joinS (sep : List Nat) : List (List Nat) → List Nat
  | [] => []
  | [x] => x
  | x :: r => x ++ sep ++ joinS sep r
def rng (a b : Int) : List Val := (List.range (b - a).toNat).map fun k => .int (a + (k : Nat))
def len : Val → Option Nat
  | .lst xs => some xs.length
  | .tup xs => some xs.length
  | .str l => if l.length ≤ cap then some l.length else none
  | .dct kvs => some kvs.length
  | .scr xs => some xs.length
  | _ => none
end EV
namespace GH
open PySem PySem.Spec PyProof.Rows L2
mutual
def okD : PyData → Prop
  | .none | .bool _ => True
  | .int i => i.natAbs.log2 < 1920
  | .str x => ∀ c ∈ x.cps.toList, c < 16 ^ 8
  | .list xs | .tuple xs => okAll xs
  | .dict _ => False
def okAll : List PyData → Prop
  | [] => True
  | x :: xs => okD x ∧ okAll xs
end
mutual
def cost : PyData → Nat
  | .none | .bool _ => 5
  | .int _ => 1930
  | .str x => 10 * x.cps.size + 2
  | .list xs | .tuple xs => costAll xs + 3
  | .dict _ => 0
def costAll : List PyData → Nat
  | [] => 0
  | x :: xs => cost x + 2 + costAll xs
end
mutual
theorem okD_showable : ∀ d : PyData, okD d → d.showable = true ∧ d.hasDict = false
  | .none, _ => ⟨rfl, rfl⟩
  | .bool _, _ => ⟨rfl, rfl⟩
  | .int i, h => ⟨decide_eq_true (by simpa only [okD] using h), rfl⟩
  | .str _, _ => ⟨rfl, rfl⟩
  | .list xs, h => by
    have := okAll_showable xs (by simpa only [okD] using h)
    simpa only [PyData.showable, PyData.hasDict] using this
  | .tuple xs, h => by
    have := okAll_showable xs (by simpa only [okD] using h)
    simpa only [PyData.showable, PyData.hasDict] using this
  | .dict _, h => by simp only [okD] at h
theorem okAll_showable : ∀ xs : List PyData, okAll xs → PyData.showableAll xs = true ∧ PyData.hasDictAll xs = false
  | [], _ => ⟨rfl, rfl⟩
  | x :: xs, h => by
    have h' : okD x ∧ okAll xs := by simpa only [okAll] using h
    have h1 := okD_showable x h'.1
    have h2 := okAll_showable xs h'.2
    simp only [PyData.showableAll, PyData.hasDictAll, h1.1, h1.2, h2.1, h2.2]
    decide
end
mutual
theorem shown_cost : ∀ d : PyData, okD d → d.shown.length ≤ cost d
  | .none, _ => by
    have e : (PyData.shown .none).length = 4 := rfl
    simp only [cost]; omega
  | .bool b, _ => by
    have e : (PyData.shown (.bool b)).length ≤ 5 := by cases b <;> decide
    simp only [cost]; omega
  | .int i, h => by
    have h' : i.natAbs.log2 < 1920 := by simpa only [okD] using h
    have e := int_text_length_le (by decide) h'
    have e2 : (PyData.shown (.int i)).length = (toString i).length := by
      simp only [PyData.shown]
      exact PySem.ofString_length _
    simp only [cost]; omega
  | .str x, h => by
    have h' : ∀ c ∈ x.cps.toList, c < 16 ^ 8 := by simpa only [okD] using h
    have e := StrLaws.reprText_len x h'
    have e2 : x.length = x.cps.size := rfl
    simp only [PyData.shown, cost]; omega
  | .list xs, h => by
    have h1 := shownAll_cost xs (by simpa only [okD] using h)
    have h2 := listText_len_le (PyData.shownAll xs)
    have h3 := PyData.shownAll_length xs
    simp only [PyData.shown, cost]; omega
  | .tuple xs, h => by
    have h1 := shownAll_cost xs (by simpa only [okD] using h)
    have h2 := tupleText_len_le (PyData.shownAll xs)
    have h3 := PyData.shownAll_length xs
    simp only [PyData.shown, cost]; omega
  | .dict _, h => by simp only [okD] at h
theorem shownAll_cost : ∀ xs : List PyData, okAll xs → ((PyData.shownAll xs).map (·.length)).sum + 2 * xs.length ≤ costAll xs
  | [], _ => by simp [PyData.shownAll, costAll]
  | x :: xs, h => by
    have h' : okD x ∧ okAll xs := by simpa only [okAll] using h
    have h1 := shown_cost x h'.1
    have h2 := shownAll_cost xs h'.2
    simp only [PyData.shownAll, costAll, List.map_cons, List.sum_cons, List.length_cons]
    omega
end
def natD (l : List Nat) : List PyData := l.map fun n => .int (n : Nat)
def rRepr (K : PySem.W.Frag) : List V → Hp → VK → Prop := fun xs H Q => ∃ x d, xs = [x] ∧ Dp K H x d ∧ okD d ∧ d.depth ≤ 60 ∧ cost d ≤ 10000000 ∧ Q (.str d.shown) H
theorem call_reprD {X : Cx} {k : Nat} (hg : X.A.guards = some []) (hr : Room k X.A) : CallR X (.builtin "repr") (rRepr X.K) := by
  intro pins s σ H xs us Q I r h
  obtain ⟨x, d, rfl, hd, ok, dp, cs, q⟩ := h
  obtain ⟨u, rfl, ru⟩ := vals1 r
  have hz : d.shown.length ≤ sizeLine := by
    have := shown_cost d ok
    rw [sizeLine_eq]; omega
  cases hd with
  | non => cases ru; exact PySem.P.repr_of_none ⟨.str _, H, I.tok _, ⟨_, rfl⟩, q⟩
  | bl b => cases ru; exact PySem.P.repr_of_bool ⟨.str _, H, I.tok _, ⟨_, rfl⟩, by cases b <;> exact q⟩
  | int i =>
    obtain ⟨t, rfl⟩ := ru
    exact PySem.P.repr_of_int (by simpa only [okD] using ok) ⟨.str _, H, I.tok _, ⟨_, rfl⟩, q⟩
  | str y =>
    obtain ⟨t, rfl⟩ := ru
    exact PySem.P.repr_of_str ⟨.str _, H, I.tok _, ⟨_, rfl⟩, q⟩ hz
  | lst hs ha =>
    obtain ⟨as, rd⟩ := Dp.reads I _ _ _ (.lst hs ha) ru
    cases ru
    have o := okD_showable _ ok
    exact repr_of_reads' rd o.1 (PyData.noDict_hsm o.2) hg (by have := hr.units; omega) (fun _ _ e => e) (fun h' u tk hk => ⟨.str _, H, I.kept hk, ⟨_, rfl⟩, q⟩) hz
  | tup hs ha =>
    obtain ⟨as, rd⟩ := Dp.reads I _ _ _ (.tup hs ha) ru
    cases ru
    have o := okD_showable _ ok
    exact repr_of_reads' rd o.1 (PyData.noDict_hsm o.2) hg (by have := hr.units; omega) (fun _ _ e => e) (fun h' u tk hk => ⟨.str _, H, I.kept hk, ⟨_, rfl⟩, q⟩) hz
end GH
namespace EV
open PySem
inductive Tg where
  | nm (i : Nat) | tp (ts : List Tg)
inductive Bl where
  | len | all | any | max | min | abs | int | divmod | tuple | list | str | repr | sorted
inductive Bm where
  | sindex | lindex | join | split | tindex | get
inductive Mu where
  | append | extend | update | setdefault | insert | pop
mutual
inductive Ex where
  | v (i : Nat) | g (x : String)
  | non | bl (b : Bool) | int (i : Int) | str (s : String)
  | tup (es : List Ex) | lst (es : List Ex) | star (e : Ex)
  | bin (o : Bin) (a b : Ex) | neg (a : Ex) | nt (a : Ex) | and (a b : Ex) | or (a b : Ex)
  | cmp (o : Cmp) (a b : Ex) | chain (o p : Cmp) (a b c : Ex)
  | ite (c a b : Ex)
  | idx (a i : Ex) | slc (a : Ex) (lo hi : Option Ex)
  | fld (a : Ex) (f : String) | prp (c p f : String) (a : Ex)
  | call (f : String) (es : List Ex) (ks : List String)
  | mk (c : String) (es : List Ex) (ks : List String)
  | mth (k c m : String) (a : Ex) (es : List Ex)
  | isi (a : Ex) (t : String)
  | blt (b : Bl) (es : List Ex)
  | bmt (a : Ex) (m : Bm) (es : List Ex)
  | lrg (e : Ex)
  | lc (ns : List Nat) (t : Tg) (it : Iter) (c : Option Ex) (e : Ex)
  | dc (ns : List Nat) (t : Tg) (it : Iter) (k e : Ex)
  | dct (ks es : List Ex)
  | ln (f c : String) (es : List Ex)
  | tzp (a b : Ex)
  | rev (a : Ex)
  | dct2 (k e k2 e2 : Ex)
  | lzp (a b : Ex)
  | dcl (e : Ex)
  | cm (f c : String) (es : List Ex) (ks : List String)
  | mkv (i : Nat) (c : String) (es : List Ex)
  | sp (f c m : String) (ne : Bool) (es : List Ex)
  | lc2 (ns : List Nat) (t : Tg) (it : Iter) (ns1 : List Nat) (t1 : Tg) (it1 : Iter) (e : Ex)
  | prim (p : String) (es : List Ex)
  | pg (f c m : String) (a : Ex)
  | thk (g : String) (e : Ex)
  | bor (e : Ex)
inductive Iter where
  | seq (e : Ex) | rng (e : Ex) | rng2 (a b : Ex) | rng3 (a b c : Ex) | enum (e : Ex) | zip (a b : Ex) | items (e : Ex)
end
inductive Sx where
  | pass
  | asg (t : Tg) (e : Ex)
  | par (is : List Nat) (es : List Ex)
  | aug (i : Nat) (e : Ex)
  | sub (i : Nat) (k e : Ex)
  | subp (i : Nat) (k : Ex) (j : Nat) (e : Ex)
  | mut (i : Nat) (m : Mu) (es : List Ex)
  | setf (i : Nat) (f : String) (e : Ex)
  | expr (e : Ex)
  | ret (e : Ex) | retN
  | ife (c : Ex) (a b : List Sx)
  | whl (c : Ex) (a : List Sx)
  | for_ (t : Tg) (it : Iter) (a : List Sx)
  | tri (a : List Sx) (cs : List String) (n : Option Nat) (b : List Sx)
  | rai (c : String) (fs : List String) (es : List Ex)
  | hd (i j : Nat) (e : Ex)
  | subs (i : Nat) (ks : List String) (e : Ex)
structure Def where
  ps : List String
  n : Nat
  io : List Bool
  body : List Sx
structure Tab where
  fn : String → Option Def
  cst : String → Option Val
  ext : String → Option (List Slot → Option (Slot × List Slot))
  fld : String → String → Bool
  prp : String → String → String → Bool
  isc : String → Bool
  prm : String → Option (List Val → Option Slot) := fun _ => none
  cat : String → Option (Sum Val Exc → Option Slot) := fun _ => none
inductive Opd where
  | pl (i : Nat) | tm (v : Val)
def Opd.val (o : Opd) (ρ : Ro) : Option Val := match o with
  | .pl i => (ρ[i]?).bind Slot.val
  | .tm v => some v
def opnd (e : Ex) (m : Ro → Res Slot) (ρ : Ro) : Res Opd := match e with
  | .v i => if ((ρ[i]?).bind Slot.val).isSome then pur (.pl i) ρ else none
  | _ => bnd (m ρ) fun r ρ' => match r with
    | .fz v => pur (.tm v) ρ'
    | .ow v => pur (.tm v) ρ'
    | .un => none
def fixv (r : Slot) (ρ : Ro) : Res Val := match r with
  | .fz v => pur v ρ
  | .ow v => pur v ρ
  | .un => none
def slotAt (i : Nat) (ρ : Ro) : Res Slot := match ρ[i]? with
  | some (.fz v) => pur (.fz v) ρ
  | some (.ow v) => pur (.fz v) (ρ.set i (.fz v))
  | _ => none
def asBool (r : Slot) (ρ : Ro) : Res Bool := match r with
  | .fz (.bl b) => pur b ρ
  | _ => none
mutual
def assn : Tg → Slot → Ro → Option Ro
  | .nm i, r, ρ => if i < ρ.length then some (ρ.set i r) else none
  | .tp ts, r, ρ => match r with
    | .fz (.tup xs) => if xs.length = ts.length then assns ts xs ρ else none
    | .fz (.lst xs) => if xs.length = ts.length then assns ts xs ρ else none
    | _ => none
def assns : List Tg → List Val → Ro → Option Ro
  | [], _, ρ => some ρ
  | _ :: _, [], _ => none
  | t :: ts, x :: xs, ρ => (assn t (.fz x) ρ).bind (assns ts xs)
end
def wipeR (ρ : Ro) : List Nat → Ro
  | [] => ρ
  | i :: is => (wipeR ρ is).set i .un
mutual
def okB : PyData → Bool
  | .none => true
  | .bool _ => true
  | .int i => decide (i.natAbs.log2 < 1920)
  | .str x => x.cps.toList.all fun c => decide (c < 16 ^ 8)
  | .list xs => okBs xs
  | .tuple xs => okBs xs
  | .dict _ => false
def okBs : List PyData → Bool
  | [] => true
  | x :: xs => okB x && okBs xs
end
def reprOk (d : PyData) : Bool := okB d && decide (d.depth ≤ 60) && decide (GH.cost d ≤ 10000000)
def encV (v : Val) : PyData := (toD v).getD .none
def leV : Val → Val → Bool := PySem.W.dataLe false encV
def srtOk (ds : List PyData) : Bool := ds.all (fun d => ds.all fun d' => PySem.W.alike d d') && ds.all (fun d => decide (d.depth ≤ 60)) && (ds.all (fun d => match d with | .tuple (_ :: _) => true | _ => false) || ds.all (fun d => match d with | .none => false | .tuple _ => false | _ => true))
def intS (i : Int) : List Nat := (Str.ofString (toString i)).cps.toList
def bltF (b : Bl) (vs : List Val) : Option Slot := match b, vs with
  | .len, [v] => (len v).map fun n => .fz (.int (n : Nat))
  | .all, [.lst xs] => (allB xs).map fun bs => .fz (.bl (bs.all id))
  | .any, [.lst xs] => (allB xs).map fun bs => .fz (.bl (bs.any id))
  | .max, [.lst xs] => match allI xs with
    | some (i :: is) => some (.fz (.int (maxI i is)))
    | _ => none
  | .max, [.int i, .int j] => some (.fz (.int (if j > i then j else i)))
  | .min, [.int i, .int j] => some (.fz (.int (if j < i then j else i)))
  | .abs, [.int i] => some (.fz (.int (if i < 0 then -i else i)))
  | .int, [.int i] => some (.fz (.int i))
  | .int, [.bl b] => some (.fz (.int (if b then 1 else 0)))
  | .int, [.str [c]] => if 48 ≤ c ∧ c ≤ 57 then some (.fz (.int ((c : Nat) - 48 : Int))) else none
  | .str, [.int i] => if i.natAbs < 1000 then some (.fz (.str (intS i))) else none
  | .str, [.str l] => some (.fz (.str l))
  | .divmod, [.int i, .int j] => if 0 < j ∧ j < 2 ^ 30 then some (.fz (.tup [.int (i / j), .int (i % j)])) else none
  | .tuple, [.lst xs] => some (.fz (.tup xs))
  | .tuple, [.tup xs] => some (.fz (.tup xs))
  | .list, [.lst xs] => some (.ow (.lst xs))
  | .list, [.tup xs] => some (.ow (.lst xs))
  | .list, [.str l] => if l.length ≤ 100000 then some (.ow (.lst (l.map fun c => .str [c]))) else none
  | .list, [.dct kvs] => some (.ow (.lst (kvs.map (·.1))))
  | .sorted, [.lst xs] => match toDs xs with
    | some ds => if srtOk ds && decide (xs.length ≤ cap) then some (.ow (.lst (xs.mergeSort leV))) else none
    | none => none
  | .repr, [v] => match toD v with
    | some d => if reprOk d then some (.fz (.str d.shown.cps.toList)) else none
    | none => none
  | _, _ => none
def splS (c : Nat) : List Nat → List (List Nat)
  | [] => [[]]
  | d :: r => if d = c then [] :: splS c r else (match splS c r with
    | w :: ws => (d :: w) :: ws
    | [] => [[d]])
def bmtF (v : Val) (m : Bm) (vs : List Val) : Option Slot := match m, v, vs with
  | .sindex, .str l, [.str [c]] => if l.Nodup ∧ c ∈ l then some (.fz (.int (l.idxOf c : Nat))) else none
  | .lindex, .lst xs, [y] => if shp y && shp (.lst xs) then (match xs.findIdx? fun z => eqv z y with
      | some j => some (.fz (.int (j : Nat)))
      | none => none) else none
  | .join, .str sep, [.lst xs] => match allS xs with
      | some ls => if (ls.map (·.length)).sum + ls.length * sep.length ≤ cap then some (.fz (.str (joinS sep ls))) else none
      | none => none
  | .join, .str sep, [.tup xs] => match allS xs with
      | some ls => if (ls.map (·.length)).sum + ls.length * sep.length ≤ cap then some (.fz (.str (joinS sep ls))) else none
      | none => none
  | .tindex, .wtp zs, [.str l] => if l ∈ zs then some (.fz (.int (zs.idxOf l : Nat))) else none
  | .split, .str l, [.str [c]] => if l.length ≤ 100000 ∧ c < 128 then some (.ow (.lst ((splS c l).map .str))) else none
  | .get, .dct kvs, [k, d] => if keyOk k && fits kvs k && !kvs.isEmpty then some (.fz ((look kvs k).getD d)) else none
  | _, _, _ => none
def bmtK (m : Bm) (v : Val) : Bool := match m, v with
  | .sindex, .str _ => true
  | .lindex, .lst _ => true
  | .join, .str _ => true
  | .tindex, .wtp _ => true
  | .get, .dct _ => true
  | .split, .str _ => true
  | _, _ => false
def hashV : Val → Int
  | .tup xs => reduceHash (Builtin.Tuple.tupleHashOf (xs.map fun v => match v with
    | .int i => hashInt i
    | _ => 0))
  | _ => 0
def tkI (k : Val) : Bool := match k with
  | .tup xs => xs.all fun v => match v with
    | .int _ => true
    | _ => false
  | _ => false
def updOk (kvs more : List (Val × Val)) : Bool := (more.all (fun p => keyOk p.1) && kvs.all (fun p => keyOk p.1)) || (!more.isEmpty && more.all (fun p => tkI p.1) && kvs.all (fun p => tkI p.1) && (!kvs.isEmpty || decide (more.map fun p => hashV p.1).Nodup))
def mutF (m : Mu) (v : Val) (vs : List Val) : Option Val := match m, v, vs with
  | .append, .lst xs, [y] => if xs.length < cap then some (.lst (xs ++ [y])) else none
  | .insert, .lst xs, [.int i, y] => if 0 ≤ i ∧ i ≤ xs.length ∧ xs.length < cap then some (.lst (xs.take i.toNat ++ y :: xs.drop i.toNat)) else none
  | .extend, .lst xs, [.lst ys] => if xs.length + ys.length < cap then some (.lst (xs ++ ys)) else none
  | .update, .dct kvs, [.dct more] => if kvs.length + more.length ≤ 1000 && updOk kvs more then some (.dct (more.foldl (fun a p => put a p.1 p.2) kvs)) else none
  | .pop, .lst xs, [] => if xs.isEmpty then none else some (.lst xs.dropLast)
  | .setdefault, .dct kvs, [k, y] => if kvs.length < cap ∧ keyOk k = true ∧ fits kvs k = true then some (.dct (if (look kvs k).isSome then kvs else put kvs k y)) else none
  | _, _, _ => none
def putFs (f : String) (x : Val) : List (String × Val) → List (String × Val)
  | [] => [(f, x)]
  | (g, y) :: r => if g = f then (g, x) :: r else (g, y) :: putFs f x r
def mutK (m : Mu) (v : Val) : Bool := match m, v with
  | .append, .lst _ => true
  | .extend, .lst _ => true
  | .insert, .lst _ => true
  | .update, .dct _ => true
  | .setdefault, .dct _ => true
  | .pop, .lst _ => true
  | _, _ => false
def setF (v k x : Val) : Option Val := match v, k with
  | .lst xs, .int i => (ixN xs.length i).map fun j => .lst (xs.set j x)
  | .dct kvs, k => if kvs.length < cap ∧ dkey k = true ∧ fits kvs k = true then some (.dct (put kvs k x)) else none
  | _, _ => none
def itemsF (v : Val) : Option (List Val) := match v with
  | .lst xs => some xs
  | .tup xs => some xs
  | .str l => some (l.map fun c => .str [c])
  | .dct kvs => some (kvs.map (·.1))
  | _ => none
def itmF (v : Val) : Option (List Val) := match v with
  | .dct kvs => if (kvs.all (fun p => keyOk p.1) || kvs.all (fun p => dkey p.1 && isTup p.1)) && !kvs.isEmpty then some (kvs.map fun p => .tup [p.1, p.2]) else none
  | _ => none
def seqOf (v : Val) : Option (List Val) := match v with
  | .tup xs => some xs
  | .str l => some (l.map fun c => .str [c])
  | _ => none
def enumL (n : Nat) : List Val → List Val
  | [] => []
  | x :: r => .tup [.int (n : Nat), x] :: enumL (n + 1) r
def zipL : List Val → List Val → List Val
  | x :: r, y :: s => .tup [x, y] :: zipL r s
  | _, _ => []
def tzpF (u w : Val) : Option Slot := match u, w with
  | .tup xs, .tup ys => if min xs.length ys.length ≤ 1000 then some (.fz (.tup (zipL xs ys))) else none
  | _, _ => none
def lzpF (u w : Val) : Option Slot := match u, w with
  | .tup xs, .tup ys => if min xs.length ys.length ≤ 1000 then some (.ow (.lst (zipL xs ys))) else none
  | _, _ => none
def prsOf : List Val → Option (List (Val × Val))
  | [] => some []
  | .tup [k, v] :: r => (prsOf r).map ((k, v) :: ·)
  | _ :: _ => none
def prsL : Val → Option (List (Val × Val))
  | .lst ps => prsOf ps
  | _ => none
def dclF (v : Val) : Option Slot := (prsL v).bind fun kvs => if kvs.length ≤ 1000 ∧ ((kvs.all fun p => keyOk p.1) || (kvs.all fun p => dkey p.1 && isTup p.1)) = true then some (.ow (.dct (kvs.foldl (fun a p => put a p.1 p.2) []))) else none
def revF (u : Val) : Option Slot := match u with
  | .tup xs => some (.fz (.tup xs.reverse))
  | .lst xs => some (.ow (.lst xs.reverse))
  | _ => none
def rngF : List Val → Option (List Val)
  | [.int n] => if -(cap : Int) ≤ n ∧ n ≤ cap then some (rng 0 n) else none
  | [.int a, .int b] => if -(cap : Int) ≤ a ∧ a ≤ cap ∧ -(cap : Int) ≤ b ∧ b ≤ cap then some (rng a b) else none
  | [.int a, .int b, .int c] => if 0 ≤ a ∧ a ≤ 1000 ∧ 0 ≤ b ∧ b ≤ 1000 ∧ 1 ≤ c ∧ c ≤ 1000 then some ((List.range ((b - a + c - 1) / c).toNat).map fun k => .int (a + (k : Nat) * c)) else none
  | _ => none
def isiV (isc : String → Bool) (v : Val) (t : String) : Option Bool := match v with
  | .obj c _ => if c == t && isc t then some true else none
  | .scr _ => none
  | .cls _ => none
  | v => if ["bool", "int", "str", "tuple", "list"].contains t then some (isiF v t) else if isc t then some false else none
def order (ps ks : List String) (vs : List Slot) : Option (List Slot) :=
  if ks = [] then some vs else
    ((ps.drop (vs.length - ks.length)).mapM fun p => (ks.zip (vs.drop (vs.length - ks.length))).lookup p).map fun ws => vs.take (vs.length - ks.length) ++ ws
def clean (ns : List Nat) (ρ : Ro) : Bool := ns.all fun i => match ρ[i]? with
  | some (.ow _) => false
  | some _ => true
  | none => false
def lcLoop (f : Ro → Res (Option Val)) (t : Tg) (ns : List Nat) : List Val → Ro → Res (List Val)
  | [], ρ => pur [] ρ
  | x :: r, ρ => match assn t (.fz x) ρ with
    | some ρ1 => bnd (f ρ1) fun y ρ2 => bnd (lcLoop f t ns r (wipeR ρ2 ns)) fun ys ρ3 => pur (match y with
      | some v => v :: ys
      | none => ys) ρ3
    | none => none
def lc2Loop (f : Ro → Res (List Val)) (t : Tg) (ns : List Nat) : List Val → Ro → Res (List Val)
  | [], ρ => pur [] ρ
  | x :: r, ρ => match assn t (.fz x) ρ with
    | some ρ1 => bnd (f ρ1) fun ys ρ2 => bnd (lc2Loop f t ns r (wipeR ρ2 ns)) fun zs ρ3 => pur (ys ++ zs) ρ3
    | none => none
def dcLoop (f : Ro → Res (Val × Val)) (t : Tg) (ns : List Nat) : List Val → Ro → List (Val × Val) → Res (List (Val × Val))
  | [], ρ, acc => pur acc ρ
  | x :: r, ρ, acc => match assn t (.fz x) ρ with
    | some ρ1 => bnd (f ρ1) fun y ρ2 => if dkey y.1 && fits acc y.1 then dcLoop f t ns r (wipeR ρ2 ns) (put acc y.1 y.2) else none
    | none => none
def unwipe (ns : List Nat) (ρ ρ' : Ro) : Ro := match ns with
  | [] => ρ'
  | i :: r => (unwipe r ρ ρ').set i ((ρ[i]?).getD .un)
def quiet {α : Type} (m : Res α) : Res α := match m with
  | some (.ok a ρ) => some (.ok a ρ)
  | _ => none
inductive Arg where
  | io (i : Nat) | va (v : Val) | nw (v : Val)
def Arg.slot (ρ : Ro) : Arg → Option Slot
  | .io i => match ρ[i]? with
    | some (.ow v) => some (.ow v)
    | _ => none
  | .va v => some (.fz v)
  | .nw v => some (.ow v)
def putBack : List Arg → List Slot → Ro → Option Ro
  | [], _, ρ => some ρ
  | .io i :: r, .ow v :: s, ρ => (putBack r s ρ).map fun ρ' => ρ'.set i (.ow v)
  | .io _ :: _, _, _ => none
  | .va _ :: r, _ :: s, ρ => putBack r s ρ
  | .nw _ :: r, _ :: s, ρ => putBack r s ρ
  | _ :: _, [], _ => none
def Arg.isN : Arg → Bool
  | .nw _ => true
  | _ => false
def Arg.isAt (i : Nat) : Arg → Bool
  | .io j => i == j
  | _ => false
def ioNd : List Arg → Bool
  | [] => true
  | .io i :: r => !(r.any (Arg.isAt i)) && ioNd r
  | .nw _ :: r => !(r.any Arg.isN) && ioNd r
  | .va _ :: r => ioNd r
def finish (as : List Arg) (res : Res Slot) (ρ : Ro) : Res Slot := match res with
  | some (.ok r fin) => match putBack as fin ρ with
    | some ρ' => some (.ok r ρ')
    | none => none
  | some (.ex e fin) => match putBack as fin ρ with
    | some ρ' => some (.ex e ρ')
    | none => none
  | none => none
abbrev Cal := String → List Slot → Res Slot
def Arg.isV : Arg → Bool
  | .va _ => true
  | _ => false
def callF (cal : Cal) (ps : List String) (f : String) (ks : List String) (as : List Arg) (ρ : Ro) : Res Slot :=
  if ioNd as && (ks.isEmpty || as.all Arg.isV) then match (as.mapM (Arg.slot ρ)).bind (order ps ks) with
    | some args => finish as (cal f args) ρ
    | none => none
  else none
def asStr (s : String) : List Nat := (Str.ofString s).cps.toList
def ownAt (i : Nat) (ρ : Ro) : Option Val := match ρ[i]? with
  | some (.ow v) => some v
  | _ => none
def newArg (r : Slot) (ρ : Ro) : Res Arg := match r with
  | .ow v => pur (.nw v) ρ
  | _ => none
def Arg.isObj (ρ : Ro) (c m : String) : Arg → Bool
  | .io i => (match ownAt i ρ with
    | some (.obj c' fs) => c' == c && (fs.lookup m).isNone
    | _ => false)
  | .va (.obj c' fs) => c' == c && (fs.lookup m).isNone
  | _ => false
def Arg.isPln : Arg → Bool
  | .va v => (match v with
    | .non => true | .bl _ => true | .int _ => true | .str _ => true | .lst _ => true | .tup _ => true | .dct _ => true
    | _ => false)
  | _ => false
def argOf (io : Bool) (e : Ex) (m : Ro → Res Slot) (ρ : Ro) : Res Arg :=
  if io then (match e with
    | .v i => if (ownAt i ρ).isSome then pur (.io i) ρ else none
    | _ => bnd (m ρ) newArg)
  else bnd (m ρ) fun r ρ1 => bnd (fixv r ρ1) fun v ρ2 => pur (.va v) ρ2
def mkEnd (m : Res Slot) (ρ : Ro) : Res Slot := match m with
  | some (.ok (.fz .non) (.ow (.obj c fs) :: _)) => pur (.ow (.obj c fs)) ρ
  | some (.ex e _) => some (.ex e ρ)
  | _ => none
def byName (ps ks : List String) (vs : List Val) : Option (List Val) := ps.mapM fun p => (ks.zip vs).lookup p
def kwEnd (m : Res Slot) (ρ : Ro) : Res Slot := match m with
  | some (.ok r _) => some (.ok r ρ)
  | some (.ex e _) => some (.ex e ρ)
  | none => none
def isCls (c : String) : Option Slot → Bool
  | some (.fz (.cls c')) => c' == c
  | _ => false
def lenEnd (r : Slot) (ρ : Ro) : Res Slot := match r with
  | .fz (.int n) => if 0 ≤ n ∧ n < 2 ^ 63 then pur (.fz (.int n)) ρ else none
  | _ => none
def spEnd (m : String) (ne : Bool) (r : Slot) (ρ : Ro) : Res Slot := match r with
  | .fz (.str l) => if m = "__str__" then pur (.fz (.str l)) ρ else none
  | .fz (.bl b) => if m = "__str__" then none else pur (.fz (.bl (b != ne))) ρ
  | _ => none
def bw : Slot → Slot
  | .ow (.lst vs) => .fz (.lst vs)
  | .ow _ => .un
  | s => s
def smpV : Val → Bool
  | .non => true
  | .bl _ => true
  | .int _ => true
  | .str _ => true
  | _ => false
def smp : Slot → Bool
  | .fz v => smpV v
  | _ => false
def borEnd (ρ : Ro) (m : Res Slot) : Res Slot := match m with
  | some (.ok r _) => if smp r then some (.ok r ρ) else none
  | _ => none
def catEnd (g : Sum Val Exc → Option Slot) (m : Res Val) : Res Slot := match m with
  | some (.ok v ρ) => lift (g (.inl v)) ρ
  | some (.ex e ρ) => lift (g (.inr e)) ρ
  | none => none
def setKs : List String → List Val → Val → Option Val
  | [], [], u => some u
  | k :: ks, x :: xs, u => (setF u (.str (asStr k)) x).bind (setKs ks xs)
  | _, _, _ => none
def spAs (ρ : Ro) (c m : String) : List Arg → Option (List Arg)
  | [a] => if Arg.isObj ρ c m a then some [a] else none
  | [a, b] => if Arg.isObj ρ c m a && (Arg.isPln b || Arg.isObj ρ c m b) then some [a, b] else if Arg.isPln a && Arg.isObj ρ c m b then some [b, a] else none
  | _ => none
section
variable (T : Tab) (cal mkc : Cal)
mutual
def evE : Ex → Ro → Res Slot
  | .v i, ρ => slotAt i ρ
  | .g x, ρ => match T.cst x with
    | some v => pur (.fz v) ρ
    | none => none
  | .non, ρ => pur (.fz .non) ρ
  | .bl b, ρ => pur (.fz (.bl b)) ρ
  | .int i, ρ => pur (.fz (.int i)) ρ
  | .str s, ρ => pur (.fz (.str (asStr s))) ρ
  | .tup es, ρ => bnd (evEs es ρ) fun vs ρ' => if vs.length ≤ cap then pur (.fz (.tup vs)) ρ' else none
  | .lst es, ρ => bnd (evEs es ρ) fun vs ρ' => if vs.length ≤ cap then pur (.ow (.lst vs)) ρ' else none
  | .star _, _ => none
  | .bin o a b, ρ => bnd (opnd a (evE a) ρ) fun x ρ1 => bnd (opnd b (evE b) ρ1) fun y ρ2 => lift ((x.val ρ2).bind fun u => (y.val ρ2).bind (binF o u)) ρ2
  | .neg a, ρ => bnd (evE a ρ) fun r ρ1 => match r with
    | .fz (.int i) => pur (.fz (.int (-i))) ρ1
    | _ => none
  | .nt a, ρ => bnd (evE a ρ) fun r ρ1 => bnd (asBool r ρ1) fun b ρ2 => pur (.fz (.bl (!b))) ρ2
  | .and a b, ρ => bnd (evE a ρ) fun r ρ1 => bnd (asBool r ρ1) fun c ρ2 => if c then evE b ρ2 else pur (.fz (.bl false)) ρ2
  | .or a b, ρ => bnd (evE a ρ) fun r ρ1 => bnd (asBool r ρ1) fun c ρ2 => if c then pur (.fz (.bl true)) ρ2 else evE b ρ2
  | .cmp o a b, ρ => bnd (opnd a (evE a) ρ) fun x ρ1 => bnd (opnd b (evE b) ρ1) fun y ρ2 => lift (((x.val ρ2).bind fun u => (y.val ρ2).bind (cmpF o u)).map fun c => .fz (.bl c)) ρ2
  | .chain o p a b c, ρ => bnd (opnd a (evE a) ρ) fun x ρ1 => bnd (opnd b (evE b) ρ1) fun y ρ2 => match (x.val ρ2).bind fun u => (y.val ρ2).bind (cmpF o u) with
    | some true => bnd (opnd c (evE c) ρ2) fun z ρ3 => lift (((y.val ρ3).bind fun u => (z.val ρ3).bind (cmpF p u)).map fun c => .fz (.bl c)) ρ3
    | some false => pur (.fz (.bl false)) ρ2
    | none => none
  | .ite c a b, ρ => bnd (evE c ρ) fun r ρ1 => bnd (asBool r ρ1) fun d ρ2 => if d then evE a ρ2 else evE b ρ2
  | .idx a i, ρ => bnd (opnd a (evE a) ρ) fun x ρ1 => bnd (opnd i (evE i) ρ1) fun y ρ2 => lift (((x.val ρ2).bind fun u => (y.val ρ2).bind (idxF u)).map .fz) ρ2
  | .slc a lo hi, ρ => bnd (opnd a (evE a) ρ) fun x ρ1 => bnd (evOp lo ρ1) fun l ρ2 => bnd (evOp hi ρ2) fun h ρ3 => lift ((x.val ρ3).bind fun u => slcF u l h) ρ3
  | .fld a f, ρ => bnd (opnd a (evE a) ρ) fun x ρ1 => lift (((x.val ρ1).bind fun u => match u with
    | .obj c fs => if T.fld c f then fs.lookup f else none
    | _ => none).map .fz) ρ1
  | .prp c p f a, ρ => bnd (opnd a (evE a) ρ) fun x ρ1 => lift (((x.val ρ1).bind fun u => match u with
    | .obj c' fs => if c' = c ∧ T.prp c p f = true then fs.lookup f else none
    | _ => none).map .fz) ρ1
  | .call f es ks, ρ => match T.fn f with
    | some d => (match ks with
      | [] => bnd (evAs d.io es ρ) fun as ρ1 => callF cal d.ps f [] as ρ1
      | ks => bnd (evEs es ρ) fun vs ρ1 => if vs.length = ks.length then (match byName d.ps ks vs with
        | some ws => kwEnd (cal f (ws.map .fz)) ρ1
        | none => none) else none)
    | none => none
  | .mk c es ks, ρ => match T.fn (c ++ ".__init__") with
    | some d => bnd (evEs es ρ) fun vs ρ1 => (match ks with
      | [] => mkEnd (mkc (c ++ ".__init__") (.ow (.obj c []) :: vs.map .fz)) ρ1
      | ks => if vs.length = ks.length then (match byName (d.ps.drop 1) ks vs with
        | some ws => mkEnd (mkc (c ++ ".__init__") (.ow (.obj c []) :: ws.map .fz)) ρ1
        | none => none) else none)
    | none => none
  | .mth k c m a es, ρ => match T.fn k with
    | some d => bnd (argOf (d.io.getD 0 false) a (evE a) ρ) fun r ρ0 => if !r.isObj ρ0 c m then none else bnd (evAs (d.io.drop 1) es ρ0) fun as ρ1 => callF cal d.ps k [] (r :: as) ρ1
    | none => none
  | .isi a t, ρ => bnd (opnd a (evE a) ρ) fun x ρ1 => lift (((x.val ρ1).bind fun u => isiV T.isc u t).map fun b => .fz (.bl b)) ρ1
  | .blt b es, ρ => match es with
    | [a] => bnd (opnd a (evE a) ρ) fun x ρ1 => lift ((x.val ρ1).bind fun u => bltF b [u]) ρ1
    | es => bnd (evEs es ρ) fun vs ρ1 => lift (bltF b vs) ρ1
  | .bmt a m es, ρ => bnd (opnd a (evE a) ρ) fun x ρ1 => if !((x.val ρ1).map (bmtK m)).getD false then none else bnd (evEs es ρ1) fun vs ρ2 => lift ((x.val ρ2).bind fun u => bmtF u m vs) ρ2
  | .lrg e, ρ => bnd (evE e ρ) fun r ρ1 => bnd (fixv r ρ1) fun v ρ2 => lift ((rngF [v]).map fun xs => .ow (.lst xs)) ρ2
  | .lc ns t it c e, ρ => bnd (evIt it ρ) fun xs ρ1 => if xs.length ≤ cap ∧ clean ns ρ1 = true then
      bnd (quiet (lcLoop (fun ρ => bnd (evC c ρ) fun b ρ' => if b then bnd (evE e ρ') fun r ρ2 => bnd (fixv r ρ2) fun v ρ3 => pur (some v) ρ3 else pur none ρ') t ns xs (wipeR ρ1 ns))) fun ys ρ2 => pur (.ow (.lst ys)) (unwipe ns ρ1 ρ2)
    else none
  | .lc2 ns t it ns1 t1 it1 e, ρ => bnd (evIt it ρ) fun xs ρ1 => if clean ns ρ1 = true ∧ ns1.all (fun i => ns.contains i) = true then
      bnd (quiet (lc2Loop (fun ρ => bnd (evIt it1 ρ) fun ys ρ2 => lcLoop (fun ρ => bnd (evE e ρ) fun r ρ2 => bnd (fixv r ρ2) fun v ρ3 => pur (some v) ρ3) t1 ns1 ys (wipeR ρ2 ns1)) t ns xs (wipeR ρ1 ns))) fun ys ρ2 => if ys.length ≤ cap then pur (.ow (.lst ys)) (unwipe ns ρ1 ρ2) else none
    else none
  | .dc ns t it k e, ρ => bnd (evIt it ρ) fun xs ρ1 => if xs.length ≤ cap ∧ clean ns ρ1 = true then
      bnd (quiet (dcLoop (fun ρ => bnd (evE k ρ) fun r ρ2 => bnd (fixv r ρ2) fun a ρ3 => bnd (evE e ρ3) fun q ρ4 => bnd (fixv q ρ4) fun v ρ5 => pur (a, v) ρ5) t ns xs (wipeR ρ1 ns) [])) fun ys ρ2 => pur (.ow (.dct ys)) (unwipe ns ρ1 ρ2)
    else none
  | .dct ks es, ρ => match ks, es with
    | [], [] => pur (.ow (.dct [])) ρ
    | [k], [e] => bnd (evE k ρ) fun r ρ1 => bnd (fixv r ρ1) fun a ρ2 => bnd (evE e ρ2) fun q ρ3 => bnd (fixv q ρ3) fun v ρ4 => if dkey a then pur (.ow (.dct [(a, v)])) ρ4 else none
    | _, _ => none
  | .ln f c es, ρ => match T.fn f with
    | some d => bnd (evAs d.io es ρ) fun as ρ1 => if !(as.all (Arg.isObj ρ1 c "__len__")) then none else bnd (callF mkc d.ps f [] as ρ1) lenEnd
    | none => none
  | .tzp a b, ρ => bnd (evE a ρ) fun r ρ1 => bnd (fixv r ρ1) fun u ρ2 => bnd (evE b ρ2) fun q ρ3 => bnd (fixv q ρ3) fun w ρ4 => lift (tzpF u w) ρ4
  | .lzp a b, ρ => bnd (evE a ρ) fun r ρ1 => bnd (fixv r ρ1) fun u ρ2 => bnd (evE b ρ2) fun q ρ3 => bnd (fixv q ρ3) fun w ρ4 => lift (lzpF u w) ρ4
  | .dcl e, ρ => bnd (evE e ρ) fun r ρ1 => bnd (fixv r ρ1) fun v ρ2 => lift (dclF v) ρ2
  | .rev a, ρ => bnd (opnd a (evE a) ρ) fun x ρ1 => lift ((x.val ρ1).bind revF) ρ1
  | .dct2 k e k2 e2, ρ => bnd (evE k ρ) fun r ρ1 => bnd (fixv r ρ1) fun a ρ2 => bnd (evE e ρ2) fun q ρ3 => bnd (fixv q ρ3) fun v ρ4 => bnd (evE k2 ρ4) fun r2 ρ5 => bnd (fixv r2 ρ5) fun b ρ6 => bnd (evE e2 ρ6) fun q2 ρ7 => bnd (fixv q2 ρ7) fun w ρ8 => if keyOk a && keyOk b then pur (.ow (.dct (put [(a, v)] b w))) ρ8 else none
  | .sp f c m ne es, ρ => match T.fn f with
    | some d => bnd (evAs d.io es ρ) fun as ρ1 => (match spAs ρ1 c m as with
      | some bs => bnd (quiet (callF mkc d.ps f [] bs ρ1)) (spEnd m ne)
      | none => none)
    | none => none
  | .cm f c es ks, ρ => match T.fn f with
    | some d => bnd (evEs es ρ) fun vs ρ1 => (match ks with
      | [] => kwEnd (cal f (.fz (.cls c) :: vs.map .fz)) ρ1
      | ks => if vs.length = ks.length then (match byName (d.ps.drop 1) ks vs with
        | some ws => kwEnd (cal f (.fz (.cls c) :: ws.map .fz)) ρ1
        | none => none) else none)
    | none => none
  | .mkv i c es, ρ => if isCls c (ρ[i]?) then (match T.fn (c ++ ".__init__") with
    | some _ => bnd (evEs es ρ) fun vs ρ1 => mkEnd (mkc (c ++ ".__init__") (.ow (.obj c []) :: vs.map .fz)) ρ1
    | none => none) else none
  | .prim p es, ρ => match T.prm p with
    | some g => bnd (evEs es ρ) fun vs ρ1 => lift (g vs) ρ1
    | none => none
  | .pg f c m a, ρ => match T.fn f with
    | some d => bnd (argOf (d.io.getD 0 false) a (evE a) ρ) fun r ρ1 => if !r.isObj ρ1 c m then none else bnd (quiet (callF mkc d.ps f [] [r] ρ1)) pur
    | none => none
  | .thk g e, ρ => match T.cat g with
    | some h => catEnd h (bnd (evE e ρ) fixv)
    | none => none
  | .bor e, ρ => borEnd ρ (evE e (ρ.map bw))
def evOp : Option Ex → Ro → Res (Option Int)
  | none, ρ => pur none ρ
  | some e, ρ => bnd (evE e ρ) fun r ρ1 => match r with
    | .fz (.int i) => pur (some i) ρ1
    | _ => none
def evC : Option Ex → Ro → Res Bool
  | none, ρ => pur true ρ
  | some e, ρ => bnd (evE e ρ) asBool
def evEs : List Ex → Ro → Res (List Val)
  | [], ρ => pur [] ρ
  | e :: r, ρ => match e with
    | .star a => bnd (evE a ρ) fun q ρ1 => bnd (fixv q ρ1) fun v ρ2 => match v with
      | .lst xs => bnd (evEs r ρ2) fun vs ρ3 => pur (xs ++ vs) ρ3
      | .tup xs => bnd (evEs r ρ2) fun vs ρ3 => pur (xs ++ vs) ρ3
      | _ => none
    | e => bnd (evE e ρ) fun q ρ1 => bnd (fixv q ρ1) fun v ρ2 => bnd (evEs r ρ2) fun vs ρ3 => pur (v :: vs) ρ3
def evAs : List Bool → List Ex → Ro → Res (List Arg)
  | _, [], ρ => pur [] ρ
  | io, e :: r, ρ => bnd (argOf (io.getD 0 false) e (evE e) ρ) fun a ρ1 => if a.isN && !r.isEmpty then none else bnd (evAs (io.drop 1) r ρ1) fun as ρ2 => pur (a :: as) ρ2
def evIt : Iter → Ro → Res (List Val)
  | .seq e, ρ => bnd (evE e ρ) fun r ρ1 => bnd (fixv r ρ1) fun v ρ2 => lift (itemsF v) ρ2
  | .rng e, ρ => bnd (evE e ρ) fun r ρ1 => bnd (fixv r ρ1) fun v ρ2 => lift (rngF [v]) ρ2
  | .rng2 a b, ρ => bnd (evE a ρ) fun r ρ1 => bnd (fixv r ρ1) fun u ρ2 => bnd (evE b ρ2) fun q ρ3 => bnd (fixv q ρ3) fun w ρ4 => lift (rngF [u, w]) ρ4
  | .rng3 a b c, ρ => bnd (evE a ρ) fun r ρ1 => bnd (fixv r ρ1) fun u ρ2 => bnd (evE b ρ2) fun q ρ3 => bnd (fixv q ρ3) fun w ρ4 => bnd (evE c ρ4) fun s ρ5 => bnd (fixv s ρ5) fun z ρ6 => lift (rngF [u, w, z]) ρ6
  | .enum e, ρ => bnd (evE e ρ) fun r ρ1 => bnd (fixv r ρ1) fun v ρ2 => lift ((seqOf v).map (enumL 0)) ρ2
  | .zip a b, ρ => bnd (evE a ρ) fun r ρ1 => bnd (fixv r ρ1) fun u ρ2 => bnd (evE b ρ2) fun q ρ3 => bnd (fixv q ρ3) fun w ρ4 => lift ((seqOf u).bind fun xs => (seqOf w).map (zipL xs)) ρ4
  | .items e, ρ => bnd (evE e ρ) fun r ρ1 => bnd (fixv r ρ1) fun v ρ2 => lift (itmF v) ρ2
end
theorem evE_v (i : Nat) (ρ : Ro) : evE T cal mkc (.v i) ρ = slotAt i ρ := rfl
inductive Fl where
  | nx | rt (r : Slot)
def forF (body : Ro → Res Fl) (t : Tg) : List Val → Ro → Res Fl
  | [], ρ => pur .nx ρ
  | x :: r, ρ => match assn t (.fz x) ρ with
    | some ρ1 => bnd (body ρ1) fun f ρ2 => (match f with
      | .nx => forF body t r ρ2
      | .rt q => pur (.rt q) ρ2)
    | none => none
def whlF (test : Ro → Res Bool) (body : Ro → Res Fl) : Nat → Ro → Res Fl
  | 0, _ => none
  | n + 1, ρ => bnd (test ρ) fun b ρ1 => if b then bnd (body ρ1) fun f ρ2 => (match f with
      | .nx => whlF test body n ρ2
      | .rt q => pur (.rt q) ρ2) else pur .nx ρ1
def fuel : Nat := 1000000
def evSl : List Ex → Ro → Res (List Slot)
  | [], ρ => pur [] ρ
  | e :: r, ρ => bnd (evE T cal mkc e ρ) fun q ρ1 => bnd (evSl r ρ1) fun qs ρ2 => pur (q :: qs) ρ2
def setAll : List Nat → List Slot → Ro → Option Ro
  | [], [], ρ => some ρ
  | i :: is, r :: rs, ρ => if i < ρ.length then setAll is rs (ρ.set i r) else none
  | _, _, _ => none
mutual
def evS : Sx → Ro → Res Fl
  | .pass, ρ => pur .nx ρ
  | .asg t e, ρ => bnd (evE T cal mkc e ρ) fun r ρ1 => match t with
    | .nm i => (match assn (.nm i) r ρ1 with
      | some ρ2 => pur .nx ρ2
      | none => none)
    | t => bnd (fixv r ρ1) fun v ρ2 => (match assn t (.fz v) ρ2 with
      | some ρ3 => pur .nx ρ3
      | none => none)
  | .par is es, ρ => bnd (evSl T cal mkc es ρ) fun rs ρ1 => match setAll is rs ρ1 with
    | some ρ2 => pur .nx ρ2
    | none => none
  | .aug i e, ρ => if !((ρ[i]?).bind Slot.val).isSome then none else bnd (opnd e (evE T cal mkc e) ρ) fun y ρ1 => match ((ρ1[i]?).bind Slot.val).bind fun u => (y.val ρ1).bind (binF .add u) with
    | some (.fz (.int n)) => pur .nx (ρ1.set i (.fz (.int n)))
    | some (.fz (.str l)) => pur .nx (ρ1.set i (.fz (.str l)))
    | _ => none
  | .sub i k e, ρ => bnd (evE T cal mkc e ρ) fun r ρ1 => bnd (fixv r ρ1) fun x ρ2 => if !(ownAt i ρ2).isSome then none else bnd (opnd k (evE T cal mkc k) ρ2) fun y ρ3 =>
      match (ownAt i ρ3).bind fun u => (y.val ρ3).bind fun w => setF u w x with
      | some v => pur .nx (ρ3.set i (.ow v))
      | none => none
  | .subp i k j e, ρ => bnd (evE T cal mkc e ρ) fun r ρ1 => match r with
    | .fz (.tup [x, y]) => if !(ownAt i ρ1).isSome then none else bnd (opnd k (evE T cal mkc k) ρ1) fun z ρ2 => (match (ownAt i ρ2).bind fun u => (z.val ρ2).bind fun w => setF u w x with
      | some v => if j < ρ2.length ∧ i ≠ j then pur .nx ((ρ2.set i (.ow v)).set j (.fz y)) else none
      | none => none)
    | _ => none
  | .mut i m es, ρ => if !((ownAt i ρ).map (mutK m)).getD false then none else bnd (evEs T cal mkc es ρ) fun vs ρ1 => match (ownAt i ρ1).bind fun u => mutF m u vs with
    | some v => pur .nx (ρ1.set i (.ow v))
    | none => none
  | .setf i f e, ρ => bnd (evE T cal mkc e ρ) fun r ρ1 => bnd (fixv r ρ1) fun x ρ2 => match ownAt i ρ2 with
    | some (.obj c fs) => if fs.length < 20 ∧ T.fld c f = true then pur .nx (ρ2.set i (.ow (.obj c (putFs f x fs)))) else none
    | _ => none
  | .expr e, ρ => bnd (evE T cal mkc e ρ) fun _ ρ1 => pur .nx ρ1
  | .ret e, ρ => match e with
    | .v i => (match ρ[i]? with
      | some (.ow v) => pur (.rt (.ow v)) (ρ.set i .un)
      | some (.fz v) => pur (.rt (.fz v)) ρ
      | _ => none)
    | e => bnd (evE T cal mkc e ρ) fun r ρ1 => pur (.rt r) ρ1
  | .retN, ρ => pur (.rt (.fz .non)) ρ
  | .ife c a b, ρ => bnd (evE T cal mkc c ρ) fun r ρ1 => bnd (asBool r ρ1) fun d ρ2 => if d then evSs a ρ2 else evSs b ρ2
  | .whl c a, ρ => whlF (fun ρ => bnd (evE T cal mkc c ρ) asBool) (evSs a) fuel ρ
  | .for_ t it a, ρ => bnd (evIt T cal mkc it ρ) fun xs ρ1 => if xs.length ≤ cap then forF (evSs a) t xs ρ1 else none
  | .tri a cs n b, ρ => quiet (evSs a ρ)
  | .rai c fs es, ρ => bnd (evEs T cal mkc es ρ) fun vs ρ1 => if vs.length = fs.length then some (.ex ⟨c, fs.zip vs⟩ ρ1) else none
  | .hd i j e, ρ => bnd (evE T cal mkc e ρ) fun r ρ1 => bnd (fixv r ρ1) fun v ρ2 => match v with
    | .lst (x :: xs) => if i < ρ2.length ∧ j < ρ2.length ∧ i ≠ j then pur .nx ((ρ2.set i (.fz x)).set j (.ow (.lst xs))) else none
    | _ => none
  | .subs i ks e, ρ => bnd (evE T cal mkc e ρ) fun r ρ1 => bnd (fixv r ρ1) fun v ρ2 => match v with
    | .tup xs => (match (ownAt i ρ2).bind (setKs ks xs) with
      | some u => pur .nx (ρ2.set i (.ow u))
      | none => none)
    | _ => none
def evSs : List Sx → Ro → Res Fl
  | [], ρ => pur .nx ρ
  | s :: r, ρ => bnd (evS s ρ) fun f ρ1 => (match f with
    | .nx => evSs r ρ1
    | .rt q => pur (.rt q) ρ1)
end
end
def sameKind : List Slot → List Bool → Bool
  | [], _ => true
  | .fz _ :: r, io => !io.getD 0 false && sameKind r (io.drop 1)
  | .ow _ :: r, io => io.getD 0 false && sameKind r (io.drop 1)
  | .un :: _, _ => false
def keptIo : List Slot → List Slot → Bool
  | [], _ => true
  | .ow _ :: r, .ow _ :: s => keptIo r s
  | .fz _ :: r, _ :: s => keptIo r s
  | _ :: _, _ => false
def endF (args : List Slot) (n : Nat) (m : Res Fl) : Res Slot := match m with
  | some (.ok (.rt r) ρ) => if keptIo args (ρ.take n) then some (.ok r (ρ.take n)) else none
  | some (.ok .nx ρ) => if keptIo args (ρ.take n) then some (.ok (.fz .non) (ρ.take n)) else none
  | some (.ex e ρ) => if keptIo args (ρ.take n) then some (.ex e (ρ.take n)) else none
  | none => none
def evB (T : Tab) (cal mkc : Cal) : Cal := fun f args => match T.ext f with
  | some g => (match g args with
    | some (r, fin) => some (.ok r fin)
    | none => none)
  | none => match T.fn f with
    | none => none
    | some d => if args.length = d.ps.length ∧ d.ps.length ≤ d.n ∧ sameKind args d.io = true then endF args d.ps.length (evSs T cal mkc d.body (args ++ List.replicate (d.n - d.ps.length) .un)) else none
def ev2 (T : Tab) : Nat → Cal × Cal
  | 0 => (fun _ _ => none, fun _ _ => none)
  | k + 1 => (evB T (ev2 T k).1 (ev2 T k).2, (ev2 T k).1)
def evF (T : Tab) (k : Nat) : Cal := (ev2 T k).1
end EV
namespace EV
open PySem
def lamNames : List Str := []
end EV
namespace EV
open PySem PySem.Spec PyProof.Rows L2
abbrev Ex' (F H : Hp) : Prop := ∀ a o, F a = some o → H a = some o
theorem Ex'.refl (H : Hp) : Ex' H H := fun _ _ h => h
theorem Ex'.trans {A B C : Hp} (a : Ex' A B) (b : Ex' B C) : Ex' A C := fun x o h => b x o (a x o h)
theorem Ex'.new {H : Hp} {p : Addr} {o : HO} (h : H p = none) : Ex' H (upd H p o) := fun a u e => by
  rw [upd_ne (ne_of_none e h)]; exact e
theorem Ex'.sqL {K : PySem.W.Frag} {F H : Hp} {a : Addr} {xs : List V} (e : Ex' F H) (h : SqL K F a xs) : SqL K H a xs := by
  rcases h with (h | ⟨o, h⟩) | h
  · exact .inl (.inl (e _ _ h))
  · exact .inl (.inr ⟨o, e _ _ h⟩)
  · exact .inr h
theorem Ex'.sqT {K : PySem.W.Frag} {F H : Hp} {a : Addr} {xs : List V} (e : Ex' F H) (h : SqT K F a xs) : SqT K H a xs := by
  rcases h with (h | ⟨o, h⟩) | h
  · exact .inl (.inl (e _ _ h))
  · exact .inl (.inr ⟨o, e _ _ h⟩)
  · exact .inr h
theorem Ex'.rd {F H : Hp} {a : Addr} {u : HO} (e : Ex' F H) (h : Rd F a u) : Rd H a u := by
  rcases h with h | ⟨o, h⟩
  · exact .inl (e _ _ h)
  · exact .inr ⟨o, e _ _ h⟩
def toS (l : List Nat) : Str := ⟨l.toArray⟩
def keyV : Key → Val
  | .inl i => .int i
  | .inr x => .str x.cps.toList
mutual
inductive Rep (K : PySem.W.Frag) (mg : Str → Option Value) (F : Hp) : V → Val → Prop
  | non : Rep K mg F .non .non
  | bl (b : Bool) : Rep K mg F (.bl b) (.bl b)
  | int (i : Int) : Rep K mg F (.int i) (.int i)
  | str (l : List Nat) : Rep K mg F (.str (toS l)) (.str l)
  | lst {a : Addr} {xs : List V} {vs : List Val} : F a = some (.lst xs) → Reps K mg F xs vs → Rep K mg F (.ref a) (.lst vs)
  | scr {a : Addr} {ns : List Int} : SqL K F a (ns.map V.int) → Rep K mg F (.ref a) (.scr ns)
  | tup {a : Addr} {xs : List V} {vs : List Val} : F a = some (.tup xs) → Reps K mg F xs vs → Rep K mg F (.ref a) (.tup vs)
  | wtp {a : Addr} {zs : List (List Nat)} : GH.SqK K a (zs.map fun l => V.str (toS l)) → Rep K mg F (.ref a) (.wtp zs)
  | cls (c : String) : Rep K mg F (.ref (GH.clsA mg (Str.ofString c))) (.cls c)
  | dk {a : Addr} {o : Obj} {ks : List (Key × V)} {kvs : List (Val × Val)} : F a = some (.frz o (.dK ks)) → RepK K mg F ks kvs → Rep K mg F (.ref a) (.dct kvs)
  | dt {a : Addr} {o : Obj} {ks : List (List Key × V)} {kvs : List (Val × Val)} : F a = some (.frz o (.dT ks)) → RepT K mg F ks kvs → Rep K mg F (.ref a) (.dct kvs)
  | obj {a dx : Addr} {c : String} {xs : List (Str × V)} {fs : List (String × Val)} : F a = some (.ins (GH.clsA mg (Str.ofString c)) dx xs) → RepF K mg F xs fs → Rep K mg F (.ref a) (.obj c fs)
inductive Reps (K : PySem.W.Frag) (mg : Str → Option Value) (F : Hp) : List V → List Val → Prop
  | nil : Reps K mg F [] []
  | cons {x : V} {xs : List V} {v : Val} {vs : List Val} : Rep K mg F x v → Reps K mg F xs vs → Reps K mg F (x :: xs) (v :: vs)
inductive RepK (K : PySem.W.Frag) (mg : Str → Option Value) (F : Hp) : List (Key × V) → List (Val × Val) → Prop
  | nil : RepK K mg F [] []
  | cons {k : Key} {x : V} {ks : List (Key × V)} {v : Val} {kvs : List (Val × Val)} : Rep K mg F x v → RepK K mg F ks kvs → RepK K mg F ((k, x) :: ks) ((keyV k, v) :: kvs)
inductive RepT (K : PySem.W.Frag) (mg : Str → Option Value) (F : Hp) : List (List Key × V) → List (Val × Val) → Prop
  | nil : RepT K mg F [] []
  | cons {k : List Key} {x : V} {ks : List (List Key × V)} {v : Val} {kvs : List (Val × Val)} : Rep K mg F x v → RepT K mg F ks kvs → RepT K mg F ((k, x) :: ks) ((.tup (k.map keyV), v) :: kvs)
inductive RepF (K : PySem.W.Frag) (mg : Str → Option Value) (F : Hp) : List (Str × V) → List (String × Val) → Prop
  | nil : RepF K mg F [] []
  | cons {f : String} {x : V} {xs : List (Str × V)} {v : Val} {fs : List (String × Val)} : Rep K mg F x v → RepF K mg F xs fs → RepF K mg F ((Str.ofString f, x) :: xs) ((f, v) :: fs)
end
section
variable {K : PySem.W.Frag} {mg : Str → Option Value} {F F' H : Hp}
mutual
theorem Rep.mono (e : Ex' F F') : ∀ {x : V} {v : Val}, Rep K mg F x v → Rep K mg F' x v
  | _, _, .non => .non
  | _, _, .bl b => .bl b
  | _, _, .int i => .int i
  | _, _, .str l => .str l
  | _, _, .lst s r => .lst (e _ _ s) (Reps.mono e r)
  | _, _, .scr s => .scr (e.sqL s)
  | _, _, .tup s r => .tup (e _ _ s) (Reps.mono e r)
  | _, _, .wtp s => .wtp s
  | _, _, .cls c => .cls c
  | _, _, .dk s r => .dk (e _ _ s) (RepK.mono e r)
  | _, _, .dt s r => .dt (e _ _ s) (RepT.mono e r)
  | _, _, .obj s r => .obj (e _ _ s) (RepF.mono e r)
theorem Reps.mono (e : Ex' F F') : ∀ {xs : List V} {vs : List Val}, Reps K mg F xs vs → Reps K mg F' xs vs
  | _, _, .nil => .nil
  | _, _, .cons a b => .cons (Rep.mono e a) (Reps.mono e b)
theorem RepK.mono (e : Ex' F F') : ∀ {xs : List (Key × V)} {vs : List (Val × Val)}, RepK K mg F xs vs → RepK K mg F' xs vs
  | _, _, .nil => .nil
  | _, _, .cons a b => .cons (Rep.mono e a) (RepK.mono e b)
theorem RepT.mono (e : Ex' F F') : ∀ {xs : List (List Key × V)} {vs : List (Val × Val)}, RepT K mg F xs vs → RepT K mg F' xs vs
  | _, _, .nil => .nil
  | _, _, .cons a b => .cons (Rep.mono e a) (RepT.mono e b)
theorem RepF.mono (e : Ex' F F') : ∀ {xs : List (Str × V)} {vs : List (String × Val)}, RepF K mg F xs vs → RepF K mg F' xs vs
  | _, _, .nil => .nil
  | _, _, .cons a b => .cons (Rep.mono e a) (RepF.mono e b)
end
theorem Reps.length : ∀ {xs : List V} {vs : List Val}, Reps K mg F xs vs → xs.length = vs.length
  | _, _, .nil => rfl
  | _, _, .cons _ b => by simp [Reps.length b]
theorem Reps.get : ∀ {xs : List V} {vs : List Val} {i : Nat} {v : Val}, Reps K mg F xs vs → vs[i]? = some v → ∃ x, xs[i]? = some x ∧ Rep K mg F x v
  | _, _, _, _, .nil, e => by simp at e
  | _, _, 0, _, .cons a _, e => by simp at e; subst e; exact ⟨_, rfl, a⟩
  | _, _, i + 1, v, .cons _ b, e => by
    obtain ⟨x, h1, h2⟩ := Reps.get (i := i) (v := v) b (by simpa using e)
    exact ⟨x, by simpa using h1, h2⟩
theorem Reps.get' : ∀ {xs : List V} {vs : List Val} {i : Nat} {x : V}, Reps K mg F xs vs → xs[i]? = some x → ∃ v, vs[i]? = some v ∧ Rep K mg F x v
  | _, _, _, _, .nil, e => by simp at e
  | _, _, 0, _, .cons a _, e => by simp at e; subst e; exact ⟨_, rfl, a⟩
  | _, _, i + 1, x, .cons _ b, e => by
    obtain ⟨v, h1, h2⟩ := Reps.get' (i := i) (x := x) b (by simpa using e)
    exact ⟨v, by simpa using h1, h2⟩
theorem Reps.app : ∀ {xs ys : List V} {vs ws : List Val}, Reps K mg F xs vs → Reps K mg F ys ws → Reps K mg F (xs ++ ys) (vs ++ ws)
  | _, _, _, _, .nil, b => b
  | _, _, _, _, .cons a r, b => .cons a (Reps.app r b)
theorem Reps.take : ∀ {xs : List V} {vs : List Val} (n : Nat), Reps K mg F xs vs → Reps K mg F (xs.take n) (vs.take n)
  | _, _, 0, _ => .nil
  | _, _, _ + 1, .nil => .nil
  | _, _, n + 1, .cons a r => .cons a (Reps.take n r)
theorem Reps.drop : ∀ {xs : List V} {vs : List Val} (n : Nat), Reps K mg F xs vs → Reps K mg F (xs.drop n) (vs.drop n)
  | _, _, 0, r => r
  | _, _, _ + 1, .nil => .nil
  | _, _, n + 1, .cons a r => Reps.drop n r
theorem Reps.set : ∀ {xs : List V} {vs : List Val} (n : Nat) {x : V} {v : Val}, Reps K mg F xs vs → Rep K mg F x v → Reps K mg F (xs.set n x) (vs.set n v)
  | _, _, _, _, _, .nil, _ => .nil
  | _, _, 0, _, _, .cons a r, q => .cons q r
  | _, _, n + 1, _, _, .cons a r, q => .cons a (Reps.set n r q)
inductive RepB (K : PySem.W.Frag) (mg : Str → Option Value) (F H : Hp) : V → Val → Prop
  | non : RepB K mg F H .non .non
  | bl (b : Bool) : RepB K mg F H (.bl b) (.bl b)
  | int (i : Int) : RepB K mg F H (.int i) (.int i)
  | str (l : List Nat) : RepB K mg F H (.str (toS l)) (.str l)
  | lst {a : Addr} {xs : List V} {vs : List Val} : H a = some (.lst xs) → Reps K mg F xs vs → RepB K mg F H (.ref a) (.lst vs)
  | scr {a : Addr} {ns : List Int} : SqL K H a (ns.map V.int) → RepB K mg F H (.ref a) (.scr ns)
  | tup {a : Addr} {xs : List V} {vs : List Val} : F a = some (.tup xs) → Reps K mg F xs vs → RepB K mg F H (.ref a) (.tup vs)
  | wtp {a : Addr} {zs : List (List Nat)} : GH.SqK K a (zs.map fun l => V.str (toS l)) → RepB K mg F H (.ref a) (.wtp zs)
  | cls (c : String) : RepB K mg F H (.ref (GH.clsA mg (Str.ofString c))) (.cls c)
  | dk {a : Addr} {ks : List (Key × V)} {kvs : List (Val × Val)} : Rd H a (.dK ks) → RepK K mg F ks kvs → RepB K mg F H (.ref a) (.dct kvs)
  | dt {a : Addr} {ks : List (List Key × V)} {kvs : List (Val × Val)} : Rd H a (.dT ks) → RepT K mg F ks kvs → RepB K mg F H (.ref a) (.dct kvs)
  | obj {a dx : Addr} {c : String} {xs : List (Str × V)} {fs : List (String × Val)} : H a = some (.ins (GH.clsA mg (Str.ofString c)) dx xs) → RepF K mg F xs fs → RepB K mg F H (.ref a) (.obj c fs)
theorem Rep.b (e : Ex' F H) : ∀ {x : V} {v : Val}, Rep K mg F x v → RepB K mg F H x v
  | _, _, .non => .non
  | _, _, .bl b => .bl b
  | _, _, .int i => .int i
  | _, _, .str l => .str l
  | _, _, .lst s r => .lst (e _ _ s) r
  | _, _, .scr s => .scr (e.sqL s)
  | _, _, .tup s r => .tup s r
  | _, _, .wtp s => .wtp s
  | _, _, .cls c => .cls c
  | _, _, .dk s r => .dk (.inr ⟨_, e _ _ s⟩) r
  | _, _, .dt s r => .dt (.inr ⟨_, e _ _ s⟩) r
  | _, _, .obj s r => .obj (e _ _ s) r
inductive Own (K : PySem.W.Frag) (mg : Str → Option Value) (F H : Hp) (a : Addr) : Val → Prop
  | lst {xs : List V} {vs : List Val} : F a = none → H a = some (.lst xs) → Reps K mg F xs vs → Own K mg F H a (.lst vs)
  | dk {ks : List (Key × V)} {kvs : List (Val × Val)} : F a = none → H a = some (.dK ks) → RepK K mg F ks kvs → Own K mg F H a (.dct kvs)
  | dt {ks : List (List Key × V)} {kvs : List (Val × Val)} : F a = none → H a = some (.dT ks) → RepT K mg F ks kvs → Own K mg F H a (.dct kvs)
  | obj {dx : Addr} {c : String} {xs : List (Str × V)} {fs : List (String × Val)} : F a = none → H a = some (.ins (GH.clsA mg (Str.ofString c)) dx xs) → RepF K mg F xs fs → Own K mg F H a (.obj c fs)
theorem Own.b {a : Addr} {v : Val} (o : Own K mg F H a v) : RepB K mg F H (.ref a) v := by
  cases o with
  | lst n h r => exact .lst h r
  | dk n h r => exact .dk (.inl h) r
  | dt n h r => exact .dt (.inl h) r
  | obj n h r => exact .obj h r
theorem Own.no {a : Addr} {v : Val} (o : Own K mg F H a v) : F a = none := by
  cases o <;> assumption
theorem Own.at {a : Addr} {v : Val} (o : Own K mg F H a v) : ∃ u, H a = some u ∧ ∀ xs, u ≠ .tup xs := by
  cases o with
  | lst n h r => exact ⟨_, h, fun _ z => by cases z⟩
  | dk n h r => exact ⟨_, h, fun _ z => by cases z⟩
  | dt n h r => exact ⟨_, h, fun _ z => by cases z⟩
  | obj n h r => exact ⟨_, h, fun _ z => by cases z⟩
theorem Own.keep {H' : Hp} {a : Addr} {v : Val} (o : Own K mg F H a v) (e : Ex' F F') (n' : F' a = none) (h' : H' a = H a) : Own K mg F' H' a v := by
  cases o with
  | lst n h r => exact .lst n' (h'.trans h) (r.mono e)
  | dk n h r => exact .dk n' (h'.trans h) (r.mono e)
  | dt n h r => exact .dt n' (h'.trans h) (r.mono e)
  | obj n h r => exact .obj n' (h'.trans h) (r.mono e)
end
def codeTab (K : PySem.W.Frag) (f : Addr) : Option Addr := match K.lookup f with
  | some ⟨_, _, .func fd, _⟩ => (match fd.code with
    | .ref c => (match K.lookup c with
      | some ⟨_, _, .fields vs, _⟩ => (match (vs[11]? : Option Value) with
        | some (Value.ref P) => some P
        | _ => none)
      | _ => none)
    | _ => none)
  | _ => none
def tabsOf (K : PySem.W.Frag) (mg : Str → Option Value) : List (Addr × Str) := lamNames.filterMap fun x => match mg x with
  | some (.ref f) => (codeTab K f).map fun P => (P, x ++ ".<locals>.<lambda>")
  | _ => none
def TBs (K : PySem.W.Frag) (mg : Str → Option Value) (H : Hp) : Prop := LamX.Tabs (tabsOf K mg) H
theorem tbs_nil {K : PySem.W.Frag} {mg : Str → Option Value} {H : Hp} (h : lamNames = []) : TBs K mg H := by
  unfold TBs tabsOf
  rw [h]
  exact fun p hp => nomatch hp
def NoT (F : Hp) : Prop := ∀ a ps, F a ≠ some (.tbl ps)
def Thing (u : HO) : Prop := (∀ ps, u ≠ .tbl ps) ∧ ∀ p, u ≠ .ext p
theorem Own.th {K : PySem.W.Frag} {mg : Str → Option Value} {F H : Hp} {a : Addr} {v : Val} (o : Own K mg F H a v) : ∃ u, H a = some u ∧ Thing u := by
  cases o with
  | lst n h r => exact ⟨_, h, by nofun, by nofun⟩
  | dk n h r => exact ⟨_, h, by nofun, by nofun⟩
  | dt n h r => exact ⟨_, h, by nofun, by nofun⟩
  | obj n h r => exact ⟨_, h, by nofun, by nofun⟩
theorem TBs.up {K : PySem.W.Frag} {mg : Str → Option Value} {H H' : Hp} (t : TBs K mg H) (e : Ex' H H') : TBs K mg H' := LamX.Tabs.ext t e
theorem TBs.wr {K : PySem.W.Frag} {mg : Str → Option Value} {H : Hp} {p : Addr} {o : HO} (t : TBs K mg H) (h : ∃ u, H p = some u ∧ Thing u) : TBs K mg (upd H p o) := by
  obtain ⟨u, hu, h1, h2⟩ := h
  intro q hq
  obtain ⟨ps, t1, t2, t3⟩ := t q hq
  have n1 : q.1 ≠ p := fun z => by rw [z, hu] at t1; exact h1 _ (Option.some.inj t1)
  refine ⟨ps, by rw [upd_ne n1]; exact t1, t2, fun pos cv hc => ?_⟩
  obtain ⟨c, e1, e2⟩ := t3 pos cv hc
  have n2 : c ≠ p := fun z => by rw [z, hu] at e2; exact h2 _ (Option.some.inj e2)
  exact ⟨c, e1, by rw [upd_ne n2]; exact e2⟩
theorem NoT.upd {F : Hp} {p : Addr} {o : HO} (h : NoT F) (ho : ∀ ps, o ≠ .tbl ps) : NoT (upd F p o) := fun a ps z => by
  by_cases ha : a = p
  · subst ha; rw [upd_same] at z; exact ho ps (Option.some.inj z)
  · rw [upd_ne ha] at z; exact h a ps z
def Nw (H : Hp) (a : Addr) : Prop := H a = none ∨ ∃ ps, H a = some (.tbl ps)
theorem Nw.not {H : Hp} {a : Addr} {u : HO} (h : Nw H a) (hu : H a = some u) (ht : ∀ ps, u ≠ .tbl ps) : False := by
  rcases h with h | ⟨ps, h⟩
  · rw [h] at hu; cases hu
  · rw [h] at hu; cases hu; exact ht ps rfl
structure AbsX (K : PySem.W.Frag) (mg : Str → Option Value) (G F H : Hp) : Prop where
  tb : TBs K mg H
  nf : NoT F
  ng : NoT G
structure Abs (K : PySem.W.Frag) (mg : Str → Option Value) (G Z F : Hp) (σ : L2.St) (H : Hp) (ρ : Ro) : Prop where
  sub : Ex' F H
  bg : Ex' G H
  f0 : Ex' Z F
  nw : ∀ a o, F a = some o → Z a = some o ∨ G a = none ∨ ∃ xs, o = .tup xs
  len : ρ.length = σ.length
  fz : ∀ (i : Nat) v, ρ[i]? = some (.fz v) → ∃ x, σ[i]? = some (some x) ∧ Rep K mg F x v
  ow : ∀ (i : Nat) v, ρ[i]? = some (.ow v) → ∃ a, σ[i]? = some (some (.ref a)) ∧ G a = none ∧ Own K mg F H a v
  ap : ∀ (i j : Nat) a v w, i ≠ j → ρ[i]? = some (.ow v) → ρ[j]? = some (.ow w) → σ[i]? = some (some (.ref a)) → σ[j]? ≠ some (some (.ref a))
  x : AbsX K mg G F H
def Lone (σ : L2.St) (ρ : Ro) (a : Addr) : Prop := ∀ (i : Nat) w, ρ[i]? = some (.ow w) → σ[i]? ≠ some (some (.ref a))
def ResR (K : PySem.W.Frag) (mg : Str → Option Value) (G F : Hp) (σ : L2.St) (H : Hp) (ρ : Ro) (x : V) : Slot → Prop
  | .fz v => Rep K mg F x v
  | .ow v => ∃ a, x = .ref a ∧ G a = none ∧ Own K mg F H a v ∧ Lone σ ρ a
  | .un => False
section
variable {K : PySem.W.Frag} {mg : Str → Option Value} {G Z F : Hp} {σ : L2.St} {H : Hp} {ρ : Ro}
theorem Abs.newF {p : Addr} {o : HO} (A : Abs K mg G Z F σ H ρ) (h : H p = none) (ho : ∀ ps, o ≠ .tbl ps := by nofun) : Abs K mg G Z (upd F p o) σ (upd H p o) ρ ∧ Ex' F (upd F p o) := by
  have hF : F p = none := by
    cases q : F p with
    | none => rfl
    | some u => rw [A.sub p u q] at h; cases h
  have hG : G p = none := by
    cases q : G p with
    | none => rfl
    | some u => rw [A.bg p u q] at h; cases h
  have e : Ex' F (upd F p o) := Ex'.new hF
  refine ⟨⟨fun a u q => ?_, A.bg.trans (Ex'.new h), A.f0.trans e, fun a u q => ?_, A.len, fun i v q => ?_, fun i v q => ?_, A.ap, A.x.tb.up (Ex'.new h), A.x.nf.upd ho, A.x.ng⟩, e⟩
  · by_cases ha : a = p
    · subst ha; rw [upd_same] at q ⊢; exact q
    · rw [upd_ne ha] at q ⊢; exact A.sub a u q
  · by_cases ha : a = p
    · subst ha; exact .inr (.inl hG)
    · rw [upd_ne ha] at q; exact A.nw a u q
  · obtain ⟨x, h1, h2⟩ := A.fz i v q
    exact ⟨x, h1, h2.mono e⟩
  · obtain ⟨a, h1, h2, h3⟩ := A.ow i v q
    have ha : a ≠ p := fun z => by
      obtain ⟨u, hu, _⟩ := h3.at
      rw [z, h] at hu; cases hu
    exact ⟨a, h1, h2, h3.keep e (by rw [upd_ne ha]; exact h3.no) (upd_ne ha)⟩
theorem Abs.newO {p : Addr} {o : HO} (A : Abs K mg G Z F σ H ρ) (h : H p = none) : Abs K mg G Z F σ (upd H p o) ρ ∧ F p = none ∧ G p = none ∧ Lone σ ρ p := by
  have hF : F p = none := by
    cases q : F p with
    | none => rfl
    | some u => rw [A.sub p u q] at h; cases h
  have hG : G p = none := by
    cases q : G p with
    | none => rfl
    | some u => rw [A.bg p u q] at h; cases h
  have ne : ∀ {a : Addr} {v : Val}, Own K mg F H a v → a ≠ p := fun {a v} q z => by
    obtain ⟨u, hu, _⟩ := q.at
    rw [z, h] at hu; cases hu
  refine ⟨⟨A.sub.trans (Ex'.new h), A.bg.trans (Ex'.new h), A.f0, A.nw, A.len, A.fz, fun i v q => ?_, A.ap, A.x.tb.up (Ex'.new h), A.x.nf, A.x.ng⟩, hF, hG, fun i w q z => ?_⟩
  · obtain ⟨a, h1, h2, h3⟩ := A.ow i v q
    exact ⟨a, h1, h2, h3.keep (Ex'.refl F) h3.no (upd_ne (ne h3))⟩
  · obtain ⟨a, h1, h2, h3⟩ := A.ow i w q
    rw [z] at h1; cases h1
    exact ne h3 rfl
theorem Abs.wr {p : Addr} {o : HO} (A : Abs K mg G Z F σ H ρ) (hF : F p = none) (hG : G p = none) (hl : Lone σ ρ p) (ht : ∃ u, H p = some u ∧ Thing u) : Abs K mg G Z F σ (upd H p o) ρ := by
  refine ⟨fun a u q => ?_, fun a u q => ?_, A.f0, A.nw, A.len, A.fz, fun i v q => ?_, A.ap, A.x.tb.wr ht, A.x.nf, A.x.ng⟩
  · rw [upd_ne (fun z => by rw [z, hF] at q; cases q)]; exact A.sub a u q
  · rw [upd_ne (fun z => by rw [z, hG] at q; cases q)]; exact A.bg a u q
  · obtain ⟨a, h1, h2, h3⟩ := A.ow i v q
    have ha : a ≠ p := fun z => hl i v q (by rw [← z]; exact h1)
    exact ⟨a, h1, h2, h3.keep (Ex'.refl F) h3.no (upd_ne ha)⟩
theorem Abs.fixO {p : Addr} {o : HO} (A : Abs K mg G Z F σ H ρ) (hF : F p = none) (hG : G p = none) (hl : Lone σ ρ p) (hH : H p = some o) (ho : ∀ ps, o ≠ .tbl ps := by nofun) : Abs K mg G Z (upd F p o) σ H ρ ∧ Ex' F (upd F p o) := by
  have e : Ex' F (upd F p o) := Ex'.new hF
  refine ⟨⟨fun a u q => ?_, A.bg, A.f0.trans e, fun a u q => ?_, A.len, fun i v q => ?_, fun i v q => ?_, A.ap, A.x.tb, A.x.nf.upd ho, A.x.ng⟩, e⟩
  · by_cases ha : a = p
    · subst ha; rw [upd_same] at q; rw [hH]; exact q
    · rw [upd_ne ha] at q; exact A.sub a u q
  · by_cases ha : a = p
    · subst ha; exact .inr (.inl hG)
    · rw [upd_ne ha] at q; exact A.nw a u q
  · obtain ⟨x, h1, h2⟩ := A.fz i v q
    exact ⟨x, h1, h2.mono e⟩
  · obtain ⟨a, h1, h2, h3⟩ := A.ow i v q
    have ha : a ≠ p := fun z => hl i v q (by rw [← z]; exact h1)
    exact ⟨a, h1, h2, h3.keep e (by rw [upd_ne ha]; exact h3.no) rfl⟩
theorem Abs.loose {i : Nat} {v : Val} {a : Addr} (A : Abs K mg G Z F σ H ρ) (h : ρ[i]? = some (.ow v)) (ha : σ[i]? = some (some (.ref a))) (s : Slot) (hs : ∀ w, s ≠ .ow w) (hf : ∀ w, s = .fz w → ∃ x, σ[i]? = some (some x) ∧ Rep K mg F x w) :
    Abs K mg G Z F σ H (ρ.set i s) ∧ Lone σ (ρ.set i s) a := by
  have hi : i < ρ.length := by
    have := List.getElem?_eq_some_iff.mp h
    exact this.1
  have get : ∀ j : Nat, (ρ.set i s)[j]? = if j = i then some s else ρ[j]? := fun j => by
    by_cases hj : j = i
    · subst hj; rw [List.getElem?_set_self hi, if_pos rfl]
    · rw [List.getElem?_set_ne (Ne.symm hj), if_neg hj]
  refine ⟨⟨A.sub, A.bg, A.f0, A.nw, by rw [List.length_set]; exact A.len, fun j w q => ?_, fun j w q => ?_, fun j k b w w' hjk q q' => ?_, A.x⟩, fun j w q z => ?_⟩
  · rw [get] at q
    by_cases hj : j = i
    · subst hj; rw [if_pos rfl] at q; exact hf w (Option.some.inj q)
    · rw [if_neg hj] at q; exact A.fz j w q
  · rw [get] at q
    by_cases hj : j = i
    · subst hj; rw [if_pos rfl] at q; exact absurd (Option.some.inj q) (hs w)
    · rw [if_neg hj] at q; exact A.ow j w q
  · rw [get] at q q'
    by_cases hj : j = i
    · subst hj; rw [if_pos rfl] at q; exact absurd (Option.some.inj q) (hs w)
    · by_cases hk : k = i
      · subst hk; rw [if_pos rfl] at q'; exact absurd (Option.some.inj q') (hs w')
      · rw [if_neg hj] at q; rw [if_neg hk] at q'; exact A.ap j k b w w' hjk q q'
  · rw [get] at q
    by_cases hj : j = i
    · subst hj; rw [if_pos rfl] at q; exact absurd (Option.some.inj q) (hs w)
    · rw [if_neg hj] at q
      exact A.ap i j a v w (Ne.symm hj) h q ha z
end
end EV
namespace EV
open PySem PySem.Spec PyProof.Rows L2
def ExR (K : PySem.W.Frag) (mg : Str → Option Value) (F : Hp) (d : Option Addr) (e : Exc) : Prop :=
  (e.fs = [] ∧ d = none) ∨ ∃ dx xs, d = some dx ∧ F dx = some (.xd xs) ∧ RepF K mg F xs e.fs
section
variable (K : PySem.W.Frag) (mg : Str → Option Value) (W : WX)
def Aft {α : Type} (G Z F : Hp) (σ : L2.St) (m : Res α) (C : Hp → Hp → Ro → α → Prop) : Prop := match m with
  | some (.ok a ρ') => ∀ F' H', Abs K mg G Z F' σ H' ρ' → Ex' F F' → C F' H' ρ' a
  | some (.ex e ρ') => ∀ F' H' d, Abs K mg G Z F' σ H' ρ' → Ex' F F' → ExR K mg F' d e → W (.ref (GH.clsA mg (Str.ofString e.c))) d σ H'
  | none => False
def OpdR (F : Hp) (σ : L2.St) (x : V) : Opd → Prop
  | .pl i => σ[i]? = some (some x)
  | .tm v => Rep K mg F x v
def tM {α : Type} (m : Ro → Res α) (R : Hp → Hp → L2.St → Hp → Ro → V → α → Prop) : TE := fun σ H Q => ∃ G Z F ρ, Abs K mg G Z F σ H ρ ∧ Aft K mg W G Z F σ (m ρ) fun F' H' ρ' a => ∀ x, R G F' σ H' ρ' x a → Q x H'
variable (T : Tab) (cal mkc : Cal)
def tE (e : Ex) : TE := tM K mg W (evE T cal mkc e) fun G F σ H ρ x r => ResR K mg G F σ H ρ x r
def tO (e : Ex) : TE := tM K mg W (opnd e (evE T cal mkc e)) fun _ F σ _ _ x o => OpdR K mg F σ x o
def tV (e : Ex) : TE := tM K mg W (fun ρ => bnd (evE T cal mkc e ρ) fixv) fun _ F _ _ _ x v => Rep K mg F x v
def tB (e : Ex) : TT := fun σ H Q => ∃ G Z F ρ, Abs K mg G Z F σ H ρ ∧ Aft K mg W G Z F σ (bnd (evE T cal mkc e ρ) asBool) fun F' H' ρ' b => Q b H'
def tAs (es : List Ex) : TA := fun σ H Q => ∃ G Z F ρ, Abs K mg G Z F σ H ρ ∧ Aft K mg W G Z F σ (evEs T cal mkc es ρ) fun F' H' ρ' vs => ∀ xs, Reps K mg F' xs vs → Q xs H'
end
section
variable {K : PySem.W.Frag} {mg : Str → Option Value} {W : WX} {α β : Type} {G Z F F1 : Hp} {σ : L2.St} {m : Res α}
theorem Aft.up {C : Hp → Hp → Ro → α → Prop} (h : Aft K mg W G Z F σ m C) (e : Ex' F F1) : Aft K mg W G Z F1 σ m C := by
  unfold Aft at h ⊢
  split at h
  · exact fun F' H' A q => h F' H' A (e.trans q)
  · exact fun F' H' d A q r => h F' H' d A (e.trans q) r
  · exact h
theorem Aft.imp {C C' : Hp → Hp → Ro → α → Prop} (h : Aft K mg W G Z F σ m C) (k : ∀ F' H' ρ' a, Abs K mg G Z F' σ H' ρ' → Ex' F F' → C F' H' ρ' a → C' F' H' ρ' a) : Aft K mg W G Z F σ m C' := by
  unfold Aft at h ⊢
  split at h
  · exact fun F' H' A q => k _ _ _ _ A q (h F' H' A q)
  · exact h
  · exact h
theorem Aft.bnd {k : α → Ro → Res β} {C : Hp → Hp → Ro → β → Prop} (h : Aft K mg W G Z F σ (EV.bnd m k) C) : Aft K mg W G Z F σ m fun F' _ ρ' a => Aft K mg W G Z F' σ (k a ρ') C := by
  match m, h with
  | some (.ok a ρ'), h =>
    intro F' H' A q
    have h : Aft K mg W G Z F σ (k a ρ') C := h
    exact h.up q
  | some (.ex e ρ'), h => exact h
  | none, h => exact h
theorem Aft.pur {a : α} {ρ : Ro} {H : Hp} {C : Hp → Hp → Ro → α → Prop} (h : Aft K mg W G Z F σ (EV.pur a ρ) C) (A : Abs K mg G Z F σ H ρ) : C F H ρ a := h F H A (Ex'.refl F)
theorem Aft.lift {o : Option α} {ρ : Ro} {C : Hp → Hp → Ro → α → Prop} (h : Aft K mg W G Z F σ (EV.lift o ρ) C) : ∃ a, o = some a ∧ Aft K mg W G Z F σ (EV.pur a ρ) C := by
  cases o with
  | none => exact h.elim
  | some a => exact ⟨a, rfl, h⟩
end
theorem _root_.L2.PE.imp {X : Cx} {e : Expr} {t t' : TE} (h : PE X e t) (k : ∀ σ H Q, t' σ H Q → t σ H Q) : PE X e t' := ⟨fun pins s σ H Q I q => h.run pins s σ H Q I (k σ H Q q)⟩
theorem _root_.L2.PT.imp {X : Cx} {e : Expr} {t t' : TT} (h : PT X e t) (k : ∀ σ H Q, t' σ H Q → t σ H Q) : PT X e t' := ⟨fun pins s σ H Q I q => h.run pins s σ H Q I (k σ H Q q)⟩
theorem _root_.L2.PA.imp {X : Cx} {es : List Expr} {t t' : TA} (h : PA X es t) (k : ∀ σ H Q, t' σ H Q → t σ H Q) : PA X es t' := ⟨fun pos pins s σ H Q I q => h.run pos pins s σ H Q I (k σ H Q q)⟩
theorem _root_.L2.PS.imp {X : Cx} {st : Stmt} {t t' : TS} (h : PS X st t) (k : ∀ D σ H, t' D σ H → t D σ H) : PS X st t' := ⟨fun pins s σ H D I q => h.run pins s σ H D I (k D σ H q)⟩
def NewR0 (K : PySem.W.Frag) (mg : Str → Option Value) (F H : Hp) (z : V) (H' : Hp) : Slot → Prop
  | .fz v => (H' = H ∧ Rep K mg F z v) ∨ ∃ p ob, H p = none ∧ H' = upd H p ob ∧ z = .ref p ∧ (∀ ps, ob ≠ .tbl ps) ∧ ∀ F', Ex' F F' → F' p = some ob → Rep K mg F' z v
  | .ow v => ∃ p ob, H p = none ∧ H' = upd H p ob ∧ z = .ref p ∧ (F p = none → Own K mg F H' p v)
  | .un => False
structure TX (F F' H : Hp) : Prop where
  up : Ex' F F'
  t : ∀ a o, F' a = some o → F a = some o ∨ (H a = some o ∧ ∃ xs, o = .tup xs)
theorem TX.refl (F H : Hp) : TX F F H := ⟨Ex'.refl F, fun _ _ h => .inl h⟩
def NewR (K : PySem.W.Frag) (mg : Str → Option Value) (F H : Hp) (z : V) (H' : Hp) (r : Slot) : Prop := ∃ F1, TX F F1 H ∧ NewR0 K mg F1 H z H' r
theorem Abs.tx {K : PySem.W.Frag} {mg : Str → Option Value} {G Z F F' : Hp} {σ : L2.St} {H : Hp} {ρ : Ro} (A : Abs K mg G Z F σ H ρ) (t : TX F F' H) : Abs K mg G Z F' σ H ρ := by
  refine ⟨fun a o q => ?_, A.bg, A.f0.trans t.up, fun a o q => ?_, A.len, fun i v q => ?_, fun i v q => ?_, A.ap, A.x.tb, fun a ps z => ?_, A.x.ng⟩
  · rcases t.t a o q with h | ⟨h, _⟩
    · exact A.sub a o h
    · exact h
  · rcases t.t a o q with h | ⟨_, h⟩
    · exact A.nw a o h
    · exact .inr (.inr h)
  · obtain ⟨x, h1, h2⟩ := A.fz i v q
    exact ⟨x, h1, h2.mono t.up⟩
  · obtain ⟨a, h1, h2, h3⟩ := A.ow i v q
    refine ⟨a, h1, h2, h3.keep t.up ?_ rfl⟩
    cases w : F' a with
    | none => rfl
    | some o =>
      rcases t.t a o w with h | ⟨h, xs, rfl⟩
      · rw [h3.no] at h; cases h
      · obtain ⟨u, hu, hn⟩ := h3.at
        rw [h] at hu; cases hu
        exact absurd rfl (hn xs)
  · rcases t.t a _ z with h | ⟨_, xs, h⟩
    · exact A.x.nf a ps h
    · cases h
section
variable {K : PySem.W.Frag} {mg : Str → Option Value} {W : WX} {G Z F : Hp} {σ : L2.St} {H H' : Hp} {ρ : Ro} {z : V} {r : Slot}
theorem Abs.new {Q : V → Hp → Prop} (A : Abs K mg G Z F σ H ρ) (n : NewR K mg F H z H' r) (h : ∀ F' H'', Abs K mg G Z F' σ H'' ρ → Ex' F F' → ∀ x, ResR K mg G F' σ H'' ρ x r → Q x H'') : Q z H' := by
  obtain ⟨F1, tx, n⟩ := n
  have A := A.tx tx
  have h : ∀ F' H'', Abs K mg G Z F' σ H'' ρ → Ex' F1 F' → ∀ x, ResR K mg G F' σ H'' ρ x r → Q x H'' := fun F' H'' A' e => h F' H'' A' (tx.up.trans e)
  clear tx
  cases r with
  | un => exact n.elim
  | fz v =>
    rcases n with ⟨e, q⟩ | ⟨p, ob, hp, e, ez, ho, q⟩
    · subst e
      exact h F1 H' A (Ex'.refl F1) z q
    · subst e
      obtain ⟨A', e'⟩ := A.newF (o := ob) hp ho
      exact h _ _ A' e' z (q _ e' upd_same)
  | ow v =>
    obtain ⟨p, ob, hp, e, ez, q⟩ := n
    subst e
    obtain ⟨A', hF, hG, hl⟩ := A.newO (o := ob) hp
    exact h F1 _ A' (Ex'.refl F1) z ⟨p, ez, hG, q hF, hl⟩
theorem OpdR.read {x : V} {o : Opd} {v : Val} (A : Abs K mg G Z F σ H ρ) (r : OpdR K mg F σ x o) (h : o.val ρ = some v) : RepB K mg F H x v := by
  cases o with
  | tm w => cases h; exact Rep.b A.sub r
  | pl i =>
    have h : (ρ[i]?).bind Slot.val = some v := h
    have r : σ[i]? = some (some x) := r
    cases q : ρ[i]? with
    | none => rw [q] at h; cases h
    | some s =>
      rw [q] at h
      have h : s.val = some v := h
      cases s with
      | un => cases h
      | fz w =>
        obtain rfl : w = v := Option.some.inj h
        obtain ⟨y, h1, h2⟩ := A.fz i w q
        rw [r] at h1; cases h1
        exact Rep.b A.sub h2
      | ow w =>
        obtain rfl : w = v := Option.some.inj h
        obtain ⟨a, h1, _, h2⟩ := A.ow i w q
        rw [r] at h1; cases h1
        exact h2.b
theorem OpdR.mono {F' : Hp} {x : V} {o : Opd} (r : OpdR K mg F σ x o) (e : Ex' F F') : OpdR K mg F' σ x o := by
  cases o with
  | tm w => exact Rep.mono e r
  | pl i => exact r
end
section
variable {X : Cx} {pins : List (Addr × Obj)} {s : Shared} {G Z F : Hp} {σ : L2.St} {H : Hp} {ρ : Ro}
theorem fix_loose {a : Addr} {v : Val} (I : Inv X pins σ H s) (A : Abs X.K X.mg G Z F σ H ρ) (hG : G a = none) (o : Own X.K X.mg F H a v) (hl : Lone σ ρ a) :
    ∃ F' H', Inv X pins σ H' s ∧ Abs X.K X.mg G Z F' σ H' ρ ∧ Ex' F F' ∧ Rep X.K X.mg F' (.ref a) v := by
  cases o with
  | lst n h r =>
    obtain ⟨A', e⟩ := A.fixO n hG hl h
    exact ⟨_, H, I, A', e, .lst upd_same (r.mono e)⟩
  | @dk ks kvs n h r =>
    obtain ⟨od, I'⟩ := I.lock h trivial
    have A1 : Abs X.K X.mg G Z F σ (upd H a (.frz od (.dK ks))) ρ := A.wr n hG hl ⟨_, h, by nofun, by nofun⟩
    obtain ⟨A', e⟩ := A1.fixO n hG hl upd_same
    exact ⟨_, _, I', A', e, .dk upd_same (r.mono e)⟩
  | @dt ks kvs n h r =>
    obtain ⟨od, I'⟩ := I.lock h trivial
    have A1 : Abs X.K X.mg G Z F σ (upd H a (.frz od (.dT ks))) ρ := A.wr n hG hl ⟨_, h, by nofun, by nofun⟩
    obtain ⟨A', e⟩ := A1.fixO n hG hl upd_same
    exact ⟨_, _, I', A', e, .dt upd_same (r.mono e)⟩
  | obj n h r =>
    obtain ⟨A', e⟩ := A.fixO n hG hl h
    exact ⟨_, H, I, A', e, .obj upd_same (r.mono e)⟩
theorem fix_place {i : Nat} {v : Val} (I : Inv X pins σ H s) (A : Abs X.K X.mg G Z F σ H ρ) (h : ρ[i]? = some (.ow v)) :
    ∃ F' H' x, Inv X pins σ H' s ∧ Abs X.K X.mg G Z F' σ H' (ρ.set i (.fz v)) ∧ Ex' F F' ∧ σ[i]? = some (some x) ∧ Rep X.K X.mg F' x v := by
  obtain ⟨a, h1, h2, h3⟩ := A.ow i v h
  obtain ⟨A1, l1⟩ := A.loose h h1 .un (fun _ z => by cases z) (fun _ z => by cases z)
  obtain ⟨F', H', I', A', e, q⟩ := fix_loose I A1 h2 h3 l1
  have hi : i < ρ.length := (List.getElem?_eq_some_iff.mp h).1
  refine ⟨F', H', .ref a, I', ⟨A'.sub, A'.bg, A'.f0, A'.nw, by rw [List.length_set]; exact A.len, fun j w z => ?_, fun j w z => ?_, fun j k b w w' n z z' => ?_, A'.x⟩, e, h1, q⟩
  · by_cases hj : j = i
    · subst hj
      rw [List.getElem?_set_self hi] at z; cases z
      exact ⟨_, h1, q⟩
    · rw [List.getElem?_set_ne (Ne.symm hj)] at z
      exact A'.fz j w (by rw [List.getElem?_set_ne (Ne.symm hj)]; exact z)
  · by_cases hj : j = i
    · subst hj
      rw [List.getElem?_set_self hi] at z; cases z
    · rw [List.getElem?_set_ne (Ne.symm hj)] at z
      exact A'.ow j w (by rw [List.getElem?_set_ne (Ne.symm hj)]; exact z)
  · by_cases hj : j = i
    · subst hj
      rw [List.getElem?_set_self hi] at z; cases z
    · by_cases hk : k = i
      · subst hk
        rw [List.getElem?_set_self hi] at z'; cases z'
      · rw [List.getElem?_set_ne (Ne.symm hj)] at z
        rw [List.getElem?_set_ne (Ne.symm hk)] at z'
        exact A'.ap j k b w w' n (by rw [List.getElem?_set_ne (Ne.symm hj)]; exact z) (by rw [List.getElem?_set_ne (Ne.symm hk)]; exact z')
end
section
variable {X : Cx} {W : WX} {T : Tab} {cal mkc : Cal} {e : Expr} {ex : Ex}
theorem pe_fix (h : PE X e (tE X.K X.mg W T cal mkc ex)) : PE X e (tV X.K X.mg W T cal mkc ex) := by
  refine ⟨fun pins s σ H Q I q => ?_⟩
  obtain ⟨G, Z, F, ρ, A, q⟩ := q
  have q := q.bnd
  refine thn (h.run pins s σ H (fun x H' => ∃ F' ρ' r, Abs X.K X.mg G Z F' σ H' ρ' ∧ ResR X.K X.mg G F' σ H' ρ' x r ∧ Aft X.K X.mg W G Z F' σ (fixv r ρ') fun F' H' ρ' v => ∀ x, Rep X.K X.mg F' x v → Q x H') I ⟨G, Z, F, ρ, A, q.imp fun F' H' ρ' r A' e' z x rx => ⟨F', ρ', r, A', rx, z⟩⟩) fun u s1 ⟨x, H1, I1, r1, F', ρ', r, A', rx, z⟩ => ?_
  cases r with
  | un => exact rx.elim
  | fz v => exact ⟨x, H1, I1, r1, (Aft.pur z A') x rx⟩
  | ow v =>
    obtain ⟨a, rfl, hG, o, hl⟩ := rx
    obtain ⟨F2, H2, I2, A2, e2, q2⟩ := fix_loose I1 A' hG o hl
    exact ⟨.ref a, H2, I2, r1, Aft.pur (Aft.up z e2) A2 _ q2⟩
theorem pe_opd (h : PE X e (tE X.K X.mg W T cal mkc ex)) (hn : ∀ i, ex ≠ .v i) : PE X e (tO X.K X.mg W T cal mkc ex) := by
  refine (pe_fix h).imp fun σ H Q q => ?_
  obtain ⟨G, Z, F, ρ, A, q⟩ := q
  have e1 : opnd ex (evE T cal mkc ex) ρ = EV.bnd (evE T cal mkc ex ρ) fun r ρ' => match r with
    | .fz v => EV.pur (.tm v) ρ'
    | .ow v => EV.pur (.tm v) ρ'
    | .un => none := by
    cases ex with
    | v i => exact absurd rfl (hn i)
    | _ => rfl
  rw [e1] at q
  refine ⟨G, Z, F, ρ, A, ?_⟩
  show Aft _ _ _ _ _ _ _ (EV.bnd (evE T cal mkc ex ρ) fixv) _
  cases hm : evE T cal mkc ex ρ with
  | none => rw [hm] at q; exact q.elim
  | some o =>
    rw [hm] at q
    cases o with
    | ex e' ρ' => exact q
    | ok r ρ' =>
      cases r with
      | un => exact q.elim
      | fz v => exact fun F' H' A' e' x rx => q F' H' A' e' x rx
      | ow v => exact fun F' H' A' e' x rx => q F' H' A' e' x rx
theorem pe_place {i : Nat} (h : PE X e (tVar i)) : PE X e (tO X.K X.mg W T cal mkc (.v i)) := by
  refine h.imp fun σ H Q q => ?_
  obtain ⟨G, Z, F, ρ, A, q⟩ := q
  have q : Aft X.K X.mg W G Z F σ (if ((ρ[i]?).bind Slot.val).isSome then EV.pur (Opd.pl i) ρ else none) _ := q
  split at q
  · rename_i hs
    have hx : ∃ x, σ[i]? = some (some x) := by
      cases w : ρ[i]? with
      | none => rw [w] at hs; cases hs
      | some r =>
        cases r with
        | un => rw [w] at hs; cases hs
        | fz v => obtain ⟨x, h1, _⟩ := A.fz i v w; exact ⟨x, h1⟩
        | ow v => obtain ⟨a, h1, _⟩ := A.ow i v w; exact ⟨_, h1⟩
    obtain ⟨x, hx⟩ := hx
    exact ⟨x, hx, Aft.pur q A x hx⟩
  · exact q.elim
theorem pe_name {i : Nat} (h : PE X e (tVar i)) : PE X e (tE X.K X.mg W T cal mkc (.v i)) := by
  refine ⟨fun pins s σ H Q I q => ?_⟩
  obtain ⟨G, Z, F, ρ, A, q⟩ := q
  have q : Aft X.K X.mg W G Z F σ (slotAt i ρ) _ := q
  unfold slotAt at q
  split at q
  · rename_i v hv
    obtain ⟨x, h1, h2⟩ := A.fz i v hv
    exact h.run pins s σ H Q I ⟨x, h1, Aft.pur q A x h2⟩
  · rename_i v hv
    obtain ⟨F', H', x, I', A', e', h1, h2⟩ := fix_place I A hv
    exact h.run pins s σ H' Q I' ⟨x, h1, Aft.pur (Aft.up q e') A' x h2⟩
  · exact q.elim
end
end EV
namespace GH
open PySem PySem.Spec PyProof.Rows L2
theorem tup_once (l : Addr) (items : Array Value) (n : Nat) (dd : Option Addr) (sl : Array (Option Value)) (u : Tok) :
    Meets (Builtin.«tuple.__mul__» ⟨[.ref l, .int 1 u], []⟩) (fun _ R s => s.heap.get? l = some { cls := .type "tuple", dict := dd, data := .seq items n, slots := sl } ∧ R (.ok (.ret (Value.ref l))) s) :=
  .of_wp fun prog w A R s h => by
    obtain ⟨hp, g, d, tk, os⟩ := s
    obtain ⟨hl, h⟩ := h
    have f1 := AutoSeq1.idx_int
    have c1 : (items.isEmpty || (1 : Int) == 1) = true := by simp
    wp_walk using wpAny_loadPart' hl
    repeat (first
      | (refine wpAny_ite_true (decide_eq_true c1) ?_; wp_walk using wpAny_loadPart' hl)
      | (refine wpAny_ite_true rfl ?_; wp_walk using wpAny_loadPart' hl))
    exact ⟨_, rfl, h⟩
def rRepA (K : PySem.W.Frag) : R2 := fun x y H Q => ∃ (l : Addr) (k : Nat) (xs : List V), x = .ref l ∧ y = .int (k : Nat) ∧ SqT K H l xs ∧ xs ≠ [] ∧ 1 ≤ k ∧ k ≤ 1000 ∧ xs.length ≤ 1000 ∧ (k = 1 → Q (.ref l) H) ∧ (k ≠ 1 → ∀ p, H p = none → Q (.ref p) (upd H p (.tup (List.replicate k xs).flatten)))
theorem op_repA {X : Cx} {K : PySem.W.Frag} (hK : X.K = K := by rfl) : OpR X (binaryOp .Mult) (rRepA K) := by
  subst hK
  intro pins s σ H x y v u Q I rx ry h
  obtain ⟨l, k, xs, rfl, rfl, hT, hne, h1, h2, hz, q1, q2⟩ := h
  by_cases hk : k = 1
  · subst hk
    cases rx
    obtain ⟨t, rfl⟩ := ry
    obtain ⟨its, r, ⟨⟨cls, dd, data, sl⟩, ho, hc, n, hd⟩, hs⟩ := I.tuple hT
    simp only at hc hd
    subst hc hd
    have one : Value.int ((1 : Nat) : Int) t = Value.int 1 t := rfl
    rw [one]
    exact wpAny_binaryOp_repeat_ref (T := "tuple") (U := "int") (by decide) ⟨_, ho, rfl⟩ (fun s' => typeIs_int s' 1 t) noFill_tuple_mul F.fills_int_mul F.slot_int_rmul repeat_tuple F.slot_int_index.lookup
      (call_meets F.slot_int_rmul (typeIs_int s 1 t) F.entry_int_rmul (F.args_int_rmul_2 _ _) (int_rmul_tuple 1 t l its.toArray n dd sl)
        ⟨ho, rfl, ⟨_, ho, rfl⟩, call_meets F.slot_tuple_mul ⟨_, ho, rfl⟩ F.entry_tuple_mul (F.args_tuple_mul_2 _ _) (tup_once l its.toArray n dd sl t) ⟨ho, ⟨.ref l, H, I, rfl, q1 rfl⟩⟩⟩)
  · refine op_repT pins s σ H _ _ v u Q I rx ry ⟨l, (k : Nat), xs, rfl, rfl, hT, hne, by omega, by omega, hz, fun p np => ?_⟩
    rw [Int.toNat_natCast]
    exact q2 hk p np
end GH
namespace EV
open PySem PySem.Spec PyProof.Rows L2
section
variable {K : PySem.W.Frag} {mg : Str → Option Value} {F H : Hp}
mutual
theorem Rep.dp (e : Ex' F H) : ∀ {x : V} {v : Val} {d : PyData}, Rep K mg F x v → toD v = some d → Dp K H x d
  | _, _, _, .non, h => by simp only [toD] at h; cases h; exact .non
  | _, _, _, .bl b, h => by simp only [toD] at h; cases h; exact .bl b
  | _, _, _, .int i, h => by simp only [toD] at h; cases h; exact .int i
  | _, _, _, .str l, h => by simp only [toD] at h; cases h; exact .str _
  | _, .lst vs, d, .lst s r, h => by
    simp only [toD] at h
    cases q : toDs vs with
    | none => rw [q] at h; cases h
    | some ds => rw [q] at h; cases h; exact .lst (.inl (.inl (e _ _ s))) (Reps.dp e r q)
  | _, .tup vs, d, .tup s r, h => by
    simp only [toD] at h
    cases q : toDs vs with
    | none => rw [q] at h; cases h
    | some ds => rw [q] at h; cases h; exact .tup (.inl (.inl (e _ _ s))) (Reps.dp e r q)
  | _, _, _, .dk s r, h => by simp only [toD] at h; cases h
  | _, _, _, .dt s r, h => by simp only [toD] at h; cases h
  | _, _, _, .obj s r, h => by simp only [toD] at h; cases h
  | _, _, _, .scr s, h => by simp only [toD] at h; cases h
  | _, _, _, .wtp s, h => by simp only [toD] at h; cases h
  | _, _, _, .cls c, h => by simp only [toD] at h; cases h
theorem Reps.dp (e : Ex' F H) : ∀ {xs : List V} {vs : List Val} {ds : List PyData}, Reps K mg F xs vs → toDs vs = some ds → DpAll K H xs ds
  | _, _, _, .nil, h => by simp only [toDs] at h; cases h; exact .nil
  | _, v :: vs, ds, .cons a r, h => by
    simp only [toDs] at h
    cases q : toD v with
    | none => rw [q] at h; cases h
    | some d =>
      rw [q] at h
      cases q2 : toDs vs with
      | none => rw [q2] at h; cases h
      | some es => rw [q2] at h; cases h; exact .cons (Rep.dp e a q) (Reps.dp e r q2)
end
theorem RepB.dp (e : Ex' F H) {x : V} {v : Val} {d : PyData} (r : RepB K mg F H x v) (h : toD v = some d) : Dp K H x d := by
  cases r with
  | non => simp only [toD] at h; cases h; exact .non
  | bl b => simp only [toD] at h; cases h; exact .bl b
  | int i => simp only [toD] at h; cases h; exact .int i
  | str l => simp only [toD] at h; cases h; exact .str _
  | @lst a xs vs s r =>
    simp only [toD] at h
    cases q : toDs vs with
    | none => rw [q] at h; cases h
    | some ds => rw [q] at h; cases h; exact .lst (.inl (.inl s)) (Reps.dp e r q)
  | @tup a xs vs s r =>
    simp only [toD] at h
    cases q : toDs vs with
    | none => rw [q] at h; cases h
    | some ds => rw [q] at h; cases h; exact .tup (.inl (.inl (e _ _ s))) (Reps.dp e r q)
  | dk s r => simp only [toD] at h; cases h
  | dt s r => simp only [toD] at h; cases h
  | obj s r => simp only [toD] at h; cases h
  | scr s => simp only [toD] at h; cases h
  | wtp s => simp only [toD] at h; cases h
  | cls c => simp only [toD] at h; cases h
end
theorem toS_inj {a b : List Nat} : (toS a == toS b) = (a == b) := by
  rw [Bool.eq_iff_iff]
  simp [toS]
mutual
theorem eqv_D : ∀ {a b : Val} {d e : PyData}, toD a = some d → toD b = some e → PyData.eqv d e = eqv a b
  | .non, b, d, e, h, k => by
    simp only [toD] at h; cases h
    cases b <;> simp only [toD] at k <;> (try cases k) <;> (try simp only [Option.map_eq_some_iff] at k) <;> (try (obtain ⟨_, _, rfl⟩ := k)) <;> simp [PyData.eqv, eqv]
  | .bl a, b, d, e, h, k => by
    simp only [toD] at h; cases h
    cases b <;> simp only [toD] at k <;> (try cases k) <;> (try simp only [Option.map_eq_some_iff] at k) <;> (try (obtain ⟨_, _, rfl⟩ := k)) <;> simp [PyData.eqv, eqv]
  | .int a, b, d, e, h, k => by
    simp only [toD] at h; cases h
    cases b <;> simp only [toD] at k <;> (try cases k) <;> (try simp only [Option.map_eq_some_iff] at k) <;> (try (obtain ⟨_, _, rfl⟩ := k)) <;> simp [PyData.eqv, eqv]
  | .str a, b, d, e, h, k => by
    simp only [toD] at h; cases h
    cases b <;> simp only [toD] at k <;> (try cases k) <;> (try simp only [Option.map_eq_some_iff] at k) <;> (try (obtain ⟨_, _, rfl⟩ := k)) <;> simp only [PyData.eqv, eqv]
    exact toS_inj
  | .lst a, b, d, e, h, k => by
    simp only [toD, Option.map_eq_some_iff] at h
    obtain ⟨ds, h, rfl⟩ := h
    cases b <;> simp only [toD] at k <;> (try cases k) <;> (try simp only [Option.map_eq_some_iff] at k) <;> (try (obtain ⟨es, k, rfl⟩ := k)) <;> simp only [PyData.eqv, eqv]
    exact eqvs_D h k
  | .tup a, b, d, e, h, k => by
    simp only [toD, Option.map_eq_some_iff] at h
    obtain ⟨ds, h, rfl⟩ := h
    cases b <;> simp only [toD] at k <;> (try cases k) <;> (try simp only [Option.map_eq_some_iff] at k) <;> (try (obtain ⟨es, k, rfl⟩ := k)) <;> simp only [PyData.eqv, eqv]
    exact eqvs_D h k
  | .dct _, _, _, _, h, _ => by simp only [toD] at h; cases h
  | .obj _ _, _, _, _, h, _ => by simp only [toD] at h; cases h
  | .scr _, _, _, _, h, _ => by simp only [toD] at h; cases h
  | .wtp _, _, _, _, h, _ => by simp only [toD] at h; cases h
  | .cls _, _, _, _, h, _ => by simp only [toD] at h; cases h
theorem eqvs_D : ∀ {a b : List Val} {d e : List PyData}, toDs a = some d → toDs b = some e → PyData.eqvAll d e = eqvs a b
  | [], b, d, e, h, k => by
    simp only [toDs] at h; cases h
    cases b with
    | nil => simp only [toDs] at k; cases k; rfl
    | cons y s =>
      simp only [toDs, Option.bind_eq_some_iff, Option.map_eq_some_iff] at k
      obtain ⟨_, _, _, _, rfl⟩ := k
      rfl
  | x :: r, b, d, e, h, k => by
    simp only [toDs, Option.bind_eq_some_iff, Option.map_eq_some_iff] at h
    obtain ⟨dx, hx, dr, hr, rfl⟩ := h
    cases b with
    | nil => simp only [toDs] at k; cases k; rfl
    | cons y s =>
      simp only [toDs, Option.bind_eq_some_iff, Option.map_eq_some_iff] at k
      obtain ⟨ey, ky, es, ks, rfl⟩ := k
      simp only [PyData.eqvAll, eqvs]
      rw [eqv_D hx ky, eqvs_D hr ks]
end
end EV
namespace EV
open PySem PySem.Spec PyProof.Rows L2
theorem cap_line {n : Nat} (h : n ≤ cap) : n ≤ sizeLine := by rw [sizeLine_eq]; unfold cap at h; omega
theorem toS_app (a b : List Nat) : toS a ++ toS b = toS (a ++ b) := by
  show (⟨a.toArray ++ b.toArray⟩ : Str) = ⟨(a ++ b).toArray⟩
  simp
theorem toS_len (a : List Nat) : (toS a).length = a.length := by
  show a.toArray.size = a.length
  simp
def bOp : Bin → Operator
  | .add => .Add | .sub => .Sub | .mul => .Mult | .mod => .Mod | .fdiv => .FloorDiv | .pow => .Pow
section
variable {K : PySem.W.Frag} {mg : Str → Option Value} {F H : Hp}
def rBin (K : PySem.W.Frag) (mg : Str → Option Value) (o : Bin) : R2 := fun x y H Q => ∃ F u w r, Ex' F H ∧ RepB K mg F H x u ∧ RepB K mg F H y w ∧ binF o u w = some r ∧ ∀ z H', NewR K mg F H z H' r → Q z H'
theorem newT {xs : List V} {vs : List Val} {p : Addr} (h : H p = none) (r : Reps K mg F xs vs) : NewR K mg F H (.ref p) (upd H p (.tup xs)) (.fz (.tup vs)) :=
  ⟨F, TX.refl F H, .inr ⟨p, _, h, rfl, rfl, by nofun, fun F' e q => .tup q (r.mono e)⟩⟩
theorem newL {xs : List V} {vs : List Val} {p : Addr} (h : H p = none) (r : Reps K mg F xs vs) : NewR K mg F H (.ref p) (upd H p (.lst xs)) (.ow (.lst vs)) :=
  ⟨F, TX.refl F H, p, _, h, rfl, rfl, fun n => .lst n upd_same r⟩
theorem newI (i : Int) : NewR K mg F H (.int i) H (.fz (.int i)) := ⟨F, TX.refl F H, .inl ⟨rfl, .int i⟩⟩
theorem newB (b : Bool) : NewR K mg F H (.bl b) H (.fz (.bl b)) := ⟨F, TX.refl F H, .inl ⟨rfl, .bl b⟩⟩
theorem newS (l : List Nat) : NewR K mg F H (.str (toS l)) H (.fz (.str l)) := ⟨F, TX.refl F H, .inl ⟨rfl, .str l⟩⟩
theorem newR {x : V} {v : Val} (h : Rep K mg F x v) : NewR K mg F H x H (.fz v) := ⟨F, TX.refl F H, .inl ⟨rfl, h⟩⟩
theorem Reps.rep {xs : List V} {vs : List Val} (r : Reps K mg F xs vs) : ∀ n, Reps K mg F (List.replicate n xs).flatten (repV vs n)
  | 0 => .nil
  | n + 1 => by
    rw [List.replicate_succ, List.flatten_cons]
    exact r.app (Reps.rep r n)
end
theorem repS_pow (l : List Nat) : ∀ n, GH.pow l n = repS l n
  | 0 => rfl
  | n + 1 => by show l ++ GH.pow l n = l ++ repS l n; rw [repS_pow l n]
section
variable {X : Cx}
theorem op_bin (o : Bin) : OpR X (binaryOp (bOp o)) (rBin X.K X.mg o) := by
  intro pins s σ H x y v u Q I rx ry h
  obtain ⟨F, a, b, r, e, ra, rb, hb, k⟩ := h
  have int2 : ∀ {i j : Int}, x = .int i → y = .int j → True := fun _ _ => trivial
  cases o with
  | add =>
    cases ra with
    | int i => cases rb <;> simp only [binF] at hb <;> cases hb; exact op_add pins s σ H _ _ v u Q I rx ry ⟨_, _, rfl, rfl, k _ _ (newI _)⟩
    | str i =>
      cases rb <;> simp only [binF] at hb <;> try cases hb
      split at hb
      · cases hb
        rename_i hz
        exact op_add_str pins s σ H _ _ v u Q I rx ry ⟨_, _, rfl, rfl, by rw [toS_len, toS_len]; exact cap_line hz, by rw [toS_app]; exact k _ _ (newS _)⟩
      · cases hb
    | lst s1 r1 =>
      cases rb <;> simp only [binF] at hb <;> try cases hb
      rename_i s2 r2
      split at hb
      · cases hb
        rename_i hz
        exact op_cat pins s σ H _ _ v u Q I rx ry ⟨_, _, _, _, rfl, rfl, s1, s2, by rw [r1.length, r2.length]; exact cap_line hz, fun p hp => k _ _ (newL hp (r1.app r2))⟩
      · cases hb
    | tup s1 r1 =>
      cases rb <;> simp only [binF] at hb <;> try cases hb
      rename_i s2 r2
      split at hb
      · cases hb
        rename_i hz
        refine op_catA pins s σ H _ _ v u Q I rx ry ⟨_, _, _, _, rfl, rfl, .inl (.inl (e _ _ s1)), .inl (.inl (e _ _ s2)), by rw [r1.length, r2.length]; exact cap_line hz, fun z => ?_, fun _ z => ?_, fun _ _ p hp => k _ _ (newT hp (r1.app r2))⟩
        · subst z; cases r1; exact k _ _ (newR (.tup s2 r2))
        · subst z; cases r2; rw [List.append_nil] at k; exact k _ _ (newR (.tup s1 r1))
      · cases hb
    | _ => simp only [binF] at hb; cases hb
  | sub =>
    cases ra with
    | int i => cases rb <;> simp only [binF] at hb <;> cases hb; exact op_sub pins s σ H _ _ v u Q I rx ry ⟨_, _, rfl, rfl, k _ _ (newI _)⟩
    | _ => simp only [binF] at hb; cases hb
  | mul =>
    cases ra with
    | int i =>
      cases rb <;> simp only [binF] at hb <;> try cases hb
      split at hb
      · cases hb
        rename_i hz
        refine op_mul pins s σ H _ _ v u Q I rx ry ⟨_, _, rfl, rfl, ?_, k _ _ (newI _)⟩
        simp only [small, Bool.or_eq_true, Bool.and_eq_true, decide_eq_true_eq] at hz
        exact hz
      · cases hb
    | str i =>
      cases rb <;> simp only [binF] at hb <;> try cases hb
      rename_i j
      split at hb
      · cases hb
        rename_i hz
        obtain ⟨h1, h2, h3⟩ := hz
        refine GH.op_mulS pins s σ H _ _ v u Q I rx ry ⟨i, j.toNat, rfl, ?_, by omega, by omega, h1, ?_⟩
        · congr 1; omega
        · rw [repS_pow]; exact k _ _ (newS _)
      · cases hb
    | lst s1 r1 =>
      cases rb <;> simp only [binF] at hb <;> try cases hb
      rename_i j
      split at hb
      · cases hb
        rename_i hz
        obtain ⟨h1, h2, h3⟩ := hz
        refine op_rep pins s σ H _ _ v u Q I rx ry ⟨_, _, _, rfl, rfl, s1, by omega, by omega, ?_, fun p hp => k _ _ (newL hp (r1.rep _))⟩
        rw [r1.length, sizeLine_eq]
        have : j.toNat ≤ 1000 := by omega
        have := Nat.mul_le_mul h1 this
        omega
      · cases hb
    | tup s1 r1 =>
      cases rb <;> simp only [binF] at hb <;> try cases hb
      rename_i j
      split at hb
      · cases hb
        rename_i hz
        obtain ⟨h1, h2, h3, h4⟩ := hz
        have hl := r1.length
        refine (GH.op_repA (X := X) (K := X.K) rfl) pins s σ H _ _ v u Q I rx ry ⟨_, j.toNat, _, rfl, by congr 1; omega, .inl (.inl (e _ _ s1)), fun z => ?_, by omega, by omega, by omega, fun z => ?_, fun _ p hp => k _ _ (newT hp (r1.rep _))⟩
        · subst z; simp at hl; omega
        · rw [z] at k
          have : ∀ l : List Val, repV l 1 = l := fun l => by show l ++ [] = l; simp
          rw [this] at k
          exact k _ _ (newR (.tup s1 r1))
      · cases hb
    | _ => simp only [binF] at hb; cases hb
  | mod =>
    cases ra with
    | int i =>
      cases rb <;> simp only [binF] at hb <;> try cases hb
      split at hb
      · cases hb
        rename_i hz
        exact op_mod pins s σ H _ _ v u Q I rx ry ⟨_, _, rfl, rfl, hz, k _ _ (newI _)⟩
      · cases hb
    | _ => simp only [binF] at hb; cases hb
  | fdiv =>
    cases ra with
    | int i =>
      cases rb <;> simp only [binF] at hb <;> try cases hb
      split at hb
      · cases hb
        rename_i hz
        exact op_fdiv pins s σ H _ _ v u Q I rx ry ⟨_, _, rfl, rfl, ⟨hz.1, by have := hz.2; omega⟩, k _ _ (newI _)⟩
      · cases hb
    | _ => simp only [binF] at hb; cases hb
  | pow =>
    cases ra with
    | int i =>
      cases rb <;> simp only [binF] at hb <;> try cases hb
      split at hb
      · cases hb
        rename_i hz
        obtain ⟨h1, h2, h3, h4⟩ := hz
        exact op_pow pins s σ H _ _ v u Q I rx ry ⟨_, _, rfl, rfl, ⟨h3, by omega, by omega⟩, k _ _ (newI _)⟩
      · cases hb
    | _ => simp only [binF] at hb; cases hb
end
end EV
namespace EV
open PySem PySem.Spec PyProof.Rows L2
def cOp : Cmp → CmpOp
  | .eq => .Eq | .ne => .NotEq | .lt => .Lt | .le => .LtE | .gt => .Gt | .ge => .GtE | .isin => .In | .notin => .NotIn | .is => .Is | .isnt => .IsNot
theorem shp_D {v : Val} (h : shp v = true) : ∃ d, toD v = some d ∧ SeqAt.shaped d = true := by
  unfold shp at h
  split at h
  · exact ⟨_, by assumption, h⟩
  · cases h
theorem bool_beq (a b : Bool) : (Value.bool a == Value.bool b) = (a == b) := by cases a <;> cases b <;> rfl
theorem op_isB {X : Cx} : OpR X (compareOp .Is) (fun x y H Q => ∃ a b, x = .bl a ∧ y = .bl b ∧ Q (.bl (a == b)) H) := by
  intro pins s σ H x y v u Q I rx ry h
  obtain ⟨a, b, rfl, rfl, q⟩ := h
  cases rx
  cases ry
  show wpAny _ _ ((isSame (Value.bool a) (Value.bool b)) >>= fun z => pure (Value.bool z)) _ _ s
  exact wpAny_bind (wpAny_isSame_plain rfl (wpAny_pure (fin_bl I q (by rw [bool_beq]))))
theorem op_isntB {X : Cx} : OpR X (compareOp .IsNot) (fun x y H Q => ∃ a b, x = .bl a ∧ y = .bl b ∧ Q (.bl (a != b)) H) := by
  intro pins s σ H x y v u Q I rx ry h
  obtain ⟨a, b, rfl, rfl, q⟩ := h
  cases rx
  cases ry
  show wpAny _ _ ((isSame (Value.bool a) (Value.bool b)) >>= fun z => pure (Value.bool (!z))) _ _ s
  exact wpAny_bind (wpAny_isSame_plain rfl (wpAny_pure (fin_bl I q (by rw [bool_beq]; rfl))))
theorem keyV_eqv : ∀ a b : Key, eqv (keyV a) (keyV b) = decide (a = b)
  | .inl i, .inl j => by simp [keyV, eqv]; rw [Bool.eq_iff_iff]; simp
  | .inl i, .inr y => by simp [keyV, eqv]
  | .inr x, .inl j => by simp [keyV, eqv]
  | .inr x, .inr y => by
    simp only [keyV, eqv]
    rw [Bool.eq_iff_iff]
    simp only [beq_iff_eq, decide_eq_true_eq, Sum.inr.injEq]
    constructor
    · intro h
      cases x; cases y
      simp only at h
      congr 1
      exact Array.ext' h
    · intro h; rw [h]
theorem keyVs_eqv : ∀ a b : List Key, eqvs (a.map keyV) (b.map keyV) = decide (a = b)
  | [], [] => by simp [eqvs]
  | [], _ :: _ => by simp [eqvs]
  | _ :: _, [] => by simp [eqvs]
  | x :: r, y :: s => by
    simp only [List.map_cons, eqvs]
    rw [keyV_eqv, keyVs_eqv r s, Bool.eq_iff_iff]
    simp
section
variable {K : PySem.W.Frag} {mg : Str → Option Value} {F H : Hp}
theorem RepB.key {x : V} {v : Val} (r : RepB K mg F H x v) (h : keyOk v = true) : ∃ k : Key, x = kV k ∧ v = keyV k := by
  cases r with
  | int i => exact ⟨.inl i, rfl, rfl⟩
  | str l => exact ⟨.inr (toS l), rfl, by simp [keyV, toS]⟩
  | _ => cases h
theorem Rep.key {x : V} {v : Val} (r : Rep K mg F x v) (h : keyOk v = true) : ∃ k : Key, x = kV k ∧ v = keyV k := RepB.key (H := F) (Rep.b (Ex'.refl F) r) h
theorem Reps.keys : ∀ {xs : List V} {vs : List Val}, Reps K mg F xs vs → vs.all keyOk = true → ∃ ks : List Key, xs = ks.map kV ∧ vs = ks.map keyV
  | _, _, .nil, _ => ⟨[], rfl, rfl⟩
  | _, _, .cons a r, h => by
    simp only [List.all_cons, Bool.and_eq_true] at h
    obtain ⟨k, rfl, rfl⟩ := Rep.key a h.1
    obtain ⟨ks, rfl, rfl⟩ := Reps.keys r h.2
    exact ⟨k :: ks, rfl, rfl⟩
theorem RepK.look : ∀ {ks : List (Key × V)} {kvs : List (Val × Val)} (k : Key), RepK K mg F ks kvs → (look kvs (keyV k) = none ∧ valV ks k = none) ∨ ∃ v x, look kvs (keyV k) = some v ∧ valV ks k = some x ∧ Rep K mg F x v
  | _, _, _, .nil => .inl ⟨rfl, rfl⟩
  | _, _, k, .cons (k := j) (x := x) (v := v) (kvs := kvs) a r => by
    by_cases e : j = k
    · subst e
      refine .inr ⟨v, x, ?_, valV_pos rfl, a⟩
      simp [EV.look, List.find?_cons, keyV_eqv]
    · have e2 : eqv (keyV j) (keyV k) = false := by rw [keyV_eqv]; exact decide_eq_false e
      rw [valV_neg (p := (j, x)) e]
      have e3 : EV.look ((keyV j, v) :: kvs) (keyV k) = EV.look kvs (keyV k) := by
        simp [EV.look, List.find?_cons, e2]
      rw [e3]
      exact RepK.look k r
theorem RepT.look : ∀ {ks : List (List Key × V)} {kvs : List (Val × Val)} (k : List Key), RepT K mg F ks kvs → (look kvs (.tup (k.map keyV)) = none ∧ valV ks k = none) ∨ ∃ v x, look kvs (.tup (k.map keyV)) = some v ∧ valV ks k = some x ∧ Rep K mg F x v
  | _, _, _, .nil => .inl ⟨rfl, rfl⟩
  | _, _, k, .cons (k := j) (x := x) (v := v) (kvs := kvs) a r => by
    by_cases e : j = k
    · subst e
      refine .inr ⟨v, x, ?_, valV_pos rfl, a⟩
      simp [EV.look, List.find?_cons, eqv, keyVs_eqv]
    · have e2 : eqv (.tup (j.map keyV)) (.tup (k.map keyV)) = false := by simp only [eqv]; rw [keyVs_eqv]; exact decide_eq_false e
      rw [valV_neg (p := (j, x)) e]
      have e3 : EV.look ((Val.tup (j.map keyV), v) :: kvs) (.tup (k.map keyV)) = EV.look kvs (.tup (k.map keyV)) := by
        simp [EV.look, List.find?_cons, e2]
      rw [e3]
      exact RepT.look k r
theorem RepK.fits0 : ∀ {ks : List (Key × V)} {kvs : List (Val × Val)} {l : List Val}, RepK K mg F ks kvs → fits kvs (.tup l) = true → ks = [] ∧ kvs = []
  | _, _, _, .nil, _ => ⟨rfl, rfl⟩
  | _, _, _, .cons (k := k) a r, h => by
    simp only [fits, List.all_cons, Bool.and_eq_true] at h
    cases k <;> exact absurd h.1 (by simp [keyV, isTup])
theorem RepT.fits0 : ∀ {ks : List (List Key × V)} {kvs : List (Val × Val)} {k : Key}, RepT K mg F ks kvs → fits kvs (keyV k) = true → ks = [] ∧ kvs = []
  | _, _, _, .nil, _ => ⟨rfl, rfl⟩
  | _, _, k, .cons a r, h => by
    simp only [fits, List.all_cons, Bool.and_eq_true] at h
    cases k <;> exact absurd h.1 (by simp [keyV, isTup])
end
theorem toH0 {P : Program} {w : World} {κ κ' : Type} [DecidableEq κ] [DecidableEq κ'] {knd : KeyKind P w κ} {knd' : HeapKind P w κ'} {h : Heap} {a : Addr} (d : h.DictOf knd a []) : h.DictOfH knd' a [] := by
  obtain ⟨o, es, ep, h1, h2, h3, h4, h5, h6⟩ := d
  have e : es.toList = [] := List.length_eq_zero_iff.mp h5.length
  exact ⟨o, es, ep, h1, h2, h3, by rw [e]; rfl, ⟨fun x hx => absurd hx (by simp), List.nodup_nil⟩⟩
theorem toK0 {P : Program} {w : World} {κ κ' : Type} [DecidableEq κ] [DecidableEq κ'] {knd : KeyKind P w κ} {knd' : HeapKind P w κ'} {h : Heap} {a : Addr} (d : h.DictOfH knd' a []) : h.DictOf knd a [] := by
  obtain ⟨o, es, ep, h1, h2, h3, h4, h5, h6⟩ := d
  have e : es.toList = [] := by rw [h4]; rfl
  refine ⟨o, es, ep, h1, h2, h3, ?_, by rw [e]; exact .nil, List.nodup_nil⟩
  have e2 : es = #[] := by
    apply Array.ext'
    rw [e]
  subst e2
  intro i hi
  simp at hi
section
variable {X : Cx} {pins : List (Addr × Obj)} {σ : L2.St} {H F : Hp} {s : Shared} {a : Addr} {x : V} {kvs : List (Val × Val)} {k : Val} {u : Value}
inductive DIs (X : Cx) (F H : Hp) (s : Shared) (a : Addr) (x : V) (k : Val) (kvs : List (Val × Val)) : Prop
  | k (j : Key) (ks : List (Key × V)) (vs : List (Key × Value)) : x = kV j → k = keyV j → RepK X.K X.mg F ks kvs → (a == sysModules) = false → KV ks vs → s.heap.DictOf (mixKind X.prog X.w) a vs → DIs X F H s a x k kvs
  | t (j : List Key) (b : Addr) (ks : List (List Key × V)) (xs : List (List Key × Addr × Value)) : x = .ref b → k = .tup (j.map keyV) → H b = some (.tup (j.map kV)) → RepT X.K X.mg F ks kvs → (a == sysModules) = false → KT H ks xs → s.heap.DictOfH (tupleKind (mixKind X.prog X.w)) a xs → DIs X F H s a x k kvs
theorem dict_is (I : Inv X pins σ H s) (e : Ex' F H) (r : RepB X.K X.mg F H (.ref a) (.dct kvs)) (rk : RepB X.K X.mg F H x k) (hk : dkey k = true) (hf : fits kvs k = true) : DIs X F H s a x k kvs := by
  have tup : keyOk k = false → ∃ (j : List Key) (b : Addr), x = .ref b ∧ k = .tup (j.map keyV) ∧ H b = some (.tup (j.map kV)) := fun hn => by
    cases rk with
    | tup q rs =>
      obtain ⟨js, rfl, rfl⟩ := rs.keys (by simpa [dkey] using hk)
      exact ⟨js, _, rfl, rfl, e _ _ q⟩
    | int i => cases hn
    | str l => cases hn
    | _ => cases hk
  cases r with
  | dk h r =>
    obtain ⟨z, hd, vs, rel, dd⟩ := dk_rd I.hok h
    by_cases ht : keyOk k = true
    · obtain ⟨j, rfl, rfl⟩ := rk.key ht
      exact .k j _ vs rfl rfl r hd rel dd
    · obtain ⟨j, b, rfl, rfl, hb⟩ := tup (by simpa using ht)
      obtain ⟨rfl, rfl⟩ := r.fits0 hf
      cases rel
      exact .t j b [] [] rfl rfl hb .nil hd .nil (toH0 dd)
  | dt h r =>
    obtain ⟨z, hd, xs, rel, dd⟩ := dt_rd I.hok h
    by_cases ht : keyOk k = true
    · obtain ⟨j, rfl, rfl⟩ := rk.key ht
      obtain ⟨rfl, rfl⟩ := r.fits0 hf
      cases rel
      exact .k j [] [] rfl rfl .nil hd .nil (toK0 dd)
    · obtain ⟨j, b, rfl, rfl, hb⟩ := tup (by simpa using ht)
      exact .t j b _ xs rfl rfl hb r hd rel dd
theorem dict_in {A : Around} {E : Value → Shared → Prop} {Q : Value → Shared → Prop} (hu : A.units + 1 < cLine) (I : Inv X pins σ H s) (d : DIs X F H s a x k kvs) (ru : RelV x u) (h : ∀ s', Inv X pins σ H s' → Q (.bool (look kvs k).isSome) s') :
    wpAny (model X.prog X.w) A (compareOp .In u (.ref a)) Q E s := by
  cases d with
  | k j ks vs ex ek r hd rel dd =>
    subst ex ek
    refine wpAny_in_of (kV_is ru) hd dd.mapOf ?_
    rw [← (rel.val j).isSome_eq]
    rcases r.look j with ⟨h1, h2⟩ | ⟨v, y, h1, h2, h3⟩
    · rw [h2]; rw [h1] at h; exact h _ (I.tok _)
    · rw [h2]; rw [h1] at h; exact h _ (I.tok _)
  | t j b ks xs ex ek hb r hd rel dd =>
    subst ex ek
    cases (show u = Value.ref b from ru)
    refine wpAny_in_heap (tupleKind_room_in1 hu) (key_of I.hok hb) hd dd ?_
    have q := (rel.val j).isSome_eq
    rw [Option.isSome_map] at q
    rw [← q]
    rcases r.look j with ⟨h1, h2⟩ | ⟨v, y, h1, h2, h3⟩
    · rw [h2]; rw [h1] at h; exact h _ (I.tok _)
    · rw [h2]; rw [h1] at h; exact h _ (I.tok _)
theorem dict_notIn {A : Around} {E : Value → Shared → Prop} {Q : Value → Shared → Prop} (hu : A.units + 1 < cLine) (I : Inv X pins σ H s) (d : DIs X F H s a x k kvs) (ru : RelV x u) (h : ∀ s', Inv X pins σ H s' → Q (.bool (!(look kvs k).isSome)) s') :
    wpAny (model X.prog X.w) A (compareOp .NotIn u (.ref a)) Q E s := by
  cases d with
  | k j ks vs ex ek r hd rel dd =>
    subst ex ek
    refine wpAny_notIn_of (kV_is ru) hd dd.mapOf ?_
    rw [← (rel.val j).isSome_eq]
    rcases r.look j with ⟨h1, h2⟩ | ⟨v, y, h1, h2, h3⟩
    · rw [h2]; rw [h1] at h; exact h _ (I.tok _)
    · rw [h2]; rw [h1] at h; exact h _ (I.tok _)
  | t j b ks xs ex ek hb r hd rel dd =>
    subst ex ek
    cases (show u = Value.ref b from ru)
    refine wpAny_notIn_heap (tupleKind_room_in1 hu) (key_of I.hok hb) hd dd ?_
    have q := (rel.val j).isSome_eq
    rw [Option.isSome_map] at q
    rw [← q]
    rcases r.look j with ⟨h1, h2⟩ | ⟨v, y, h1, h2, h3⟩
    · rw [h2]; rw [h1] at h; exact h _ (I.tok _)
    · rw [h2]; rw [h1] at h; exact h _ (I.tok _)
theorem dict_look {v : Val} (r : RepB X.K X.mg F H (.ref a) (.dct kvs)) (e : Ex' F H) (rk : RepB X.K X.mg F H x k) (hk : dkey k = true) (hf : fits kvs k = true) (hl : look kvs k = some v) : ∃ y, DGet H a x (some y) ∧ Rep X.K X.mg F y v := by
  have hne : kvs ≠ [] := fun z => by subst z; cases hl
  cases r with
  | dk h r =>
    by_cases ht : keyOk k = true
    · obtain ⟨j, rfl, rfl⟩ := rk.key ht
      rcases r.look j with ⟨h1, h2⟩ | ⟨v', y, h1, h2, h3⟩
      · rw [h1] at hl; cases hl
      · rw [h1] at hl; cases hl
        exact ⟨y, .inl ⟨_, j, h, rfl, h2.symm⟩, h3⟩
    · cases rk with
      | tup q rs => exact absurd (r.fits0 hf).2 hne
      | int i => exact absurd rfl ht
      | str l => exact absurd rfl ht
      | _ => cases hk
  | dt h r =>
    by_cases ht : keyOk k = true
    · obtain ⟨j, rfl, rfl⟩ := rk.key ht
      exact absurd (r.fits0 hf).2 hne
    · cases rk with
      | tup q rs =>
        obtain ⟨js, rfl, rfl⟩ := rs.keys (by simpa [dkey] using hk)
        rcases r.look js with ⟨h1, h2⟩ | ⟨v', y, h1, h2, h3⟩
        · rw [h1] at hl; cases hl
        · rw [h1] at hl; cases hl
          exact ⟨y, .inr ⟨_, js, _, h, rfl, e _ _ q, h2.symm⟩, h3⟩
      | int i => exact absurd rfl ht
      | str l => exact absurd rfl ht
      | _ => cases hk
end
def rCmp (K : PySem.W.Frag) (mg : Str → Option Value) (o : Cmp) : R2 := fun x y H Q => ∃ F u w c, Ex' F H ∧ RepB K mg F H x u ∧ RepB K mg F H y w ∧ cmpF o u w = some c ∧ Q (.bl c) H
theorem any_D : ∀ {ys : List Val} {ds : List PyData} {x : Val} {d : PyData}, toDs ys = some ds → toD x = some d → (ds.any fun z => PyData.eqv z d) = ys.any fun y => eqv y x
  | [], ds, x, d, h, k => by simp only [toDs] at h; cases h; rfl
  | y :: r, ds, x, d, h, k => by
    simp only [toDs, Option.bind_eq_some_iff, Option.map_eq_some_iff] at h
    obtain ⟨dy, hy, dr, hr, rfl⟩ := h
    rw [List.any_cons, List.any_cons, eqv_D hy k, any_D hr k]
section
variable {X : Cx} {kr : Nat}
theorem op_cmp (hr : Room kr X.A) (o : Cmp) : OpR X (compareOp (cOp o)) (rCmp X.K X.mg o) := by
  intro pins s σ H x y v u Q I rx ry h
  obtain ⟨F, a, b, c, e, ra, rb, hb, k⟩ := h
  have hu : X.A.units + 65 < cLine := by have := hr.un; omega
  have eqq : ∀ {d1 d2 : PyData} {z : Bool}, toD a = some d1 → toD b = some d2 → SeqAt.shaped d1 = true → SeqAt.shaped d2 = true → z = PyData.eqv d1 d2 → True := fun _ _ _ _ _ => trivial
  cases o with
  | eq =>
    simp only [cmpF, eqF] at hb
    split at hb
    · cases hb
      rename_i hs
      rcases Bool.or_eq_true_iff.mp hs with hs | hs
      · rw [Bool.and_eq_true] at hs
        cases ra with
        | str i =>
          cases rb with
          | str j =>
            have e1 : eqv (.str i) (.str j) = (i == j) := by simp only [eqv]
            rw [e1] at k
            exact op_eq pins s σ H _ _ v u Q I rx ry ⟨rfl, by rw [dec_str, toS_inj]; exact k⟩
          | _ => exact nomatch (show (false : Bool) = true from hs.2)
        | _ => exact nomatch (show (false : Bool) = true from hs.1)
      rw [Bool.and_eq_true] at hs
      obtain ⟨d1, h1, s1⟩ := shp_D hs.1
      obtain ⟨d2, h2, s2⟩ := shp_D hs.2
      exact op_eqD (by have := hr.units; omega) pins s σ H x y v u Q I rx ry ⟨d1, d2, ra.dp e h1, rb.dp e h2, s1, s2, by rw [eqv_D h1 h2]; exact k⟩
    · cases hb
  | ne =>
    simp only [cmpF, eqF] at hb
    split at hb
    · cases hb
      rename_i hs
      rcases Bool.or_eq_true_iff.mp hs with hs | hs
      · rw [Bool.and_eq_true] at hs
        cases ra with
        | str i =>
          cases rb with
          | str j =>
            have e1 : eqv (.str i) (.str j) = (i == j) := by simp only [eqv]
            rw [e1] at k
            exact op_ne pins s σ H _ _ v u Q I rx ry ⟨rfl, by rw [dec_str, toS_inj]; exact k⟩
          | _ => exact nomatch (show (false : Bool) = true from hs.2)
        | _ => exact nomatch (show (false : Bool) = true from hs.1)
      rw [Bool.and_eq_true] at hs
      obtain ⟨d1, h1, s1⟩ := shp_D hs.1
      obtain ⟨d2, h2, s2⟩ := shp_D hs.2
      exact op_neD (by have := hr.units; omega) pins s σ H x y v u Q I rx ry ⟨d1, d2, ra.dp e h1, rb.dp e h2, s1, s2, by rw [eqv_D h1 h2]; exact k⟩
    · cases hb
  | lt =>
    cases ra with
    | int i => cases rb <;> simp only [cmpF] at hb <;> cases hb; exact op_lt pins s σ H _ _ v u Q I rx ry ⟨_, _, rfl, rfl, k⟩
    | str i =>
      cases rb <;> simp only [cmpF] at hb <;> cases hb
      rename_i j
      refine op_lt_str pins s σ H _ _ v u Q I rx ry ⟨toS i, toS j, rfl, rfl, ?_⟩
      have e1 : decide ((toS i).cps.toList < (toS j).cps.toList) = decide (i < j) := by
        rw [Bool.eq_iff_iff]
        simp only [decide_eq_true_eq]
        exact Iff.rfl
      rw [e1]; exact k
    | _ => simp only [cmpF] at hb; cases hb
  | le =>
    cases ra with
    | int i => cases rb <;> simp only [cmpF] at hb <;> cases hb; exact op_le pins s σ H _ _ v u Q I rx ry ⟨_, _, rfl, rfl, k⟩
    | _ => simp only [cmpF] at hb; cases hb
  | gt =>
    cases ra with
    | int i => cases rb <;> simp only [cmpF] at hb <;> cases hb; exact op_gt pins s σ H _ _ v u Q I rx ry ⟨_, _, rfl, rfl, k⟩
    | _ => simp only [cmpF] at hb; cases hb
  | ge =>
    cases ra with
    | int i => cases rb <;> simp only [cmpF] at hb <;> cases hb; exact op_ge pins s σ H _ _ v u Q I rx ry ⟨_, _, rfl, rfl, k⟩
    | _ => simp only [cmpF] at hb; cases hb
  | is =>
    cases rb with
    | non =>
      simp only [cmpF] at hb
      cases hb
      refine op_isN pins s σ H _ _ v u Q I rx ry ⟨rfl, ?_⟩
      cases ra <;> exact k
    | bl b =>
      cases ra with
      | bl a =>
        simp only [cmpF] at hb
        cases hb
        exact op_isB pins s σ H _ _ v u Q I rx ry ⟨a, b, rfl, rfl, k⟩
      | _ => simp only [cmpF] at hb; cases hb
    | _ => cases ra <;> simp only [cmpF] at hb <;> cases hb
  | isnt =>
    cases rb with
    | non =>
      simp only [cmpF] at hb
      cases hb
      refine op_notN pins s σ H _ _ v u Q I rx ry ⟨rfl, ?_⟩
      cases ra <;> exact k
    | bl b =>
      cases ra with
      | bl a =>
        simp only [cmpF] at hb
        cases hb
        exact op_isntB pins s σ H _ _ v u Q I rx ry ⟨a, b, rfl, rfl, k⟩
      | _ => simp only [cmpF] at hb; cases hb
    | _ => cases ra <;> simp only [cmpF] at hb <;> cases hb
  | isin =>
    have hb : inF a b = some c := hb
    cases rb with
    | lst s2 r2 =>
      have hb : (if shp a && shp (.lst _) then some (List.any _ fun y => eqv y a) else none) = some c := hb
      split at hb
      · rename_i hs
        cases hb
        rw [Bool.and_eq_true] at hs
        obtain ⟨d1, h1, s1⟩ := shp_D hs.1
        obtain ⟨d2, h2, s2'⟩ := shp_D hs.2
        have rb' := RepB.dp e (RepB.lst s2 r2) h2
        simp only [toD, Option.map_eq_some_iff] at h2
        obtain ⟨ds, h2, rfl⟩ := h2
        exact op_inD hu pins s σ H _ _ v u Q I rx ry ⟨d1, ds, ra.dp e h1, rb', s1, s2', by rw [any_D h2 h1]; exact k⟩
      · cases hb
    | tup s2 r2 =>
      have hb : (if shp a && shp (.tup _) then some (List.any _ fun y => eqv y a) else none) = some c := hb
      split at hb
      · rename_i hs
        cases hb
        rw [Bool.and_eq_true] at hs
        obtain ⟨d1, h1, s1⟩ := shp_D hs.1
        obtain ⟨d2, h2, s2'⟩ := shp_D hs.2
        have rb' := RepB.dp e (RepB.tup s2 r2) h2
        simp only [toD, Option.map_eq_some_iff] at h2
        obtain ⟨ds, h2, rfl⟩ := h2
        obtain ⟨as1, r1⟩ := Dp.reads I d1 _ v (ra.dp e h1) rx
        obtain ⟨bs1, r2⟩ := Dp.reads I (.tuple ds) _ u rb' ry
        refine SeqAt.in_tuple_reads r2 r1 (SeqAt.canLay_of_shaped s2') (SeqAt.canLay_of_shaped s1) (room_in_shaped s1 hu) ⟨.bl _, H, I, rfl, ?_⟩
        rw [any_D h2 h1]; exact k
      · cases hb
    | dk s2 r2 =>
      have hb : (if dkey a && fits _ a then some (look _ a).isSome else none) = some c := hb
      split at hb
      · rename_i hs
        cases hb
        rw [Bool.and_eq_true] at hs
        cases ry
        exact dict_in (by omega) I (dict_is I e (.dk s2 r2) ra hs.1 hs.2) rx fun s' I' => ⟨.bl _, H, I', rfl, k⟩
      · cases hb
    | dt s2 r2 =>
      have hb : (if dkey a && fits _ a then some (look _ a).isSome else none) = some c := hb
      split at hb
      · rename_i hs
        cases hb
        rw [Bool.and_eq_true] at hs
        cases ry
        exact dict_in (by omega) I (dict_is I e (.dt s2 r2) ra hs.1 hs.2) rx fun s' I' => ⟨.bl _, H, I', rfl, k⟩
      · cases hb
    | str l =>
      cases ra with
      | str l1 =>
        match l1, hb with
        | [c1], hb =>
          have hb : some (l.contains c1) = some c := hb
          cases hb
          refine op_in_sign pins s σ H _ _ v u Q I rx ry ⟨c1, toS l, rfl, rfl, ?_⟩
          have e1 : decide (c1 ∈ (toS l).cps.toList) = l.contains c1 := by
            rw [Bool.eq_iff_iff, decide_eq_true_iff]
            exact List.contains_iff_mem.symm
          rw [e1]; exact k
      | _ => cases hb
    | @wtp _ zs s2 =>
      cases ra with
      | str l1 =>
        have hb : some (zs.contains l1) = some c := hb
        cases hb
        have fl : (zs.map fun l => V.str (toS l)).all flatV = true := by simp [flatV]
        refine op_in_seq pins s σ H _ _ v u Q I rx ry ⟨_, _, rfl, .inr (s2.sqT _), rfl, fl, ?_⟩
        have e1 : inV (V.str (toS l1)) (zs.map fun l => V.str (toS l)) = zs.contains l1 := by
          unfold inV
          rw [List.any_map, List.contains_eq_any_beq]
          congr 1
          funext z
          show eqV (V.str (toS z)) (V.str (toS l1)) = (l1 == z)
          have : eqV (V.str (toS z)) (V.str (toS l1)) = (toS z == toS l1) := rfl
          rw [this, toS_inj, Bool.eq_iff_iff, beq_iff_eq, beq_iff_eq]
          exact eq_comm
        simp only [Bool.false_eq_true, if_false]
        rw [e1]; exact k
      | _ => cases hb
    | _ => cases hb
  | notin =>
    have hb : (inF a b).map (!·) = some c := hb
    obtain ⟨c', hq, hc'⟩ := Option.map_eq_some_iff.mp hb
    subst hc'
    clear hb
    cases rb with
    | lst s2 r2 =>
      have hb : (if shp a && shp (.lst _) then some (List.any _ fun y => eqv y a) else none) = some c' := hq
      split at hb
      · rename_i hs
        cases hb
        rw [Bool.and_eq_true] at hs
        obtain ⟨d1, h1, s1⟩ := shp_D hs.1
        obtain ⟨d2, h2, s2'⟩ := shp_D hs.2
        have rb' := RepB.dp e (RepB.lst s2 r2) h2
        simp only [toD, Option.map_eq_some_iff] at h2
        obtain ⟨ds, h2, rfl⟩ := h2
        exact op_notInD hu pins s σ H _ _ v u Q I rx ry ⟨d1, ds, ra.dp e h1, rb', s1, s2', by rw [any_D h2 h1]; exact k⟩
      · cases hb
    | tup s2 r2 =>
      have hb : (if shp a && shp (.tup _) then some (List.any _ fun y => eqv y a) else none) = some c' := hq
      split at hb
      · rename_i hs
        cases hb
        rw [Bool.and_eq_true] at hs
        obtain ⟨d1, h1, s1⟩ := shp_D hs.1
        obtain ⟨d2, h2, s2'⟩ := shp_D hs.2
        have rb' := RepB.dp e (RepB.tup s2 r2) h2
        simp only [toD, Option.map_eq_some_iff] at h2
        obtain ⟨ds, h2, rfl⟩ := h2
        obtain ⟨as1, r1⟩ := Dp.reads I d1 _ v (ra.dp e h1) rx
        obtain ⟨bs1, r2⟩ := Dp.reads I (.tuple ds) _ u rb' ry
        refine SeqAt.notIn_tuple_reads r2 r1 (SeqAt.canLay_of_shaped s2') (SeqAt.canLay_of_shaped s1) (room_in_shaped s1 hu) ⟨.bl _, H, I, rfl, ?_⟩
        rw [any_D h2 h1]; exact k
      · cases hb
    | dk s2 r2 =>
      have hb : (if dkey a && fits _ a then some (look _ a).isSome else none) = some c' := hq
      split at hb
      · rename_i hs
        cases hb
        rw [Bool.and_eq_true] at hs
        cases ry
        exact dict_notIn (by omega) I (dict_is I e (.dk s2 r2) ra hs.1 hs.2) rx fun s' I' => ⟨.bl _, H, I', rfl, k⟩
      · cases hb
    | dt s2 r2 =>
      have hb : (if dkey a && fits _ a then some (look _ a).isSome else none) = some c' := hq
      split at hb
      · rename_i hs
        cases hb
        rw [Bool.and_eq_true] at hs
        cases ry
        exact dict_notIn (by omega) I (dict_is I e (.dt s2 r2) ra hs.1 hs.2) rx fun s' I' => ⟨.bl _, H, I', rfl, k⟩
      · cases hb
    | str l =>
      cases ra with
      | str l1 =>
        match l1, hq with
        | [c1], hq =>
          have hb : some (l.contains c1) = some c' := hq
          cases hb
          refine op_notIn_sign pins s σ H _ _ v u Q I rx ry ⟨c1, toS l, rfl, rfl, ?_⟩
          have e1 : decide (c1 ∈ (toS l).cps.toList) = l.contains c1 := by
            rw [Bool.eq_iff_iff, decide_eq_true_iff]
            exact List.contains_iff_mem.symm
          rw [e1]; exact k
      | _ => cases hq
    | @wtp _ zs s2 =>
      cases ra with
      | str l1 =>
        have hb : some (zs.contains l1) = some c' := hq
        cases hb
        have fl : (zs.map fun l => V.str (toS l)).all flatV = true := by simp [flatV]
        refine op_notIn_seq pins s σ H _ _ v u Q I rx ry ⟨_, _, rfl, .inr (s2.sqT _), rfl, fl, ?_⟩
        have e1 : inV (V.str (toS l1)) (zs.map fun l => V.str (toS l)) = zs.contains l1 := by
          unfold inV
          rw [List.any_map, List.contains_eq_any_beq]
          congr 1
          funext z
          show eqV (V.str (toS z)) (V.str (toS l1)) = (l1 == z)
          have : eqV (V.str (toS z)) (V.str (toS l1)) = (toS z == toS l1) := rfl
          rw [this, toS_inj, Bool.eq_iff_iff, beq_iff_eq, beq_iff_eq]
          exact eq_comm
        simp only [if_true]
        rw [e1]; exact k
      | _ => cases hq
    | _ => cases hq
end
end EV
namespace EV
open PySem PySem.Spec PyProof.Rows L2
theorem ixN_eq (n : Nat) (i : Int) : L2.ixN n i = EV.ixN n i := by
  unfold L2.ixN EV.ixN
  by_cases h0 : 0 ≤ i
  · by_cases h1 : i < n
    · simp [h0, h1]
    · have h2 : ¬ i < 0 := by omega
      simp [h0, h1, h2]
  · have h2 : i < 0 := by omega
    by_cases h1 : -(n : Int) ≤ i
    · simp [h0, h1, h2]
    · simp [h0, h1, h2]
section
variable {K : PySem.W.Frag} {mg : Str → Option Value} {F H : Hp}
theorem Reps.atI {xs : List V} {vs : List Val} {i : Int} {v : Val} (r : Reps K mg F xs vs) (h : ((EV.ixN vs.length i).bind fun j => vs[j]?) = some v) : ∃ x, L2.atI xs i = some x ∧ Rep K mg F x v := by
  obtain ⟨j, h1, h2⟩ := Option.bind_eq_some_iff.mp h
  obtain ⟨x, h3, h4⟩ := r.get h2
  refine ⟨x, ?_, h4⟩
  unfold L2.atI
  rw [ixN_eq, r.length, h1]
  exact h3
def rIdx (K : PySem.W.Frag) (mg : Str → Option Value) : R2 := fun x y H Q => ∃ F u w z, Ex' F H ∧ RepB K mg F H x u ∧ RepB K mg F H y w ∧ idxF u w = some z ∧ ∀ v, Rep K mg F v z → Q v H
def rSlc (K : PySem.W.Frag) (mg : Str → Option Value) : V → Option Int → Option Int → Hp → VK → Prop := fun x lo hi H Q => ∃ F u r, Ex' F H ∧ RepB K mg F H x u ∧ slcF u lo hi = some r ∧ ∀ z H', NewR K mg F H z H' r → Q z H'
theorem sIx_eq (n d : Nat) (o : Option Int) : HT.sIx n d o = EV.sIx n d o := by cases o <;> rfl
theorem Reps.cut {xs : List V} {vs : List Val} (r : Reps K mg F xs vs) (lo hi : Option Int) : Reps K mg F (cutV xs lo hi) (EV.cut vs lo hi) := by
  unfold cutV EV.cut
  rw [sIx_eq, sIx_eq, r.length]
  exact (r.drop _).take _
theorem reps_ints : ∀ ns : List Int, Reps K mg F (ns.map V.int) (ns.map Val.int)
  | [] => .nil
  | n :: r => .cons (.int n) (reps_ints r)
end
section
variable {X : Cx} {kr : Nat}
theorem ix_val (hr : Room kr X.A) : IxR X (rIdx X.K X.mg) := by
  intro value slice pins s σ H x y v u Q I rx ry h hs
  obtain ⟨F, a, b, z, e, ra, rb, hb, k⟩ := h
  have dct : ∀ {ad : Addr} {kvs : List (Val × Val)}, x = .ref ad → RepB X.K X.mg F H (.ref ad) (.dct kvs) → (if dkey b && fits kvs b then look kvs b else none) = some z → wpAny (model X.prog X.w) X.A (subscriptTail value slice v u) (EP X pins σ Q) X.xe s := by
    intro ad kvs ex r hb
    subst ex
    split at hb
    · rename_i hc
      rw [Bool.and_eq_true] at hc
      obtain ⟨w, g, q⟩ := dict_look r e rb hc.1 hc.2 hb
      obtain rfl : v = Value.ref ad := rx
      exact tail_any (dict_typeIs I g) PySem.F.slot_dict_getitem.lookup (d_getItem (by have := hr.un; omega) I g ry fun w' s3 I3 rw' => ⟨w, H, I3, rw', k w q⟩) hs
    · cases hb
  cases ra with
  | lst s1 r1 =>
    cases rb <;> simp only [idxF] at hb <;> try cases hb
    obtain ⟨w, h1, h2⟩ := r1.atI hb
    exact ix_list value slice pins s σ H _ _ v u Q I rx ry ⟨_, _, _, w, rfl, rfl, .inl (.inl s1), h1, k w h2⟩ hs
  | tup s1 r1 =>
    cases rb <;> simp only [idxF] at hb <;> try cases hb
    obtain ⟨w, h1, h2⟩ := r1.atI hb
    exact ix_tup value slice pins s σ H _ _ v u Q I rx ry ⟨_, _, _, w, rfl, rfl, .inl (.inl (e _ _ s1)), h1, k w h2⟩ hs
  | str l =>
    cases rb <;> simp only [idxF] at hb <;> try cases hb
    split at hb
    · rename_i hz
      obtain ⟨j, h1, h2⟩ := Option.bind_eq_some_iff.mp hb
      obtain ⟨c, h3, rfl⟩ := Option.map_eq_some_iff.mp h2
      refine ix_str value slice pins s σ H _ _ v u Q I rx ry ⟨toS l, _, c, rfl, rfl, by rw [toS_len]; exact cap_line hz, ?_, k _ (.str [c])⟩ hs
      unfold L2.atI
      rw [ixN_eq]
      have e1 : (toS l).cps.toList = l := by simp [toS]
      rw [e1, h1]; exact h3
    · cases hb
  | @scr ad ns s1 =>
    cases rb <;> simp only [idxF] at hb <;> try cases hb
    obtain ⟨n, h1, rfl⟩ := Option.map_eq_some_iff.mp hb
    obtain ⟨j, h2, h3⟩ := Option.bind_eq_some_iff.mp h1
    refine ix_list value slice pins s σ H _ _ v u Q I rx ry ⟨_, _, _, .int n, rfl, rfl, s1, ?_, k _ (.int n)⟩ hs
    unfold L2.atI
    rw [ixN_eq, List.length_map, h2]
    show (ns.map V.int)[j]? = some (V.int n)
    rw [List.getElem?_map, h3]; rfl
  | dk s1 r1 => exact dct rfl (.dk s1 r1) (by cases rb <;> exact hb)
  | dt s1 r1 => exact dct rfl (.dt s1 r1) (by cases rb <;> exact hb)
  | _ => simp only [idxF] at hb; cases hb
theorem sl_val : SlR X (rSlc X.K X.mg) := by
  intro pins s σ H x v vl vu lo hi sl Q I rx hs pl pu h
  obtain ⟨F, a, r, e, ra, hb, k⟩ := h
  cases ra with
  | lst s1 r1 =>
    simp only [slcF] at hb; cases hb
    exact sl_list pins s σ H _ v vl vu lo hi sl Q I rx hs pl pu ⟨_, _, rfl, .inl (.inl s1), fun p hp => k _ _ (newL hp (r1.cut lo hi))⟩
  | tup s1 r1 =>
    simp only [slcF] at hb; cases hb
    refine sl_tupA pins s σ H _ v vl vu lo hi sl Q I rx hs pl pu ⟨_, _, rfl, .inl (.inl (e _ _ s1)), fun z => ?_, fun _ p hp => k _ _ (newT hp (r1.cut lo hi))⟩
    have e1 : ∀ l : List Val, EV.sIx l.length 0 lo = 0 → EV.sIx l.length l.length hi = l.length → EV.cut l lo hi = l := fun l h1 h2 => by
      unfold EV.cut
      rw [h1, h2]; simp
    rw [sIx_eq, sIx_eq, r1.length] at z
    rw [e1 _ z.1 z.2] at k
    exact k _ _ (newR (.tup s1 r1))
  | str l =>
    simp only [slcF] at hb
    split at hb
    · rename_i hz
      cases hb
      refine sl_str pins s σ H _ v vl vu lo hi sl Q I rx hs pl pu ⟨toS l, rfl, by rw [toS_len]; exact cap_line hz, ?_⟩
      have e1 : cutS (toS l) lo hi = toS (EV.cut l lo hi) := by
        unfold cutS EV.cut
        rw [sIx_eq, sIx_eq, toS_len]
        simp [toS]
      rw [e1]
      exact k _ _ (newS _)
    · cases hb
  | @scr ad ns s1 =>
    simp only [slcF] at hb; cases hb
    refine sl_list pins s σ H _ v vl vu lo hi sl Q I rx hs pl pu ⟨_, _, rfl, s1, fun p hp => ?_⟩
    have e1 : cutV (ns.map V.int) lo hi = (EV.cut ns lo hi).map V.int := by
      unfold cutV EV.cut
      rw [sIx_eq, sIx_eq, List.length_map, List.map_take, List.map_drop]
    rw [e1]
    exact k _ _ (newL hp (reps_ints _))
  | _ => simp only [slcF] at hb; cases hb
end
section
variable {K : PySem.W.Frag} {mg : Str → Option Value} {F H : Hp}
theorem RepK.put {ks : List (Key × V)} {kvs : List (Val × Val)} {k : Key} {x : V} {v : Val} (r : RepK K mg F ks kvs) (rx : Rep K mg F x v) : RepK K mg F (putK ks k x) (put kvs (keyV k) v) := by
  have any : ∀ {ks : List (Key × V)} {kvs : List (Val × Val)}, RepK K mg F ks kvs → (kvs.any fun p => eqv p.1 (keyV k)) = ks.any fun kv => decide (kv.1 = k) := by
    intro ks kvs r
    induction ks generalizing kvs with
    | nil => cases r; rfl
    | cons p ps ih => cases r with | cons a r => simp only [List.any_cons, keyV_eqv, ih r]
  have mp : ∀ {ks : List (Key × V)} {kvs : List (Val × Val)}, RepK K mg F ks kvs → RepK K mg F (ks.map fun kv => if kv.1 = k then (kv.1, x) else kv) (kvs.map fun p => if eqv p.1 (keyV k) then (p.1, v) else p) := by
    intro ks kvs r
    induction ks generalizing kvs with
    | nil => cases r; exact .nil
    | cons p ps ih =>
      cases r with
      | @cons j y _ w _ a r =>
        simp only [List.map_cons, keyV_eqv]
        by_cases e : j = k
        · simp only [e, if_true, decide_true]
          exact .cons rx (ih r)
        · simp only [e, if_false, decide_false, Bool.false_eq_true]
          exact .cons a (ih r)
  have ap : ∀ {ks : List (Key × V)} {kvs : List (Val × Val)}, RepK K mg F ks kvs → RepK K mg F (ks ++ [(k, x)]) (kvs ++ [(keyV k, v)]) := by
    intro ks kvs r
    induction ks generalizing kvs with
    | nil => cases r; exact .cons rx .nil
    | cons p ps ih => cases r with | cons a r => exact .cons a (ih r)
  unfold putK EV.put
  rw [any r]
  by_cases h : (ks.any fun kv => decide (kv.1 = k)) = true
  · rw [if_pos h, if_pos h]; exact mp r
  · rw [if_neg h, if_neg h]; exact ap r
theorem RepT.put {ks : List (List Key × V)} {kvs : List (Val × Val)} {k : List Key} {x : V} {v : Val} (r : RepT K mg F ks kvs) (rx : Rep K mg F x v) : RepT K mg F (putK ks k x) (put kvs (.tup (k.map keyV)) v) := by
  have ek : ∀ j : List Key, eqv (.tup (j.map keyV)) (.tup (k.map keyV)) = decide (j = k) := fun j => by simp only [eqv]; exact keyVs_eqv j k
  have any : ∀ {ks : List (List Key × V)} {kvs : List (Val × Val)}, RepT K mg F ks kvs → (kvs.any fun p => eqv p.1 (.tup (k.map keyV))) = ks.any fun kv => decide (kv.1 = k) := by
    intro ks kvs r
    induction ks generalizing kvs with
    | nil => cases r; rfl
    | cons p ps ih => cases r with | cons a r => simp only [List.any_cons, ek, ih r]
  have mp : ∀ {ks : List (List Key × V)} {kvs : List (Val × Val)}, RepT K mg F ks kvs → RepT K mg F (ks.map fun kv => if kv.1 = k then (kv.1, x) else kv) (kvs.map fun p => if eqv p.1 (.tup (k.map keyV)) then (p.1, v) else p) := by
    intro ks kvs r
    induction ks generalizing kvs with
    | nil => cases r; exact .nil
    | cons p ps ih =>
      cases r with
      | @cons j y _ w _ a r =>
        simp only [List.map_cons, ek]
        by_cases e : j = k
        · simp only [e, if_true, decide_true]
          exact .cons rx (ih r)
        · simp only [e, if_false, decide_false, Bool.false_eq_true]
          exact .cons a (ih r)
  have ap : ∀ {ks : List (List Key × V)} {kvs : List (Val × Val)}, RepT K mg F ks kvs → RepT K mg F (ks ++ [(k, x)]) (kvs ++ [(.tup (k.map keyV), v)]) := by
    intro ks kvs r
    induction ks generalizing kvs with
    | nil => cases r; exact .cons rx .nil
    | cons p ps ih => cases r with | cons a r => exact .cons a (ih r)
  unfold putK EV.put
  rw [any r]
  by_cases h : (ks.any fun kv => decide (kv.1 = k)) = true
  · rw [if_pos h, if_pos h]; exact mp r
  · rw [if_neg h, if_neg h]; exact ap r
theorem RepK.length : ∀ {ks : List (Key × V)} {kvs : List (Val × Val)}, RepK K mg F ks kvs → ks.length = kvs.length
  | _, _, .nil => rfl
  | _, _, .cons _ r => by simp [RepK.length r]
theorem RepT.length : ∀ {ks : List (List Key × V)} {kvs : List (Val × Val)}, RepT K mg F ks kvs → ks.length = kvs.length
  | _, _, .nil => rfl
  | _, _, .cons _ r => by simp [RepT.length r]
end
section
variable {X : Cx} {pins : List (Addr × Obj)} {σ : L2.St} {H F : Hp} {s : Shared} {kr : Nat}
theorem seeT {a : Addr} (I : Inv X pins σ H s) (h : H a = some (.dK [])) : Inv X pins σ (upd H a (.dT [])) s := by
  obtain ⟨z, hd, vs, rel, dd⟩ := dk_of I.hok h
  cases rel
  obtain ⟨o, es, ep, h1, h2, h3, h4, h5, h6⟩ := toH0 (knd' := tupleKind (mixKind X.prog X.w)) dd
  exact I.write (t' := s.toks) (by rw [h]; exact True.intro) (.inl rfl) (fun _ _ _ q => q) ⟨o, h1⟩ ⟨Nat.zero_le _, hd, [], .nil, o, es, ep, h1, h2, h3, h4, List.nodup_nil⟩
theorem seeK {a : Addr} (I : Inv X pins σ H s) (h : H a = some (.dT [])) : Inv X pins σ (upd H a (.dK [])) s := by
  obtain ⟨z, hd, xs, rel, dd⟩ := dt_of I.hok h
  cases rel
  have d2 := toK0 (knd := mixKind X.prog X.w) dd
  obtain ⟨o, es, ep, h1, _⟩ := id d2
  exact I.write (t' := s.toks) (by rw [h]; exact True.intro) (.inl rfl) (fun _ _ _ q => q) ⟨o, h1⟩ ⟨Nat.zero_le _, hd, [], .nil, d2⟩
def rSetV (K : PySem.W.Frag) (mg : Str → Option Value) : TSet := fun o i v H Q => ∃ F a u w x r, o = .ref a ∧ Ex' F H ∧ Own K mg F H a u ∧ RepB K mg F H i w ∧ Rep K mg F v x ∧ setF u w x = some r ∧ ∀ ob, Own K mg F (upd H a ob) a r → Q (upd H a ob)
theorem set_val (hr : Room kr X.A) : PSet X (rSetV X.K X.mg) := by
  intro pins s σ H o i v ov iv u Q I ro ri rv h
  obtain ⟨F, a, c, w, x, r, rfl, e, ow, rw', rx, hb, k⟩ := h
  have hu : X.A.units + 1 < cLine := by have := hr.un; omega
  obtain rfl : ov = Value.ref a := ro
  cases ow with
  | @lst xs vs n h rs =>
    cases rw' <;> simp only [setF] at hb <;> try cases hb
    obtain ⟨j, h1, rfl⟩ := Option.map_eq_some_iff.mp hb
    exact set_list pins s σ H (.ref a) _ v _ iv u Q I rfl ri rv ⟨a, xs, _, j, rfl, rfl, h, by rw [ixN_eq, rs.length]; exact h1, k _ (.lst n upd_same (rs.set j rx))⟩
  | @dk ks kvs n h rs =>
    have hb : (if kvs.length < cap ∧ dkey w = true ∧ fits kvs w = true then some (Val.dct (put kvs w x)) else none) = some r := by cases rw' <;> exact hb
    split at hb
    · rename_i hc
      obtain ⟨hz, hk, hf⟩ := hc
      cases hb
      have hl : ks.length < sizeLine := by rw [rs.length, sizeLine_eq]; unfold cap at hz; omega
      by_cases ht : keyOk w = true
      · obtain ⟨j, rfl, rfl⟩ := rw'.key ht
        exact d_setItem hu I (.k h hl) ri rv fun s' I' => ⟨_, I', k _ (.dk n upd_same (rs.put rx))⟩
      · cases rw' with
        | tup q qs =>
          obtain ⟨js, rfl, rfl⟩ := qs.keys (by simpa [dkey] using hk)
          obtain ⟨rfl, rfl⟩ := rs.fits0 hf
          have I2 := seeT I h
          have hne : ∀ b ys, H b = some (.tup ys) → b ≠ a := fun b ys q z => by rw [z, h] at q; cases q
          refine d_setItem hu I2 (.t upd_same (by rw [upd_ne (hne _ _ (e _ _ q))]; exact e _ _ q) hl) ri rv fun s' I' => ⟨_, I', ?_⟩
          rw [upd_upd]
          exact k _ (.dt n upd_same (RepT.put .nil rx))
        | int i => exact absurd rfl ht
        | str l => exact absurd rfl ht
        | _ => cases hk
    · cases hb
  | @dt ks kvs n h rs =>
    have hb : (if kvs.length < cap ∧ dkey w = true ∧ fits kvs w = true then some (Val.dct (put kvs w x)) else none) = some r := by cases rw' <;> exact hb
    split at hb
    · rename_i hc
      obtain ⟨hz, hk, hf⟩ := hc
      cases hb
      have hl : ks.length < sizeLine := by rw [rs.length, sizeLine_eq]; unfold cap at hz; omega
      by_cases ht : keyOk w = true
      · obtain ⟨j, rfl, rfl⟩ := rw'.key ht
        obtain ⟨rfl, rfl⟩ := rs.fits0 hf
        have I2 := seeK I h
        refine d_setItem hu I2 (.k upd_same hl) ri rv fun s' I' => ⟨_, I', ?_⟩
        rw [upd_upd]
        exact k _ (.dk n upd_same (RepK.put .nil rx))
      · cases rw' with
        | tup q qs =>
          obtain ⟨js, rfl, rfl⟩ := qs.keys (by simpa [dkey] using hk)
          exact d_setItem hu I (.t h (e _ _ q) hl) ri rv fun s' I' => ⟨_, I', k _ (.dt n upd_same (rs.put rx))⟩
        | int i => exact absurd rfl ht
        | str l => exact absurd rfl ht
        | _ => cases hk
    · cases hb
  | obj n h rs => simp only [setF] at hb; cases hb
end
end EV
namespace EV
open PySem PySem.Spec PyProof.Rows L2 SkE
abbrev RBs (K : PySem.W.Frag) (mg : Str → Option Value) (F H : Hp) : List V → List Val → Prop := Paired (RepB K mg F H)
def rBlt (K : PySem.W.Frag) (mg : Str → Option Value) (b : Bl) : List V → Hp → VK → Prop := fun xs H Q => ∃ F us r, Ex' F H ∧ RBs K mg F H xs us ∧ bltF b us = some r ∧ ∀ z H', NewR K mg F H z H' r → Q z H'
section
variable {K : PySem.W.Frag} {mg : Str → Option Value} {F H : Hp}
theorem reps_bools : ∀ {xs : List V} {vs : List Val} {bs : List Bool}, Reps K mg F xs vs → allB vs = some bs → xs = bs.map V.bl
  | _, _, _, .nil, h => by simp only [allB] at h; cases h; rfl
  | _, _, _, .cons (v := v) a r, h => by
    cases a with
    | bl b =>
      simp only [allB, Option.map_eq_some_iff] at h
      obtain ⟨bs, h, rfl⟩ := h
      rw [reps_bools r h]; rfl
    | _ => simp only [allB] at h; cases h
theorem reps_ints' : ∀ {xs : List V} {vs : List Val} {ns : List Int}, Reps K mg F xs vs → allI vs = some ns → xs = ns.map V.int
  | _, _, _, .nil, h => by simp only [allI] at h; cases h; rfl
  | _, _, _, .cons (v := v) a r, h => by
    cases a with
    | int b =>
      simp only [allI, Option.map_eq_some_iff] at h
      obtain ⟨bs, h, rfl⟩ := h
      rw [reps_ints' r h]; rfl
    | _ => simp only [allI] at h; cases h
theorem maxI_mem : ∀ (is : List Int) (m : Int), (maxI m is = m ∨ maxI m is ∈ is) ∧ m ≤ maxI m is ∧ ∀ y ∈ is, y ≤ maxI m is
  | [], m => ⟨.inl rfl, Int.le_refl _, fun y hy => nomatch hy⟩
  | i :: r, m => by
    obtain ⟨h1, h2, h3⟩ := maxI_mem r (max m i)
    simp only [maxI]
    refine ⟨?_, by omega, fun y hy => ?_⟩
    · rcases h1 with h1 | h1
      · rw [h1]
        by_cases h : m ≤ i
        · exact .inr (by rw [Int.max_eq_right h]; simp)
        · exact .inl (by rw [Int.max_eq_left (by omega)])
      · exact .inr (List.mem_cons_of_mem _ h1)
    · rcases List.mem_cons.mp hy with rfl | hy
      · omega
      · exact h3 y hy
theorem reps_sign : ∀ l : List Nat, Reps K mg F (l.map fun c => V.str ⟨#[c]⟩) (l.map fun c => Val.str [c])
  | [] => .nil
  | c :: r => .cons (.str [c]) (reps_sign r)
theorem repK_keys : ∀ {ks : List (Key × V)} {kvs : List (Val × Val)}, RepK K mg F ks kvs → Reps K mg F (ks.map fun kv => kV kv.1) (kvs.map (·.1))
  | _, _, .nil => .nil
  | _, _, .cons (k := k) a r => by
    refine .cons ?_ (repK_keys r)
    cases k with
    | inl i => exact .int i
    | inr x => exact (show Rep K mg F (.str x) (.str x.cps.toList) from (by simpa [toS] using Rep.str (K := K) (mg := mg) (F := F) x.cps.toList))
end
theorem t_len {X : Cx} {pins : List (Addr × Obj)} {σ : L2.St} {H : Hp} {s : Shared} {a : Addr} {kvs : List (List Key × V)} {A : Around} {E : Value → Shared → Prop} {Q : Value → Shared → Prop} (I : Inv X pins σ H s) (e : Rd H a (.dT kvs)) (h : ∀ t s', Inv X pins σ H s' → Q (.int kvs.length t) s') : wpAny (model X.prog X.w) A (call (.builtin "len") [.ref a]) Q E s := by
  obtain ⟨z, hd, xs, rel, dd⟩ := dt_rd I.hok e
  refine call_len_dictH hd dd (by rw [← Paired.length rel]; rw [sizeLine_eq] at z; omega) ?_
  rw [← Paired.length rel]
  exact h _ _ (I.tok _)
section
variable {X : Cx}
theorem cr_len : CallR X (.builtin "len") (rBlt X.K X.mg .len) := by
  intro pins s σ H xs us Q I r h
  obtain ⟨F, ws, q, e, rs, hb, k⟩ := h
  cases rs with
  | nil => simp only [bltF] at hb; cases hb
  | cons a t =>
    cases t with
    | cons _ _ => simp only [bltF] at hb; cases hb
    | nil =>
      simp only [bltF, Option.map_eq_some_iff] at hb
      obtain ⟨n, hn, rfl⟩ := hb
      cases a with
      | lst s1 r1 => simp only [len] at hn; cases hn; exact call_len_seq pins s σ H _ us Q I r ⟨_, _, rfl, .inl (.inl (.inl s1)), by rw [r1.length]; exact k _ _ (newI _)⟩
      | tup s1 r1 => simp only [len] at hn; cases hn; exact call_len_seq pins s σ H _ us Q I r ⟨_, _, rfl, .inr (.inl (.inl (e _ _ s1))), by rw [r1.length]; exact k _ _ (newI _)⟩
      | scr s1 => simp only [len] at hn; cases hn; exact call_len_seq pins s σ H _ us Q I r ⟨_, _, rfl, .inl s1, by rw [List.length_map]; exact k _ _ (newI _)⟩
      | str l =>
        simp only [len] at hn
        split at hn
        · rename_i hz
          cases hn
          exact call_len_str pins s σ H _ us Q I r ⟨_, rfl, by rw [toS_len]; exact cap_line hz, by rw [toS_len]; exact k _ _ (newI _)⟩
        · cases hn
      | dk s1 r1 =>
        simp only [len] at hn; cases hn
        obtain ⟨u, rfl, ru⟩ := vals1 r
        cases ru
        exact d_len I s1 fun t s' I' => ⟨.int _, H, I', ⟨t, rfl⟩, by rw [r1.length]; exact k _ _ (newI _)⟩
      | dt s1 r1 =>
        simp only [len] at hn; cases hn
        obtain ⟨u, rfl, ru⟩ := vals1 r
        cases ru
        exact t_len I s1 fun t s' I' => ⟨.int _, H, I', ⟨t, rfl⟩, by rw [r1.length]; exact k _ _ (newI _)⟩
      | _ => simp only [len] at hn; cases hn
theorem cr_allF (hc : X.calm = true) : CallR X (.builtin "all") (rBlt X.K X.mg .all) := by
  intro pins s σ H xs us Q I r h
  obtain ⟨F, ws, q, e, rs, hb, k⟩ := h
  cases rs with
  | nil => simp only [bltF] at hb; cases hb
  | cons a t =>
    cases t with
    | cons _ _ => cases a <;> (simp only [bltF] at hb; cases hb)
    | nil =>
      cases a with
      | lst s1 r1 =>
        simp only [bltF, Option.map_eq_some_iff] at hb
        obtain ⟨bs, hn, rfl⟩ := hb
        exact cr_all hc pins s σ H _ us Q I r ⟨_, bs, rfl, by rw [← reps_bools r1 hn]; exact .inl (.inl s1), k _ _ (newB _)⟩
      | _ => simp only [bltF] at hb; cases hb
theorem cr_maxF (hc : X.calm = true) : CallR X (.builtin "max") (rBlt X.K X.mg .max) := by
  intro pins s σ H xs us Q I r h
  obtain ⟨F, ws, q, e, rs, hb, k⟩ := h
  cases rs with
  | nil => simp only [bltF] at hb; cases hb
  | cons a t =>
    cases t with
    | nil =>
      cases a with
      | @lst _ _ vs s1 r1 =>
        simp only [bltF] at hb
        split at hb
        · rename_i i is hn
          cases hb
          refine cr_max hc pins s σ H _ us Q I r ⟨_, i :: is, rfl, by rw [← reps_ints' r1 hn]; exact .inl (.inl s1), by simp, fun m h1 h2 => ?_⟩
          have e1 : m = maxI i is := by
            obtain ⟨g1, g2, g3⟩ := maxI_mem is i
            have h3 : m ≤ maxI i is := by
              rcases List.mem_cons.mp h1 with rfl | h1
              · exact g2
              · exact g3 m h1
            have h4 : maxI i is ≤ m := by
              rcases g1 with g1 | g1
              · rw [g1]; exact h2 i (by simp)
              · exact h2 _ (List.mem_cons_of_mem _ g1)
            omega
          rw [e1]
          exact k _ _ (newI _)
        · cases hb
      | _ => simp only [bltF] at hb; cases hb
    | cons b t =>
      cases t with
      | cons _ _ => cases a <;> cases b <;> (simp only [bltF] at hb; cases hb)
      | nil =>
        cases a <;> cases b <;> simp only [bltF] at hb <;> cases hb
        exact call_max2 hc pins s σ H _ us Q I r ⟨_, _, rfl, k _ _ (newI _)⟩
theorem cr_minF (hc : X.calm = true) : CallR X (.builtin "min") (rBlt X.K X.mg .min) := by
  intro pins s σ H xs us Q I r h
  obtain ⟨F, ws, q, e, rs, hb, k⟩ := h
  cases rs with
  | nil => simp only [bltF] at hb; cases hb
  | cons a t =>
    cases t with
    | nil => cases a <;> (simp only [bltF] at hb; cases hb)
    | cons b t =>
      cases t with
      | cons _ _ => cases a <;> cases b <;> (simp only [bltF] at hb; cases hb)
      | nil =>
        cases a <;> cases b <;> simp only [bltF] at hb <;> cases hb
        exact call_min2 hc pins s σ H _ us Q I r ⟨_, _, rfl, k _ _ (newI _)⟩
theorem cr_absF : CallR X (.builtin "abs") (rBlt X.K X.mg .abs) := by
  intro pins s σ H xs us Q I r h
  obtain ⟨F, ws, q, e, rs, hb, k⟩ := h
  cases rs with
  | nil => simp only [bltF] at hb; cases hb
  | cons a t =>
    cases t with
    | cons _ _ => cases a <;> (simp only [bltF] at hb; cases hb)
    | nil =>
      cases a <;> simp only [bltF] at hb <;> cases hb
      exact call_abs pins s σ H _ us Q I r ⟨_, rfl, k _ _ (newI _)⟩
theorem cr_divmodF : CallR X (.builtin "divmod") (rBlt X.K X.mg .divmod) := by
  intro pins s σ H xs us Q I r h
  obtain ⟨F, ws, q, e, rs, hb, k⟩ := h
  cases rs with
  | nil => simp only [bltF] at hb; cases hb
  | cons a t =>
    cases t with
    | nil => cases a <;> (simp only [bltF] at hb; cases hb)
    | cons b t =>
      cases t with
      | cons _ _ => cases a <;> cases b <;> (simp only [bltF] at hb; cases hb)
      | nil =>
        cases a <;> cases b <;> simp only [bltF] at hb <;> try cases hb
        split at hb
        · rename_i hz
          cases hb
          exact call_divmod pins s σ H _ us Q I r ⟨_, _, rfl, ⟨hz.1, by have := hz.2; omega⟩, fun p hp => k _ _ (newT hp (.cons (.int _) (.cons (.int _) .nil)))⟩
        · cases hb
theorem int_digit {c : Nat} (h : 48 ≤ c ∧ c ≤ 57) : PySem.intText? (toS [c]) = some ((c : Nat) - 48 : Int) := by
  have : c = 48 ∨ c = 49 ∨ c = 50 ∨ c = 51 ∨ c = 52 ∨ c = 53 ∨ c = 54 ∨ c = 55 ∨ c = 56 ∨ c = 57 := by omega
  rcases this with rfl | rfl | rfl | rfl | rfl | rfl | rfl | rfl | rfl | rfl <;> decide +kernel
theorem cr_intF : CallR X (.type "int") (rBlt X.K X.mg .int) := by
  intro pins s σ H xs us Q I r h
  obtain ⟨F, ws, q, e, rs, hb, k⟩ := h
  cases rs with
  | nil => simp only [bltF] at hb; cases hb
  | cons a t =>
    cases t with
    | cons _ _ => cases a <;> (simp only [bltF] at hb; cases hb)
    | nil =>
      cases a with
      | int i => simp only [bltF] at hb; cases hb; exact call_int1 pins s σ H _ us Q I r (.inl ⟨_, rfl, k _ _ (newI _)⟩)
      | bl b => simp only [bltF] at hb; cases hb; exact call_int1 pins s σ H _ us Q I r (.inr ⟨_, rfl, k _ _ (newI _)⟩)
      | str l =>
        match l, hb with
        | [c], hb =>
          have hb : (if 48 ≤ c ∧ c ≤ 57 then some (Slot.fz (.int ((c : Nat) - 48 : Int))) else none) = some q := hb
          split at hb
          · rename_i hc
            cases hb
            exact call_int_str pins s σ H _ us Q I r ⟨_, _, rfl, int_digit hc, by simp [toS, Str.length], k _ _ (newI _)⟩
          · cases hb
      | _ => simp only [bltF] at hb; cases hb
theorem intS_to (i : Int) : toS (intS i) = Str.ofString (toString i) := by
  unfold toS intS
  simp
theorem cr_strF : CallR X (.type "str") (rBlt X.K X.mg .str) := by
  intro pins s σ H xs us Q I r h
  obtain ⟨F, ws, q, e, rs, hb, k⟩ := h
  cases rs with
  | nil => simp only [bltF] at hb; cases hb
  | cons a t =>
    cases t with
    | cons _ _ => cases a <;> (simp only [bltF] at hb; cases hb)
    | nil =>
      cases a with
      | int i =>
        have hb : (if i.natAbs < 1000 then some (Slot.fz (.str (intS i))) else none) = some q := hb
        split at hb
        · rename_i hc
          cases hb
          refine call_str_int pins s σ H _ us Q I r ⟨_, rfl, ?_, ?_⟩
          · have := Nat.log2_le_self i.natAbs; omega
          · have := k (.str (toS (intS i))) H (newS _)
            rw [intS_to] at this
            exact this
        · cases hb
      | str l => simp only [bltF] at hb; cases hb; exact call_str_str pins s σ H _ us Q I r ⟨_, rfl, k _ _ (newS _)⟩
      | _ => simp only [bltF] at hb; cases hb
theorem cr_tupleF : CallR X (.type "tuple") (rBlt X.K X.mg .tuple) := by
  intro pins s σ H xs us Q I r h
  obtain ⟨F, ws, q, e, rs, hb, k⟩ := h
  cases rs with
  | nil => simp only [bltF] at hb; cases hb
  | cons a t =>
    cases t with
    | cons _ _ => cases a <;> (simp only [bltF] at hb; cases hb)
    | nil =>
      cases a with
      | lst s1 r1 => simp only [bltF] at hb; cases hb; exact call_tuple_of pins s σ H _ us Q I r ⟨_, _, rfl, .inl ⟨.inl (.inl s1), fun p hp => k _ _ (newT hp r1)⟩⟩
      | tup s1 r1 => simp only [bltF] at hb; cases hb; exact call_tuple_of pins s σ H _ us Q I r ⟨_, _, rfl, .inr ⟨.inl (.inl (e _ _ s1)), k _ _ (newR (.tup s1 r1))⟩⟩
      | _ => simp only [bltF] at hb; cases hb
end
end EV
namespace EV
open PySem PySem.Spec PyProof.Rows L2
section
variable {X : Cx} {W : WX} {T : Tab} {cal mkc : Cal} {a b c e : Expr} {ea eb ec : Ex} {pos : Pos} {kr : Nat}
theorem sE_const {v : V} {w : Val} (h : PE X e (tC v)) (r : ∀ F, Rep X.K X.mg F v w) (he : ∀ ρ, evE T cal mkc ea ρ = EV.pur (.fz w) ρ) : PE X e (tE X.K X.mg W T cal mkc ea) := by
  refine h.imp fun σ H Q q => ?_
  obtain ⟨G, Z, F, ρ, A, q⟩ := q
  rw [he] at q
  exact Aft.pur q A v (r F)
theorem sE_bin {o : Bin} (ha : PE X a (tO X.K X.mg W T cal mkc ea)) (hb : PE X b (tO X.K X.mg W T cal mkc eb)) : PE X (.BinOp a (bOp o) b pos) (tE X.K X.mg W T cal mkc (.bin o ea eb)) := by
  refine (pe_op (op_bin o) ha hb).imp fun σ H Q q => ?_
  obtain ⟨G, Z, F, ρ, A, q⟩ := q
  refine ⟨G, Z, F, ρ, A, q.bnd.imp fun F1 H1 ρ1 x A1 e1 q1 vx rx => ⟨G, Z, F1, ρ1, A1, q1.bnd.imp fun F2 H2 ρ2 y A2 e2 q2 vy ry => ?_⟩⟩
  obtain ⟨r, hr, q3⟩ := q2.lift
  obtain ⟨u, hu, hr⟩ := Option.bind_eq_some_iff.mp hr
  obtain ⟨w, hw, hr⟩ := Option.bind_eq_some_iff.mp hr
  exact ⟨F2, u, w, r, A2.sub, (OpdR.mono rx e2).read A2 hu, OpdR.read A2 ry hw, hr, fun z H' n => A2.new n fun F' H'' A' e' z rz => q3 F' H'' A' e' z rz⟩
theorem cmp_red {o : Cmp} {σ : L2.St} {H : Hp} {Q : VK} (h : tE X.K X.mg W T cal mkc (.cmp o ea eb) σ H Q) : tOp (rCmp X.K X.mg o) (tO X.K X.mg W T cal mkc ea) (tO X.K X.mg W T cal mkc eb) σ H Q := by
  obtain ⟨G, Z, F, ρ, A, q⟩ := h
  refine ⟨G, Z, F, ρ, A, q.bnd.imp fun F1 H1 ρ1 x A1 e1 q1 vx rx => ⟨G, Z, F1, ρ1, A1, q1.bnd.imp fun F2 H2 ρ2 y A2 e2 q2 vy ry => ?_⟩⟩
  obtain ⟨r, hr, q3⟩ := q2.lift
  obtain ⟨c, hr1, rfl⟩ := Option.map_eq_some_iff.mp hr
  obtain ⟨u, hu, hr2⟩ := Option.bind_eq_some_iff.mp hr1
  obtain ⟨w, hw, hr3⟩ := Option.bind_eq_some_iff.mp hr2
  exact ⟨F2, u, w, c, A2.sub, (OpdR.mono rx e2).read A2 hu, OpdR.read A2 ry hw, hr3, Aft.pur q3 A2 _ (Rep.bl c)⟩
theorem tB_E {σ : L2.St} {H : Hp} {Q : Bool → Hp → Prop} (h : EV.tB X.K X.mg W T cal mkc ea σ H Q) : tE X.K X.mg W T cal mkc ea σ H fun x H' => ∃ k, x = .bl k ∧ Q k H' := by
  obtain ⟨G, Z, F, ρ, A, q⟩ := h
  refine ⟨G, Z, F, ρ, A, q.bnd.imp fun F' H' ρ' r A' e' q' x rx => ?_⟩
  cases r with
  | un => exact rx.elim
  | ow v => exact q'.elim
  | fz v =>
    cases rx with
    | bl b => exact ⟨b, rfl, Aft.pur q' A'⟩
    | _ => exact q'.elim
theorem sE_cmp {o : Cmp} (hr : Room kr X.A) (ha : PE X a (tO X.K X.mg W T cal mkc ea)) (hb : PE X b (tO X.K X.mg W T cal mkc eb)) (hm : behindInMarks (cOp o) b = false) : PE X (.Compare a [cOp o] [b] pos) (tE X.K X.mg W T cal mkc (.cmp o ea eb)) :=
  (pe_cmpR (op_cmp hr o) ha hb hm).imp fun _ _ _ q => cmp_red q
theorem sT_cmp {o : Cmp} (hr : Room kr X.A) (ha : PE X a (tO X.K X.mg W T cal mkc ea)) (hb : PE X b (tO X.K X.mg W T cal mkc eb)) (hm : behindInMarks (cOp o) b = false) : PT X (.Compare a [cOp o] [b] pos) (EV.tB X.K X.mg W T cal mkc (.cmp o ea eb)) :=
  (pt_cmpR (op_cmp hr o) ha hb hm).imp fun _ _ _ q => cmp_red (tB_E q)
theorem chain_red {o p : Cmp} {σ : L2.St} {H : Hp} {Q : VK} (h : tE X.K X.mg W T cal mkc (.chain o p ea eb ec) σ H Q) : tChain (rCmp X.K X.mg o) (rCmp X.K X.mg p) (tO X.K X.mg W T cal mkc ea) (tO X.K X.mg W T cal mkc eb) (tO X.K X.mg W T cal mkc ec) σ H Q := by
  obtain ⟨G, Z, F, ρ, A, q⟩ := h
  refine ⟨G, Z, F, ρ, A, q.bnd.imp fun F1 H1 ρ1 x A1 e1 q1 vx rx => ⟨G, Z, F1, ρ1, A1, q1.bnd.imp fun F2 H2 ρ2 y A2 e2 q2 vy ry => ?_⟩⟩
  cases hm : ((x.val ρ2).bind fun u => (y.val ρ2).bind (cmpF o u)) with
  | none => rw [hm] at q2; exact q2.elim
  | some k =>
    rw [hm] at q2
    obtain ⟨u, hu, hr⟩ := Option.bind_eq_some_iff.mp hm
    obtain ⟨w, hw, hr⟩ := Option.bind_eq_some_iff.mp hr
    refine ⟨F2, u, w, k, A2.sub, (OpdR.mono rx e2).read A2 hu, OpdR.read A2 ry hw, hr, k, rfl, ?_⟩
    cases k with
    | false =>
      rw [if_neg Bool.false_ne_true]
      exact Aft.pur q2 A2 _ (Rep.bl false)
    | true =>
      rw [if_pos rfl]
      refine ⟨G, Z, F2, ρ2, A2, (Aft.bnd q2).imp fun F3 H3 ρ3 z A3 e3 q3 vz rz => ?_⟩
      obtain ⟨r, hr, q4⟩ := q3.lift
      obtain ⟨c, hr1, rfl⟩ := Option.map_eq_some_iff.mp hr
      obtain ⟨u, hu, hr2⟩ := Option.bind_eq_some_iff.mp hr1
      obtain ⟨w, hw, hr3⟩ := Option.bind_eq_some_iff.mp hr2
      exact ⟨F3, u, w, c, A3.sub, (OpdR.mono ry e3).read A3 hu, OpdR.read A3 rz hw, hr3, Aft.pur q4 A3 _ (Rep.bl c)⟩
theorem sE_chain {o p : Cmp} (hr : Room kr X.A) (ha : PE X a (tO X.K X.mg W T cal mkc ea)) (hb : PE X b (tO X.K X.mg W T cal mkc eb)) (hc : PE X c (tO X.K X.mg W T cal mkc ec)) (hm : lastMarks [cOp o, cOp p] [b, c] = false) : PE X (.Compare a [cOp o, cOp p] [b, c] pos) (tE X.K X.mg W T cal mkc (.chain o p ea eb ec)) :=
  (pe_chain (op_cmp hr o) (op_cmp hr p) ha hb hc hm).imp fun _ _ _ q => chain_red q
theorem sT_val (h : PE X e (tE X.K X.mg W T cal mkc ea)) (he : ∀ whole, isTrue e X.env whole = (do let v ← whole; standAt e.pos; holding [v] (truthy v))) : PT X e (EV.tB X.K X.mg W T cal mkc ea) :=
  (pt_val h he).imp fun _ _ _ q => tB_E q
theorem sE_not (ha : PE X a (tE X.K X.mg W T cal mkc ea)) : PE X (.UnaryOp .Not a pos) (tE X.K X.mg W T cal mkc (.nt ea)) := by
  refine (pe_not ha).imp fun σ H Q q => ?_
  obtain ⟨G, Z, F, ρ, A, q⟩ := q
  have q2 : EV.tB X.K X.mg W T cal mkc ea σ H fun b H' => Q (.bl (!b)) H' := ⟨G, Z, F, ρ, A, by
    have e1 : evE T cal mkc (.nt ea) ρ = EV.bnd (EV.bnd (evE T cal mkc ea ρ) asBool) fun b ρ2 => EV.pur (.fz (.bl (!b))) ρ2 := by
      show EV.bnd (evE T cal mkc ea ρ) _ = _
      cases evE T cal mkc ea ρ with
      | none => rfl
      | some o => cases o <;> rfl
    rw [e1] at q
    exact q.bnd.imp fun F' H' ρ' b A' e' q' => Aft.pur q' A' _ (Rep.bl _)⟩
  exact tB_E q2
theorem sT_not (ha : PT X a (EV.tB X.K X.mg W T cal mkc ea)) : PT X (.UnaryOp .Not a pos) (EV.tB X.K X.mg W T cal mkc (.nt ea)) := by
  refine (pt_not ha).imp fun σ H Q q => ?_
  obtain ⟨G, Z, F, ρ, A, q⟩ := q
  refine ⟨G, Z, F, ρ, A, ?_⟩
  have e1 : EV.bnd (evE T cal mkc (.nt ea) ρ) asBool = EV.bnd (EV.bnd (evE T cal mkc ea ρ) asBool) fun b ρ2 => EV.pur (!b) ρ2 := by
    show EV.bnd (EV.bnd (evE T cal mkc ea ρ) _) _ = _
    cases evE T cal mkc ea ρ with
    | none => rfl
    | some o =>
      cases o with
      | ex _ _ => rfl
      | ok r ρ' =>
        show EV.bnd (EV.bnd (asBool r ρ') _) _ = EV.bnd (asBool r ρ') _
        cases asBool r ρ' with
        | none => rfl
        | some o => cases o <;> rfl
  rw [e1] at q
  exact q.bnd.imp fun F' H' ρ' b A' e' q' => Aft.pur q' A'
theorem ev_and (ρ : Ro) : evE T cal mkc (.and ea eb) ρ = EV.bnd (EV.bnd (evE T cal mkc ea ρ) asBool) fun c ρ2 => if c then evE T cal mkc eb ρ2 else EV.pur (.fz (.bl false)) ρ2 := by
  show EV.bnd (evE T cal mkc ea ρ) _ = _
  cases evE T cal mkc ea ρ with
  | none => rfl
  | some o => cases o <;> rfl
theorem ev_or (ρ : Ro) : evE T cal mkc (.or ea eb) ρ = EV.bnd (EV.bnd (evE T cal mkc ea ρ) asBool) fun c ρ2 => if c then EV.pur (.fz (.bl true)) ρ2 else evE T cal mkc eb ρ2 := by
  show EV.bnd (evE T cal mkc ea ρ) _ = _
  cases evE T cal mkc ea ρ with
  | none => rfl
  | some o => cases o <;> rfl
theorem ev_ite (ρ : Ro) : evE T cal mkc (.ite ec ea eb) ρ = EV.bnd (EV.bnd (evE T cal mkc ec ρ) asBool) fun c ρ2 => if c then evE T cal mkc ea ρ2 else evE T cal mkc eb ρ2 := by
  show EV.bnd (evE T cal mkc ec ρ) _ = _
  cases evE T cal mkc ec ρ with
  | none => rfl
  | some o => cases o <;> rfl
theorem bnd_assoc {α β γ : Type} (m : Res α) (k : α → Ro → Res β) (l : β → Ro → Res γ) : EV.bnd (EV.bnd m k) l = EV.bnd m fun a ρ => EV.bnd (k a ρ) l := by
  cases m with
  | none => rfl
  | some o => cases o <;> rfl
theorem sE_and {rest : List Expr} (ha : PE X a (tE X.K X.mg W T cal mkc ea)) (hb : PE X (.BoolOp .And (b :: rest) pos) (tE X.K X.mg W T cal mkc eb)) : PE X (.BoolOp .And (a :: b :: rest) pos) (tE X.K X.mg W T cal mkc (.and ea eb)) := by
  refine (pe_and ha hb).imp fun σ H Q q => ?_
  obtain ⟨G, Z, F, ρ, A, q⟩ := q
  rw [ev_and] at q
  refine tB_E (Q := fun c H1 => if c = true then tE X.K X.mg W T cal mkc eb σ H1 Q else Q (.bl false) H1) ⟨G, Z, F, ρ, A, q.bnd.imp fun F1 H1 ρ1 c A1 e1 q1 => ?_⟩
  cases c with
  | true => rw [if_pos rfl]; exact ⟨G, Z, F1, ρ1, A1, q1⟩
  | false => rw [if_neg Bool.false_ne_true]; exact Aft.pur q1 A1 _ (Rep.bl false)
theorem _root_.L2.PW.imp {t t' : TT} (h : PW X e t) (k : ∀ σ H Q, t' σ H Q → t σ H Q) : PW X e t' := ⟨fun wh pins s σ H Q I q => h.run wh pins s σ H Q I (k σ H Q q)⟩
theorem sW_and {rest : List Expr} (ha : PT X a (EV.tB X.K X.mg W T cal mkc ea)) (hb : PW X (.BoolOp .And (b :: rest) pos) (EV.tB X.K X.mg W T cal mkc eb)) : PW X (.BoolOp .And (a :: b :: rest) pos) (EV.tB X.K X.mg W T cal mkc (.and ea eb)) := by
  refine (pw_and ha hb).imp fun σ H Q q => ?_
  obtain ⟨G, Z, F, ρ, A, q⟩ := q
  rw [ev_and, bnd_assoc] at q
  refine ⟨G, Z, F, ρ, A, q.bnd.imp fun F1 H1 ρ1 c A1 e1 q1 => ?_⟩
  cases c with
  | true => rw [if_pos rfl]; exact ⟨G, Z, F1, ρ1, A1, q1⟩
  | false => rw [if_neg Bool.false_ne_true]; exact Aft.pur q1 A1
theorem sW_or {rest : List Expr} (ha : PT X a (EV.tB X.K X.mg W T cal mkc ea)) (hb : PW X (.BoolOp .Or (b :: rest) pos) (EV.tB X.K X.mg W T cal mkc eb)) : PW X (.BoolOp .Or (a :: b :: rest) pos) (EV.tB X.K X.mg W T cal mkc (.or ea eb)) := by
  refine (pw_or ha hb).imp fun σ H Q q => ?_
  obtain ⟨G, Z, F, ρ, A, q⟩ := q
  rw [ev_or, bnd_assoc] at q
  refine ⟨G, Z, F, ρ, A, q.bnd.imp fun F1 H1 ρ1 c A1 e1 q1 => ?_⟩
  cases c with
  | true => rw [if_pos rfl]; exact Aft.pur q1 A1
  | false => rw [if_neg Bool.false_ne_true]; exact ⟨G, Z, F1, ρ1, A1, q1⟩
theorem sE_ite (hc : PT X c (EV.tB X.K X.mg W T cal mkc ec)) (ha : PE X a (tE X.K X.mg W T cal mkc ea)) (hb : PE X b (tE X.K X.mg W T cal mkc eb)) : PE X (.IfExp c a b pos) (tE X.K X.mg W T cal mkc (.ite ec ea eb)) := by
  refine (pe_ifExp hc ha hb).imp fun σ H Q q => ?_
  obtain ⟨G, Z, F, ρ, A, q⟩ := q
  rw [ev_ite] at q
  refine ⟨G, Z, F, ρ, A, q.bnd.imp fun F1 H1 ρ1 c A1 e1 q1 => ?_⟩
  cases c with
  | true => rw [if_pos rfl]; exact ⟨G, Z, F1, ρ1, A1, q1⟩
  | false => rw [if_neg Bool.false_ne_true]; exact ⟨G, Z, F1, ρ1, A1, q1⟩
theorem sE_idx (hr : Room kr X.A) (ha : PE X a (tO X.K X.mg W T cal mkc ea)) (hb : PE X b (tO X.K X.mg W T cal mkc eb)) (hs : PlainIx b) : PE X (.Subscript a b pos) (tE X.K X.mg W T cal mkc (.idx ea eb)) := by
  refine (pe_ix (ix_val hr) ha hb hs).imp fun σ H Q q => ?_
  obtain ⟨G, Z, F, ρ, A, q⟩ := q
  refine ⟨G, Z, F, ρ, A, q.bnd.imp fun F1 H1 ρ1 x A1 e1 q1 vx rx => ⟨G, Z, F1, ρ1, A1, q1.bnd.imp fun F2 H2 ρ2 y A2 e2 q2 vy ry => ?_⟩⟩
  obtain ⟨r, hr, q3⟩ := q2.lift
  obtain ⟨z, hr1, rfl⟩ := Option.map_eq_some_iff.mp hr
  obtain ⟨u, hu, hr2⟩ := Option.bind_eq_some_iff.mp hr1
  obtain ⟨w, hw, hr3⟩ := Option.bind_eq_some_iff.mp hr2
  exact ⟨F2, u, w, z, A2.sub, (OpdR.mono rx e2).read A2 hu, OpdR.read A2 ry hw, hr3, fun v rv => Aft.pur q3 A2 v rv⟩
def tPo (o : Option Ex) : TO := fun σ H Q => ∃ G Z F ρ, Abs X.K X.mg G Z F σ H ρ ∧ Aft X.K X.mg W G Z F σ (evOp T cal mkc o ρ) fun F' H' ρ' i => Q i H'
theorem sO_none : PO X none (tPo (X := X) (W := W) (T := T) (cal := cal) (mkc := mkc) none) := by
  refine ⟨fun pins s σ H Q I q => po_none.run pins s σ H Q I ?_⟩
  obtain ⟨G, Z, F, ρ, A, q⟩ := q
  exact Aft.pur q A
theorem sO_some (h : PE X e (tE X.K X.mg W T cal mkc ea)) : PO X (some e) (tPo (X := X) (W := W) (T := T) (cal := cal) (mkc := mkc) (some ea)) := by
  refine ⟨fun pins s σ H Q I q => (po_some h).run pins s σ H Q I ?_⟩
  obtain ⟨G, Z, F, ρ, A, q⟩ := q
  refine ⟨G, Z, F, ρ, A, q.bnd.imp fun F' H' ρ' r A' e' q' x rx => ?_⟩
  cases r with
  | un => exact rx.elim
  | ow v => exact q'.elim
  | fz v =>
    cases rx with
    | int i => exact ⟨i, rfl, Aft.pur q' A'⟩
    | _ => exact q'.elim
theorem sE_slc {lo hi : Option Expr} {el eh : Option Ex} {p2 : Pos} (ha : PE X a (tO X.K X.mg W T cal mkc ea)) (hl : PO X lo (tPo (X := X) (W := W) (T := T) (cal := cal) (mkc := mkc) el)) (hh : PO X hi (tPo (X := X) (W := W) (T := T) (cal := cal) (mkc := mkc) eh)) : PE X (.Subscript a (.Slice lo hi none p2) pos) (tE X.K X.mg W T cal mkc (.slc ea el eh)) := by
  refine (pe_slice sl_val ha hl hh).imp fun σ H Q q => ?_
  obtain ⟨G, Z, F, ρ, A, q⟩ := q
  refine ⟨G, Z, F, ρ, A, q.bnd.imp fun F1 H1 ρ1 x A1 e1 q1 vx rx => ⟨G, Z, F1, ρ1, A1, q1.bnd.imp fun F2 H2 ρ2 l A2 e2 q2 => ⟨G, Z, F2, ρ2, A2, q2.bnd.imp fun F3 H3 ρ3 h A3 e3 q3 => ?_⟩⟩⟩
  obtain ⟨r, hr, q4⟩ := q3.lift
  obtain ⟨u, hu, hr⟩ := Option.bind_eq_some_iff.mp hr
  exact ⟨F3, u, r, A3.sub, (OpdR.mono rx (e2.trans e3)).read A3 hu, hr, fun z H' n => A3.new n fun F' H'' A' e' z rz => q4 F' H'' A' e' z rz⟩
theorem sA_nil : PA X [] (tAs X.K X.mg W T cal mkc []) := by
  refine pa_nil.imp fun σ H Q q => ?_
  obtain ⟨G, Z, F, ρ, A, q⟩ := q
  exact Aft.pur q A [] .nil
theorem sA_cons {es : List Expr} {xs : List Ex} (ha : PE X e (tE X.K X.mg W T cal mkc ea)) (hr : PA X es (tAs X.K X.mg W T cal mkc xs)) (hs : starEach (e :: es) X.env = (false, eval e X.env) :: starEach es X.env) (hn : ∀ z, ea ≠ .star z) : PA X (e :: es) (tAs X.K X.mg W T cal mkc (ea :: xs)) := by
  refine (pa_cons (pe_fix ha) hr hs).imp fun σ H Q q => ?_
  obtain ⟨G, Z, F, ρ, A, q⟩ := q
  have e1 : evEs T cal mkc (ea :: xs) ρ = EV.bnd (EV.bnd (evE T cal mkc ea ρ) fixv) fun v ρ2 => EV.bnd (evEs T cal mkc xs ρ2) fun vs ρ3 => EV.pur (v :: vs) ρ3 := by
    rw [bnd_assoc]
    cases ea with
    | star z => exact absurd rfl (hn z)
    | _ => rfl
  rw [e1] at q
  refine ⟨G, Z, F, ρ, A, q.bnd.imp fun F1 H1 ρ1 v A1 e1 q1 x rx => ⟨G, Z, F1, ρ1, A1, q1.bnd.imp fun F2 H2 ρ2 vs A2 e2 q2 ys rys => ?_⟩⟩
  exact Aft.pur q2 A2 _ (.cons (rx.mono e2) rys)
theorem sA_star {es : List Expr} {xs : List Ex} {p : Pos} (ha : PE X e (tE X.K X.mg W T cal mkc ea)) (hr : PA X es (tAs X.K X.mg W T cal mkc xs)) (hs : starEach (.Starred e p :: es) X.env = (true, eval e X.env) :: starEach es X.env) : PA X (.Starred e p :: es) (tAs X.K X.mg W T cal mkc (.star ea :: xs)) := by
  refine (StX.pa_star (pe_fix ha) hr hs).imp fun σ H Q q => ?_
  obtain ⟨G, Z, F, ρ, A, q⟩ := q
  have e1 : evEs T cal mkc (.star ea :: xs) ρ = EV.bnd (EV.bnd (evE T cal mkc ea ρ) fixv) fun v ρ2 => match v with
      | .lst ys => EV.bnd (evEs T cal mkc xs ρ2) fun vs ρ3 => EV.pur (ys ++ vs) ρ3
      | .tup ys => EV.bnd (evEs T cal mkc xs ρ2) fun vs ρ3 => EV.pur (ys ++ vs) ρ3
      | _ => none := by rw [bnd_assoc]; rfl
  rw [e1] at q
  refine ⟨G, Z, F, ρ, A, q.bnd.imp fun F1 H1 ρ1 v A1 e1 q1 x rx => ?_⟩
  cases rx with
  | lst s1 r1 =>
    refine ⟨_, _, rfl, .inr (.inl (.inl (A1.sub _ _ s1))), G, Z, F1, ρ1, A1, (Aft.bnd q1).imp fun F2 H2 ρ2 vs A2 e2 q2 ys rys => ?_⟩
    exact Aft.pur q2 A2 _ ((r1.mono e2).app rys)
  | tup s1 r1 =>
    refine ⟨_, _, rfl, .inl (.inl (.inl (A1.sub _ _ s1))), G, Z, F1, ρ1, A1, (Aft.bnd q1).imp fun F2 H2 ρ2 vs A2 e2 q2 ys rys => ?_⟩
    exact Aft.pur q2 A2 _ ((r1.mono e2).app rys)
  | _ => exact q1.elim
theorem sE_tup {es : List Expr} {xs : List Ex} {k1 : Nat} (h : PA X es (tAs X.K X.mg W T cal mkc xs)) : PE X (.Tuple es k1 pos) (tE X.K X.mg W T cal mkc (.tup xs)) := by
  refine (pe_tup h).imp fun σ H Q q => ?_
  obtain ⟨G, Z, F, ρ, A, q⟩ := q
  refine ⟨G, Z, F, ρ, A, q.bnd.imp fun F1 H1 ρ1 vs A1 e1 q1 ys rys => ?_⟩
  split at q1
  · rename_i hz
    exact ⟨by rw [rys.length]; exact cap_line hz, fun p hp => A1.new (newT hp rys) fun F' H'' A' e' z rz => q1 F' H'' A' e' z rz⟩
  · exact q1.elim
theorem sE_lst {es : List Expr} {xs : List Ex} (h : PA X es (tAs X.K X.mg W T cal mkc xs)) : PE X (.List es pos) (tE X.K X.mg W T cal mkc (.lst xs)) := by
  refine (pe_lst h).imp fun σ H Q q => ?_
  obtain ⟨G, Z, F, ρ, A, q⟩ := q
  refine ⟨G, Z, F, ρ, A, q.bnd.imp fun F1 H1 ρ1 vs A1 e1 q1 ys rys => ?_⟩
  split at q1
  · rename_i hz
    exact ⟨by rw [rys.length]; exact cap_line hz, fun p hp => A1.new (newL hp rys) fun F' H'' A' e' z rz => q1 F' H'' A' e' z rz⟩
  · exact q1.elim
theorem bw_cases {s : Slot} {v : Val} (h : bw s = .fz v) : s = .fz v ∨ ∃ vs, s = .ow (.lst vs) ∧ v = .lst vs := by
  cases s with
  | un => cases h
  | fz u => exact .inl h
  | ow u =>
    cases u with
    | lst vs => cases h; exact .inr ⟨vs, rfl, rfl⟩
    | _ => cases h
theorem bw_no {s : Slot} {v : Val} : bw s ≠ .ow v := by
  cases s with
  | un => nofun
  | fz u => nofun
  | ow u => cases u <;> nofun
open Classical in
theorem Abs.bor {K : PySem.W.Frag} {mg : Str → Option Value} {G Z F : Hp} {σ : L2.St} {H : Hp} {ρ : Ro} (A : Abs K mg G Z F σ H ρ) :
    ∃ G1 F1, Abs K mg G1 Z F1 σ H (ρ.map bw) ∧ Ex' F F1 ∧ Ex' G G1 ∧ ∀ (i : Nat) v a, ρ[i]? = some (.ow v) → σ[i]? = some (some (.ref a)) → F1 a = H a ∨ G1 a = H a := by
  obtain ⟨isL, hL⟩ : ∃ isL : Addr → Prop, isL = fun a => ∃ (i : Nat) (vs : List Val), ρ[i]? = some (Slot.ow (.lst vs)) ∧ σ[i]? = some (some (V.ref a)) := ⟨_, rfl⟩
  obtain ⟨isO, hO⟩ : ∃ isO : Addr → Prop, isO = fun a => ∃ (i : Nat) (v : Val), ρ[i]? = some (Slot.ow v) ∧ (∀ vs, v ≠ .lst vs) ∧ σ[i]? = some (some (V.ref a)) := ⟨_, rfl⟩
  have own : ∀ {i : Nat} {v : Val} {a : Addr}, ρ[i]? = some (.ow v) → σ[i]? = some (some (.ref a)) → G a = none ∧ Own K mg F H a v := fun {i v a} h1 h2 => by
    obtain ⟨b, e1, e2, e3⟩ := A.ow i v h1
    rw [h2] at e1; cases e1
    exact ⟨e2, e3⟩
  have two : ∀ a, isL a → isO a → False := fun a h1 h2 => by
    rw [hL] at h1; rw [hO] at h2
    obtain ⟨i, vs, r1, s1⟩ := h1
    obtain ⟨j, v, r2, hn, s2⟩ := h2
    have hij : i ≠ j := fun z => by
      subst z
      rw [r1] at r2
      cases r2
      exact hn vs rfl
    exact A.ap i j a _ _ hij r1 r2 s1 s2
  refine ⟨fun a => if isO a then H a else G a, fun a => if isL a then H a else F a, ⟨?_, ?_, ?_, ?_, ?_, ?_, ?_, ?_, A.x.tb, ?_, ?_⟩, ?_, ?_, ?_⟩
  · intro a o h
    by_cases z : isL a
    · simpa only [if_pos z] using h
    · simp only [if_neg z] at h; exact A.sub a o h
  · intro a o h
    by_cases z : isO a
    · simpa only [if_pos z] using h
    · simp only [if_neg z] at h; exact A.bg a o h
  · intro a o h
    have h1 := A.f0 a o h
    by_cases z : isL a
    · simp only [if_pos z]; exact A.sub a o h1
    · simp only [if_neg z]; exact h1
  · intro a o h
    by_cases z : isL a
    · refine .inr (.inl ?_)
      simp only [if_neg fun w => two a z w]
      rw [hL] at z
      obtain ⟨i, vs, r1, s1⟩ := z
      exact (own r1 s1).1
    · simp only [if_neg z] at h
      rcases A.nw a o h with q | q | q
      · exact .inl q
      · refine .inr (.inl ?_)
        have : ¬ isO a := fun w => by
          rw [hO] at w
          obtain ⟨i, v, r1, _, s1⟩ := w
          have := (own r1 s1).2.no
          rw [h] at this; cases this
        simp only [if_neg this]
        exact q
      · exact .inr (.inr q)
  · rw [List.length_map]; exact A.len
  · intro i v h
    rw [List.getElem?_map] at h
    obtain ⟨s, hs, e⟩ := Option.map_eq_some_iff.mp h
    have ex : Ex' F fun a => if isL a then H a else F a := fun a o h => by
      by_cases z : isL a
      · simp only [if_pos z]; exact A.sub a o h
      · simp only [if_neg z]; exact h
    rcases bw_cases e with rfl | ⟨vs, rfl, rfl⟩
    · obtain ⟨x, h1, h2⟩ := A.fz i v hs
      exact ⟨x, h1, h2.mono ex⟩
    · obtain ⟨a, h1, h2, h3⟩ := A.ow i _ hs
      have z : isL a := by rw [hL]; exact ⟨i, vs, hs, h1⟩
      cases h3 with
      | lst n hh r => exact ⟨_, h1, .lst (by simp only [if_pos z]; exact hh) (r.mono ex)⟩
  · intro i v h
    rw [List.getElem?_map] at h
    obtain ⟨s, _, e⟩ := Option.map_eq_some_iff.mp h
    exact absurd e bw_no
  · intro i j a v w _ h
    rw [List.getElem?_map] at h
    obtain ⟨s, _, e⟩ := Option.map_eq_some_iff.mp h
    exact absurd e bw_no
  · intro a ps h
    by_cases z : isL a
    · simp only [if_pos z] at h
      rw [hL] at z
      obtain ⟨i, vs, r1, s1⟩ := z
      obtain ⟨u, hu, ht⟩ := (own r1 s1).2.th
      rw [h] at hu; cases hu
      exact ht.1 ps rfl
    · simp only [if_neg z] at h; exact A.x.nf a ps h
  · intro a ps h
    by_cases z : isO a
    · simp only [if_pos z] at h
      rw [hO] at z
      obtain ⟨i, v, r1, _, s1⟩ := z
      obtain ⟨u, hu, ht⟩ := (own r1 s1).2.th
      rw [h] at hu; cases hu
      exact ht.1 ps rfl
    · simp only [if_neg z] at h; exact A.x.ng a ps h
  · intro a o h
    by_cases z : isL a
    · simp only [if_pos z]; exact A.sub a o h
    · simp only [if_neg z]; exact h
  · intro a o h
    by_cases z : isO a
    · simp only [if_pos z]; exact A.bg a o h
    · simp only [if_neg z]; exact h
  · intro i v a h1 h2
    by_cases hv : ∃ vs, v = .lst vs
    · obtain ⟨vs, rfl⟩ := hv
      have z : isL a := by rw [hL]; exact ⟨i, vs, h1, h2⟩
      exact .inl (by simp only [if_pos z])
    · have z : isO a := by rw [hO]; exact ⟨i, v, h1, fun vs e => hv ⟨vs, e⟩, h2⟩
      exact .inr (by simp only [if_pos z])
theorem blt1 {bl : Bl} {σ : L2.St} {H : Hp} {Q : VK} (h : tE X.K X.mg W T cal mkc (.blt bl [ea]) σ H Q) : tCB (rBlt X.K X.mg bl) (tCons (tO X.K X.mg W T cal mkc ea) tNil) σ H Q := by
  obtain ⟨G, Z, F, ρ, A, q⟩ := h
  refine ⟨G, Z, F, ρ, A, q.bnd.imp fun F1 H1 ρ1 x A1 e1 q1 vx rx => ?_⟩
  obtain ⟨r, hr, q3⟩ := q1.lift
  obtain ⟨u, hu, hr⟩ := Option.bind_eq_some_iff.mp hr
  exact ⟨F1, [u], r, A1.sub, .cons (OpdR.read A1 rx hu) .nil, hr, fun z H' n => A1.new n fun F' H'' A' e' z rz => q3 F' H'' A' e' z rz⟩
theorem rbs_of {F H : Hp} (e : Ex' F H) : ∀ {xs : List V} {vs : List Val}, Reps X.K X.mg F xs vs → RBs X.K X.mg F H xs vs
  | _, _, .nil => .nil
  | _, _, .cons a r => .cons (Rep.b e a) (rbs_of e r)
theorem blt2 {bl : Bl} {xs : List Ex} {σ : L2.St} {H : Hp} {Q : VK} (hn : ∀ z, xs ≠ [z]) (h : tE X.K X.mg W T cal mkc (.blt bl xs) σ H Q) : tCB (rBlt X.K X.mg bl) (tAs X.K X.mg W T cal mkc xs) σ H Q := by
  obtain ⟨G, Z, F, ρ, A, q⟩ := h
  have e1 : evE T cal mkc (.blt bl xs) ρ = EV.bnd (evEs T cal mkc xs ρ) fun vs ρ1 => EV.lift (bltF bl vs) ρ1 := by
    match xs, hn with
    | [], _ => rfl
    | [z], hn => exact absurd rfl (hn z)
    | _ :: _ :: _, _ => rfl
  rw [e1] at q
  refine ⟨G, Z, F, ρ, A, q.bnd.imp fun F1 H1 ρ1 vs A1 e1 q1 ys rys => ?_⟩
  obtain ⟨r, hr, q3⟩ := q1.lift
  exact ⟨F1, vs, r, A1.sub, rbs_of A1.sub rys, hr, fun z H' n => A1.new n fun F' H'' A' e' z rz => q3 F' H'' A' e' z rz⟩
end
end EV
namespace EV
open PySem PySem.Spec PyProof.Rows L2
structure FnE (P : Program) (w : World) (K : PySem.W.Frag) (mg : Str → Option Value) (base : Heap) (k : Nat) (f : Addr) (fd : FuncData) (ps : List Str) (sp : Sp) : Prop where
  ln : ∀ vs H Q E, sp vs H Q E → vs.length = ps.length
  go : ∀ (A : Around) (ou : List Env) (s : Shared) (H : Hp) (args : Args) (us : List Value) (vs : List V) (Q : VK) (E : XK), A.guards = some [] → Room k A → Env0 P w K mg base A ou s H → BindsTo s fd args (ps.zip us) → Vals vs us → sp vs H Q E →
    codeAny (model P w) A (.call (.ref f) args) (CR (L2.CX P w) ou P w H s Q E) s
section
variable {X : Cx} {W : WX} {k : Nat} {f : Addr} {fd : FuncData} {ps : List Str} {sp : Sp}
theorem run_fnE {pins : List (Addr × Obj)} {σ : L2.St} {H : Hp} {s : Shared} {Q : VK} {us : List Value} {vs : List V} {args : Args} (F : FnE X.prog X.w X.K X.mg X.base k f fd ps sp) (gd : X.A.guards = some []) (hr : Room k X.A) (tk : Takes X W)
    (hb : us.length = ps.length → BindsTo s fd args (ps.zip us)) (I : Inv X pins σ H s) (r : Vals vs us) (h : sp vs H Q fun c d H' => W c d σ H') : wpAny (model X.prog X.w) X.A (call (.ref f) args.pos args.kw) (EP X pins σ Q) X.xe s := by
  have hl : us.length = ps.length := by rw [← r.length]; exact F.ln _ _ _ _ h
  refine wpAny_call (codeAny_mono (F.go X.A X.stack s H args us vs Q _ gd hr I.env0 (hb hl) r h) fun o s' hq => ?_)
  cases o with
  | error e => exact tk e s' (XE.of_call I (fun _ _ _ h => h) hq)
  | ok fl => cases fl with
    | ret u => exact I.after hq
    | next => exact False.elim hq
    | brk => exact False.elim hq
    | cont => exact False.elim hq
end
def ArgR (K : PySem.W.Frag) (mg : Str → Option Value) (F H : Hp) (x : V) : Slot → Prop
  | .fz v => Rep K mg F x v
  | .ow v => ∃ a, x = .ref a ∧ Own K mg F H a v
  | .un => False
def ioOf : List V → List Slot → List Addr
  | .ref a :: xs, .ow _ :: ss => a :: ioOf xs ss
  | _ :: xs, _ :: ss => ioOf xs ss
  | _, _ => []
structure EndR (K : PySem.W.Frag) (mg : Str → Option Value) (F H : Hp) (vs : List V) (as : List Slot) (F' H' : Hp) (fin : List Slot) : Prop where
  up : Ex' F F'
  sub : Ex' F' H'
  kp : ∀ a o, H a = some o → a ∉ ioOf vs as → (∀ ps, o ≠ .tbl ps) → H' a = some o
  nw : ∀ a o, F' a = some o → F a = some o ∨ Nw H a ∨ a ∈ ioOf vs as ∨ ∃ xs, o = .tup xs
  io : ∀ (i : Nat) a v v', as[i]? = some (.ow v) → vs[i]? = some (.ref a) → fin[i]? = some (.ow v') → Own K mg F' H' a v'
  tb : TBs K mg H'
  nf : NoT F'
def ResC (K : PySem.W.Frag) (mg : Str → Option Value) (F' H' H : Hp) (x : V) : Slot → Prop
  | .fz v => Rep K mg F' x v
  | .ow v => ∃ a, x = .ref a ∧ Nw H a ∧ Own K mg F' H' a v
  | .un => False
def PstC (K : PySem.W.Frag) (mg : Str → Option Value) (F H : Hp) (vs : List V) (as : List Slot) (Q : VK) (E : XK) (m : Res Slot) : Prop := match m with
  | some (.ok r fin) => ∀ F' H' x, EndR K mg F H vs as F' H' fin → ResC K mg F' H' H x r → Q x H'
  | some (.ex e fin) => ∀ F' H' d, EndR K mg F H vs as F' H' fin → ExR K mg F' d e → E (.ref (GH.clsA mg (Str.ofString e.c))) d H'
  | none => False
def spF (K : PySem.W.Frag) (mg : Str → Option Value) (cal : Cal) (n : Nat) (f : String) : Sp := fun vs H Q E => ∃ F as, as.length = n ∧ Ex' F H ∧ Paired (ArgR K mg F H) vs as ∧ (ioOf vs as).Nodup ∧ (NoT F ∧ TBs K mg H) ∧ PstC K mg F H vs as Q E (cal f as)
def AtA (K : PySem.W.Frag) (mg : Str → Option Value) (G F : Hp) (σ : L2.St) (H : Hp) (ρ : Ro) (x : V) : Arg → Prop
  | .io i => σ[i]? = some (some x)
  | .va v => Rep K mg F x v
  | .nw v => ResR K mg G F σ H ρ x (.ow v)
section
variable {X : Cx} {W : WX} {T : Tab} {cal mkc : Cal} {a b c e : Expr} {ea eb ec : Ex} {pos : Pos} {kr : Nat}
def tArg (X : Cx) (W : WX) (T : Tab) (cal mkc : Cal) (io : Bool) (e : Ex) : TE := tM X.K X.mg W (argOf io e (evE T cal mkc e)) fun G F σ H ρ x a => AtA X.K X.mg G F σ H ρ x a
def tArgs (X : Cx) (W : WX) (T : Tab) (cal mkc : Cal) (io : List Bool) (es : List Ex) : TA := fun σ H Q => ∃ G Z F ρ, Abs X.K X.mg G Z F σ H ρ ∧ Aft X.K X.mg W G Z F σ (evAs T cal mkc io es ρ) fun F' H' ρ' as => ∀ xs, Paired (AtA X.K X.mg G F' σ H' ρ') xs as → Q xs H'
theorem sArg {io : Bool} (h : PE X e (tE X.K X.mg W T cal mkc ea)) (hv : ∀ i, ea = .v i → PE X e (tVar i)) : PE X e (tArg X W T cal mkc io ea) := by
  cases io with
  | false =>
    refine (pe_fix h).imp fun σ H Q q => ?_
    obtain ⟨G, Z, F, ρ, A, q⟩ := q
    refine ⟨G, Z, F, ρ, A, ?_⟩
    have e1 : argOf false ea (evE T cal mkc ea) ρ = EV.bnd (EV.bnd (evE T cal mkc ea ρ) fixv) fun v ρ2 => EV.pur (.va v) ρ2 := by rw [bnd_assoc]; rfl
    rw [e1] at q
    exact q.bnd.imp fun F' H' ρ' v A' e' q' x rx => Aft.pur q' A' x rx
  | true =>
    by_cases hc : ∃ i, ea = .v i
    · obtain ⟨i, rfl⟩ := hc
      refine ((hv i rfl)).imp fun σ H Q q => ?_
      obtain ⟨G, Z, F, ρ, A, q⟩ := q
      have q : Aft X.K X.mg W G Z F σ (if (ownAt i ρ).isSome then EV.pur (Arg.io i) ρ else none) _ := q
      split at q
      · rename_i hs
        unfold ownAt at hs
        split at hs
        · rename_i v hv
          obtain ⟨a, h1, _⟩ := A.ow i v hv
          exact ⟨_, h1, Aft.pur q A _ h1⟩
        · cases hs
      · exact q.elim
    · refine h.imp fun σ H Q q => ?_
      obtain ⟨G, Z, F, ρ, A, q⟩ := q
      refine ⟨G, Z, F, ρ, A, ?_⟩
      have e1 : argOf true ea (evE T cal mkc ea) ρ = EV.bnd (evE T cal mkc ea ρ) newArg := by
        cases ea with
        | v i => exact absurd ⟨i, rfl⟩ hc
        | _ => rfl
      rw [e1] at q
      refine q.bnd.imp fun F' H' ρ' r A' e' q' x rx => ?_
      cases r with
      | un => exact rx.elim
      | fz v => exact q'.elim
      | ow v => exact Aft.pur q' A' x rx
theorem AtA.mono {G F F' : Hp} {σ : L2.St} {H H' : Hp} {ρ ρ' : Ro} {x : V} {a : Arg} (h : AtA X.K X.mg G F σ H ρ x a) (e : Ex' F F') (hn : ∀ v, a ≠ .nw v) : AtA X.K X.mg G F' σ H' ρ' x a := by
  cases a with
  | io i => exact h
  | va v => exact Rep.mono e h
  | nw v => exact absurd rfl (hn v)
theorem sArgs_one {io : List Bool} (ha : PE X e (tArg X W T cal mkc (io.getD 0 false) ea)) (hs : starEach [e] X.env = (false, eval e X.env) :: starEach [] X.env) : PA X [e] (tArgs X W T cal mkc io [ea]) := by
  refine (pa_cons ha pa_nil hs).imp fun σ H Q q => ?_
  obtain ⟨G, Z, F, ρ, A, q⟩ := q
  have e1 : evAs T cal mkc io [ea] ρ = EV.bnd (argOf (io.getD 0 false) ea (evE T cal mkc ea) ρ) fun a ρ1 => EV.pur [a] ρ1 := by
    have e2 : ∀ (i : List Bool) (ρ : Ro), evAs T cal mkc i [] ρ = EV.pur [] ρ := fun i ρ => by cases i <;> rfl
    simp [evAs, e2]
  rw [e1] at q
  exact ⟨G, Z, F, ρ, A, q.bnd.imp fun F1 H1 ρ1 g A1 e1 q1 x rx => Aft.pur q1 A1 [x] (.cons rx .nil)⟩
theorem sArgs_cons {io : List Bool} {es : List Expr} {xs : List Ex} (hx : xs ≠ []) (ha : PE X e (tArg X W T cal mkc (io.getD 0 false) ea)) (hr : PA X es (tArgs X W T cal mkc (io.drop 1) xs)) (hs : starEach (e :: es) X.env = (false, eval e X.env) :: starEach es X.env) :
    PA X (e :: es) (tArgs X W T cal mkc io (ea :: xs)) := by
  refine (pa_cons ha hr hs).imp fun σ H Q q => ?_
  obtain ⟨G, Z, F, ρ, A, q⟩ := q
  have e1 : evAs T cal mkc io (ea :: xs) ρ = EV.bnd (argOf (io.getD 0 false) ea (evE T cal mkc ea) ρ) fun a ρ1 => if a.isN && !xs.isEmpty then none else EV.bnd (evAs T cal mkc (io.drop 1) xs ρ1) fun as ρ2 => EV.pur (a :: as) ρ2 := by
    simp only [evAs]
  rw [e1] at q
  refine ⟨G, Z, F, ρ, A, q.bnd.imp fun F1 H1 ρ1 g A1 e1 q1 x rx => ⟨G, Z, F1, ρ1, A1, ?_⟩⟩
  split at q1
  · exact q1.elim
  · rename_i hc
    have hn : ¬ g.isN = true := fun hn => by
      cases xs with
      | nil => exact hx rfl
      | cons _ _ => exact absurd (by rw [hn]; rfl) hc
    exact q1.bnd.imp fun F2 H2 ρ2 as A2 e2 q2 ys rys => Aft.pur q2 A2 _ (.cons (rx.mono e2 fun v z => hn (by rw [z]; rfl)) rys)
theorem ioOf_mem : ∀ {vs : List V} {as : List Slot} {a : Addr}, a ∈ ioOf vs as → ∃ (i : Nat) (v : Val), vs[i]? = some (.ref a) ∧ as[i]? = some (.ow v)
  | [], [], _, h => by simp [ioOf] at h
  | [], _ :: _, _, h => by simp [ioOf] at h
  | _ :: _, [], _, h => by simp [ioOf] at h
  | x :: xs, s :: ss, a, h => by
    have rec_ : a ∈ ioOf xs ss → ∃ (i : Nat) (v : Val), (x :: xs)[i]? = some (.ref a) ∧ (s :: ss)[i]? = some (.ow v) := fun h => by
      obtain ⟨i, v, h1, h2⟩ := ioOf_mem h
      exact ⟨i + 1, v, by simpa using h1, by simpa using h2⟩
    cases x with
    | ref b =>
      cases s with
      | ow v =>
        have h : a ∈ b :: ioOf xs ss := h
        rcases List.mem_cons.mp h with rfl | h
        · exact ⟨0, v, rfl, rfl⟩
        · exact rec_ h
      | fz v => exact rec_ h
      | un => exact rec_ h
    | _ => exact rec_ (by cases s <;> exact h)
theorem args_slots {G Z F : Hp} {σ : L2.St} {H : Hp} {ρ : Ro} (A : Abs X.K X.mg G Z F σ H ρ) : ∀ {as : List Arg} {xs : List V} {ss : List Slot}, Paired (AtA X.K X.mg G F σ H ρ) xs as → as.mapM (Arg.slot ρ) = some ss → Paired (ArgR X.K X.mg F H) xs ss
  | [], _, ss, .nil, h => by
    have : ss = [] := by simpa using h.symm
    subst this; exact .nil
  | a :: as, _, ss, .cons r t, h => by
    rw [List.mapM_cons] at h
    obtain ⟨s, h1, h⟩ := Option.bind_eq_some_iff.mp h
    obtain ⟨ss', h2, h⟩ := Option.bind_eq_some_iff.mp h
    cases h
    refine .cons ?_ (args_slots A t h2)
    cases a with
    | va v => cases h1; exact r
    | nw v =>
      cases h1
      obtain ⟨p, e, _, o, _⟩ := r
      exact ⟨p, e, o⟩
    | io i =>
      simp only [Arg.slot] at h1
      split at h1
      · rename_i v hv
        cases h1
        obtain ⟨p, e, _, o⟩ := A.ow i v hv
        have r : σ[i]? = some (some _) := r
        rw [e] at r; cases r
        exact ⟨p, rfl, o⟩
      · cases h1
theorem putBack_get : ∀ {as : List Arg} {fin : List Slot} {ρ ρ' : Ro}, putBack as fin ρ = some ρ' → ρ'.length = ρ.length ∧ ∀ i : Nat, i < ρ.length → (∃ (j : Nat) (v : Val), as[j]? = some (.io i) ∧ fin[j]? = some (.ow v) ∧ ρ'[i]? = some (.ow v)) ∨ ((∀ j : Nat, as[j]? ≠ some (.io i)) ∧ ρ'[i]? = ρ[i]?)
  | [], fin, ρ, ρ', h => by
    simp only [putBack] at h
    cases h
    exact ⟨rfl, fun i _ => .inr ⟨fun j => by simp, rfl⟩⟩
  | .io i0 :: r, .ow v :: s, ρ, ρ', h => by
    simp only [putBack] at h
    obtain ⟨ρ1, h1, rfl⟩ := Option.map_eq_some_iff.mp h
    obtain ⟨hl, ih⟩ := putBack_get h1
    refine ⟨by rw [List.length_set]; exact hl, fun i hi => ?_⟩
    by_cases e : i = i0
    · subst e
      exact .inl ⟨0, v, rfl, rfl, List.getElem?_set_self (by omega)⟩
    · rw [List.getElem?_set_ne (Ne.symm e)]
      rcases ih i hi with ⟨j, w, q1, q2, q3⟩ | ⟨q1, q2⟩
      · exact .inl ⟨j + 1, w, by simpa using q1, by simpa using q2, q3⟩
      · refine .inr ⟨fun j => ?_, q2⟩
        cases j with
        | zero => intro z; cases z; exact e rfl
        | succ j => simpa using q1 j
  | .io _ :: _, .fz _ :: _, _, _, h => by simp [putBack] at h
  | .io _ :: _, .un :: _, _, _, h => by simp [putBack] at h
  | .io _ :: _, [], _, _, h => by simp [putBack] at h
  | .va _ :: r, [], _, _, h => by simp [putBack] at h
  | .nw _ :: r, [], _, _, h => by simp [putBack] at h
  | .va w :: r, q :: s, ρ, ρ', h => by
    have h1 : putBack r s ρ = some ρ' := by cases q <;> exact h
    obtain ⟨hl, ih⟩ := putBack_get h1
    refine ⟨hl, fun i hi => ?_⟩
    rcases ih i hi with ⟨j, w, q1, q2, q3⟩ | ⟨q1, q2⟩
    · exact .inl ⟨j + 1, w, by simpa using q1, by simpa using q2, q3⟩
    · refine .inr ⟨fun j => ?_, q2⟩
      cases j with
      | zero => intro z; cases z
      | succ j => simpa using q1 j
  | .nw w :: r, q :: s, ρ, ρ', h => by
    have h1 : putBack r s ρ = some ρ' := by cases q <;> exact h
    obtain ⟨hl, ih⟩ := putBack_get h1
    refine ⟨hl, fun i hi => ?_⟩
    rcases ih i hi with ⟨j, w, q1, q2, q3⟩ | ⟨q1, q2⟩
    · exact .inl ⟨j + 1, w, by simpa using q1, by simpa using q2, q3⟩
    · refine .inr ⟨fun j => ?_, q2⟩
      cases j with
      | zero => intro z; cases z
      | succ j => simpa using q1 j
theorem mapM_get {as : List Arg} {ρ : Ro} : ∀ {ss : List Slot}, as.mapM (Arg.slot ρ) = some ss → ∀ j : Nat, (∀ a, as[j]? = some a → ∃ s, ss[j]? = some s ∧ Arg.slot ρ a = some s) ∧ (∀ s, ss[j]? = some s → ∃ a, as[j]? = some a ∧ Arg.slot ρ a = some s) := by
  induction as with
  | nil =>
    intro ss h j
    have : ss = [] := by simpa using h.symm
    subst this
    exact ⟨fun a h => by simp at h, fun s h => by simp at h⟩
  | cons a as ih =>
    intro ss h j
    rw [List.mapM_cons] at h
    obtain ⟨s, h1, h⟩ := Option.bind_eq_some_iff.mp h
    obtain ⟨ss', h2, h⟩ := Option.bind_eq_some_iff.mp h
    cases h
    cases j with
    | zero =>
      refine ⟨fun b hb => ?_, fun b hb => ?_⟩
      · cases hb; exact ⟨s, rfl, h1⟩
      · cases hb; exact ⟨a, rfl, h1⟩
    | succ j => simpa using ih h2 j
theorem paired_at {α β : Type} {R : α → β → Prop} {xs : List α} {ys : List β} (h : Paired R xs ys) {i : Nat} {x : α} {y : β} (hx : xs[i]? = some x) (hy : ys[i]? = some y) : R x y := by
  obtain ⟨y', h1, h2⟩ := GH.paired_get h hx
  rw [hy] at h1; cases h1; exact h2
theorem io_is {G Z F : Hp} {σ : L2.St} {H : Hp} {ρ : Ro} {as : List Arg} {xs : List V} {ss : List Slot} {a : Addr} (A : Abs X.K X.mg G Z F σ H ρ) (P : Paired (AtA X.K X.mg G F σ H ρ) xs as) (hm : as.mapM (Arg.slot ρ) = some ss) {j : Nat} {v : Val} (hx : xs[j]? = some (.ref a)) (hs : ss[j]? = some (.ow v)) :
    G a = none ∧ ((∃ i, as[j]? = some (.io i) ∧ ρ[i]? = some (.ow v) ∧ σ[i]? = some (some (.ref a))) ∨ (as[j]? = some (.nw v) ∧ Lone σ ρ a)) := by
  obtain ⟨g, h1, h2⟩ := (mapM_get hm j).2 _ hs
  have r := paired_at P hx h1
  cases g with
  | va w => cases h2
  | nw w =>
    cases h2
    obtain ⟨p, e, g0, o, l⟩ := r
    cases e
    exact ⟨g0, .inr ⟨h1, l⟩⟩
  | io i =>
    simp only [Arg.slot] at h2
    split at h2
    · rename_i w hw
      cases h2
      obtain ⟨p, e, g0, o⟩ := A.ow i _ hw
      have r : σ[i]? = some (some (.ref a)) := r
      rw [r] at e; cases e
      exact ⟨g0, .inl ⟨i, h1, hw, r⟩⟩
    · cases h2
theorem Abs.call {G Z F F' : Hp} {σ : L2.St} {H H' : Hp} {ρ ρ' : Ro} {as : List Arg} {xs : List V} {ss fin : List Slot} (A : Abs X.K X.mg G Z F σ H ρ) (P : Paired (AtA X.K X.mg G F σ H ρ) xs as) (hm : as.mapM (Arg.slot ρ) = some ss) (E : EndR X.K X.mg F H xs ss F' H' fin) (hp : putBack as fin ρ = some ρ') :
    Abs X.K X.mg G Z F' σ H' ρ' := by
  obtain ⟨hl, pg⟩ := putBack_get hp
  have iog : ∀ a, a ∈ ioOf xs ss → G a = none := fun a h => by
    obtain ⟨j, v, h1, h2⟩ := ioOf_mem h
    exact (io_is A P hm h1 h2).1
  have lt : ∀ {i : Nat} {s : Slot}, ρ'[i]? = some s → i < ρ.length := fun {i s} h => by
    have := (List.getElem?_eq_some_iff.mp h).1
    omega
  have stay : ∀ {i : Nat} {v : Val} {a : Addr}, (∀ j : Nat, as[j]? ≠ some (.io i)) → ρ[i]? = some (.ow v) → σ[i]? = some (some (.ref a)) → Own X.K X.mg F H a v → a ∉ ioOf xs ss := fun {i v a} h1 h2 h3 o h => by
    obtain ⟨j, w, q1, q2⟩ := ioOf_mem h
    rcases (io_is A P hm q1 q2).2 with ⟨i', g1, g2, g3⟩ | ⟨g1, g2⟩
    · by_cases e : i = i'
      · subst e; exact h1 j g1
      · exact A.ap i i' a v w e h2 g2 h3 g3
    · exact g2 i v h2 h3
  refine ⟨E.sub, fun a o h => ?_, A.f0.trans E.up, fun a o h => ?_, by rw [hl]; exact A.len, fun i v h => ?_, fun i v h => ?_, fun i j a v w n h h' => ?_, E.tb, E.nf, A.x.ng⟩
  · exact E.kp a o (A.bg a o h) (fun z => by rw [iog a z] at h; cases h) fun ps z => A.x.ng a ps (by rw [h, z])
  · rcases E.nw a o h with q | q | q | q
    · exact A.nw a o q
    · refine .inr (.inl ?_)
      cases z : G a with
      | none => rfl
      | some u =>
        rcases q with q | ⟨ps, q⟩
        · rw [A.bg a u z] at q; cases q
        · rw [A.bg a u z] at q; cases q; exact absurd z (A.x.ng a ps)
    · exact .inr (.inl (iog a q))
    · exact .inr (.inr q)
  · rcases pg i (lt h) with ⟨j, w, q1, q2, q3⟩ | ⟨q1, q2⟩
    · rw [q3] at h; cases h
    · rw [q2] at h
      obtain ⟨x, h1, h2⟩ := A.fz i v h
      exact ⟨x, h1, h2.mono E.up⟩
  · rcases pg i (lt h) with ⟨j, w, q1, q2, q3⟩ | ⟨q1, q2⟩
    · rw [q3] at h; cases h
      obtain ⟨s, g1, g2⟩ := (mapM_get hm j).1 _ q1
      simp only [Arg.slot] at g2
      split at g2
      · rename_i w hw
        cases g2
        obtain ⟨a, h1, h2, h3⟩ := A.ow i _ hw
        obtain ⟨x, hx, hr⟩ := GH.paired_get' P q1
        have hr : σ[i]? = some (some x) := hr
        rw [h1] at hr; cases hr
        exact ⟨a, h1, h2, E.io j a _ _ g1 hx q2⟩
      · cases g2
    · rw [q2] at h
      obtain ⟨a, h1, h2, h3⟩ := A.ow i v h
      have na := stay q1 h h1 h3
      obtain ⟨u, hu, hnt⟩ := h3.at
      obtain ⟨u', hu', ht', _⟩ := h3.th
      rw [hu] at hu'; cases hu'
      have hH : H' a = H a := (E.kp a u hu na ht').trans hu.symm
      refine ⟨a, h1, h2, h3.keep E.up ?_ hH⟩
      cases z : F' a with
      | none => rfl
      | some o =>
        rcases E.nw a o z with q | q | q | ⟨ys, rfl⟩
        · rw [h3.no] at q; cases q
        · rcases q with q | ⟨ps, q⟩
          · rw [hu] at q; cases q
          · rw [hu] at q; cases q; exact absurd rfl (ht' ps)
        · exact absurd q na
        · have y := E.sub a _ z
          rw [hH, hu] at y
          cases y
          exact absurd rfl (hnt ys)
  · have was : ∀ {i : Nat} {v : Val}, ρ'[i]? = some (.ow v) → ∃ v', ρ[i]? = some (.ow v') := fun {i v} h => by
      rcases pg i (lt h) with ⟨j, w, q1, q2, q3⟩ | ⟨q1, q2⟩
      · obtain ⟨s, g1, g2⟩ := (mapM_get hm j).1 _ q1
        simp only [Arg.slot] at g2
        split at g2
        · rename_i w hw; exact ⟨w, hw⟩
        · cases g2
      · rw [q2] at h; exact ⟨v, h⟩
    obtain ⟨v1, h1⟩ := was h
    obtain ⟨v2, h2⟩ := was h'
    exact A.ap i j a v1 v2 n h1 h2
theorem io_nodup {G Z F : Hp} {σ : L2.St} {H : Hp} {ρ : Ro} (A : Abs X.K X.mg G Z F σ H ρ) : ∀ {as : List Arg} {xs : List V} {ss : List Slot}, ioNd as = true → Paired (AtA X.K X.mg G F σ H ρ) xs as → as.mapM (Arg.slot ρ) = some ss → (ioOf xs ss).Nodup
  | [], _, ss, _, .nil, h => by cases ss <;> exact List.nodup_nil
  | a :: as, x :: xs, ss, hn, .cons r t, h => by
    rw [List.mapM_cons] at h
    obtain ⟨s, h1, h⟩ := Option.bind_eq_some_iff.mp h
    obtain ⟨ss', h2, h⟩ := Option.bind_eq_some_iff.mp h
    cases h
    cases a with
    | va v =>
      cases h1
      have : ioOf (x :: xs) (.fz v :: ss') = ioOf xs ss' := by cases x <;> rfl
      rw [this]
      exact io_nodup A (show ioNd as = true from hn) t h2
    | nw v =>
      cases h1
      obtain ⟨p, rfl, g0, o, l⟩ := r
      simp only [ioNd, Bool.and_eq_true, Bool.not_eq_true'] at hn
      refine List.nodup_cons.mpr ⟨fun hm => ?_, io_nodup A hn.2 t h2⟩
      obtain ⟨j, w, q1, q2⟩ := ioOf_mem hm
      rcases (io_is A t h2 q1 q2).2 with ⟨i', g1, g2, g3⟩ | ⟨g1, g2⟩
      · exact l i' w g2 g3
      · have : (as.any Arg.isN) = true := List.any_eq_true.mpr ⟨_, List.mem_of_getElem? g1, rfl⟩
        rw [this] at hn; cases hn.1
    | io i =>
      simp only [Arg.slot] at h1
      split at h1
      · rename_i v hv
        cases h1
        obtain ⟨p, e, g0, o⟩ := A.ow i _ hv
        have r : σ[i]? = some (some x) := r
        rw [e] at r; cases r
        simp only [ioNd, Bool.and_eq_true, Bool.not_eq_true'] at hn
        refine List.nodup_cons.mpr ⟨fun hm => ?_, io_nodup A hn.2 t h2⟩
        obtain ⟨j, w, q1, q2⟩ := ioOf_mem hm
        rcases (io_is A t h2 q1 q2).2 with ⟨i', g1, g2, g3⟩ | ⟨g1, g2⟩
        · by_cases ei : i = i'
          · subst ei
            have : (as.any (Arg.isAt i)) = true := List.any_eq_true.mpr ⟨_, List.mem_of_getElem? g1, by simp [Arg.isAt]⟩
            rw [this] at hn; cases hn.1
          · exact A.ap i i' p v w ei hv g2 e g3
        · exact g2 i v hv e
      · cases h1
theorem call_at {G Z F : Hp} {σ : L2.St} {H : Hp} {ρ : Ro} {as : List Arg} {xs : List V} {n : Nat} {f : String} {ps : List String} {Q : VK} {C : Hp → Hp → Ro → Slot → Prop} (A : Abs X.K X.mg G Z F σ H ρ) (P : Paired (AtA X.K X.mg G F σ H ρ) xs as)
    (hC : ∀ F' H' ρ' r, C F' H' ρ' r → ∀ x, ResR X.K X.mg G F' σ H' ρ' x r → Q x H') (hn : ∀ ss o, cal f ss = some o → ss.length = n) (h : Aft X.K X.mg W G Z F σ (callF cal ps f [] as ρ) C) : spF X.K X.mg cal n f xs H Q fun c d H' => W c d σ H' := by
  unfold callF at h
  split at h
  · rename_i hnd
    rw [Bool.and_eq_true] at hnd
    have e1 : ∀ o : Option (List Slot), o.bind (order ps []) = o := fun o => by cases o <;> simp [order]
    rw [e1] at h
    cases hm : as.mapM (Arg.slot ρ) with
    | none => rw [hm] at h; exact h.elim
    | some ss =>
      rw [hm] at h
      have h : Aft X.K X.mg W G Z F σ (finish as (cal f ss) ρ) C := h
      have hl : ss.length = n := by
        cases hc : cal f ss with
        | none => rw [hc] at h; exact h.elim
        | some o => exact hn ss o hc
      refine ⟨F, ss, hl, A.sub, args_slots A P hm, io_nodup A hnd.1 P hm, ⟨A.x.nf, A.x.tb⟩, ?_⟩
      unfold PstC
      unfold finish at h
      split at h
      · rename_i r fin hc
        first | rw [hc] | skip
        split at h
        · rename_i ρ' hp
          intro F' H' x E rx
          have A' := A.call P hm E hp
          refine hC F' H' ρ' r (h F' H' A' E.up) x ?_
          cases r with
          | un => exact rx
          | fz v => exact rx
          | ow v =>
            obtain ⟨p, e, hN, o⟩ := rx
            refine ⟨p, e, ?_, o, fun i w hw hs => ?_⟩
            · cases z : G p with
              | none => rfl
              | some u => exact (hN.not (A.bg p u z) fun ps y => A.x.ng p ps (by rw [z, y])).elim
            · obtain ⟨p', e', _, o'⟩ := A'.ow i w hw
              rw [hs] at e'; cases e'
              have was : ∃ w', ρ[i]? = some (.ow w') := by
                obtain ⟨hl, pg⟩ := putBack_get hp
                have lt : i < ρ.length := by
                  have := (List.getElem?_eq_some_iff.mp hw).1
                  omega
                rcases pg i lt with ⟨j, w, q1, q2, q3⟩ | ⟨q1, q2⟩
                · obtain ⟨s, g1, g2⟩ := (mapM_get hm j).1 _ q1
                  simp only [Arg.slot] at g2
                  split at g2
                  · rename_i w hw; exact ⟨w, hw⟩
                  · cases g2
                · rw [q2] at hw; exact ⟨w, hw⟩
              obtain ⟨w', hw'⟩ := was
              obtain ⟨p', e', _, o'⟩ := A.ow i w' hw'
              rw [hs] at e'; cases e'
              obtain ⟨u, hu, ht, _⟩ := o'.th
              exact hN.not hu ht
        · exact h.elim
      · rename_i e fin hc
        first | rw [hc] | skip
        split at h
        · rename_i ρ' hp
          intro F' H' d E rd
          exact h F' H' d (A.call P hm E hp) E.up rd
        · exact h.elim
      · exact h.elim
  · exact h.elim
theorem sE_call {d : Def} {fa : Addr} {fd : FuncData} {pS : List Str} {n : Nat} {x : Str} {f : String} {p : Pos} {es : List Expr} {xs : List Ex} {k : Nat} (F : FnE X.prog X.w X.K X.mg X.base k fa fd pS (spF X.K X.mg cal n f)) (gd : X.A.guards = some []) (hr : Room k X.A) (tk : Takes X W)
    (hb : ∀ (s : Shared) (us : List Value), us.length = pS.length → BindsTo s fd ⟨us, []⟩ (pS.zip us)) (hg : Gl X x) (hm : X.mg x = some (.ref fa)) (hk : PySem.W.keepIn X.K (.ref fa) = true) (hd : T.fn f = some d) (hn : ∀ ss o, cal f ss = some o → ss.length = n)
    (ha : PA X (e :: es) (tArgs X W T cal mkc d.io xs)) (hdb : (x == ("__debug__" : Str)) = false) (he : starEach (e :: es) X.env = (false, eval e X.env) :: starEach es X.env) (hpl : (backTo pos (starEach es X.env)).any (·.1) = false) :
    PE X (.Call (.Name x p) (e :: es) [] pos) (tE X.K X.mg W T cal mkc (.call f xs [])) := by
  refine ⟨fun pins s σ H Q I h => ?_⟩
  obtain ⟨G, Z, F0, ρ, A, q⟩ := h
  have e1 : evE T cal mkc (.call f xs []) ρ = EV.bnd (evAs T cal mkc d.io xs ρ) fun as ρ1 => callF cal d.ps f [] as ρ1 := by
    simp only [evE, hd]
  rw [e1] at q
  refine wpAny_Call_Name_kw (ld_glob I hg hm ?_ hdb)
  refine PySem.W.callWith_K (h₀ := X.base) I.ok.mod.kin hk (thn (ha.run pos pins s σ H (fun vs H1 => spF X.K X.mg cal n f vs H1 Q fun c d H' => W c d σ H') I ⟨G, Z, F0, ρ, A, q.bnd.imp fun F1 H1 ρ1 as A1 e1 q1 ys rys => call_at A1 rys (fun _ _ _ _ c => c) hn q1⟩) fun us s1 ⟨vs, H1, I1, r, q⟩ => ⟨I1.kIn, ?_⟩) he hpl
  exact run_fnE (args := ⟨us, []⟩) F gd hr tk (hb s1 us) I1 r q
theorem _root_.PySem.ofString_inj {a b : String} (h : Str.ofString a = Str.ofString b) : a = b := by
  rw [PySem.Str.ofString_eq_toList, PySem.Str.ofString_eq_toList] at h
  injection h with h
  have h2 : a.toList.map Char.toNat = b.toList.map Char.toNat := by simpa using congrArg Array.toList h
  have inj : ∀ {l m : List Char}, l.map Char.toNat = m.map Char.toNat → l = m := by
    intro l
    induction l with
    | nil => intro m h; cases m with
      | nil => rfl
      | cons _ _ => cases h
    | cons x l ih => intro m h; cases m with
      | nil => cases h
      | cons y m =>
        simp only [List.map_cons, List.cons.injEq] at h
        have hc : x = y := Char.ext (UInt32.toNat_inj.mp h.1)
        rw [hc, ih h.2]
  exact String.toList_inj.mp (inj h2)
theorem repF_none {K : PySem.W.Frag} {mg : Str → Option Value} {F : Hp} : ∀ {xs : List (Str × V)} {fs : List (String × Val)} {m : String}, RepF K mg F xs fs → fs.lookup m = none → xs.lookup (Str.ofString m) = none
  | _, _, _, .nil, _ => rfl
  | _, _, m, .cons (f := f) a r, h => by
    rw [List.lookup_cons] at h ⊢
    cases hc : m == f with
    | true => rw [hc] at h; cases h
    | false =>
      rw [hc] at h
      have : (Str.ofString m == Str.ofString f) = false := by
        rw [beq_eq_false_iff_ne]
        intro z
        rw [ofString_inj z] at hc
        simp at hc
      rw [this]
      exact repF_none r h
theorem repF_some {K : PySem.W.Frag} {mg : Str → Option Value} {F : Hp} : ∀ {xs : List (Str × V)} {fs : List (String × Val)} {m : String} {v : Val}, RepF K mg F xs fs → fs.lookup m = some v → ∃ x, xs.lookup (Str.ofString m) = some x ∧ Rep K mg F x v
  | _, _, _, _, .nil, h => by cases h
  | _, _, m, v, .cons (f := f) (x := x) a r, h => by
    rw [List.lookup_cons] at h
    cases hc : m == f with
    | true =>
      rw [hc] at h
      cases h
      have : m = f := by simpa using hc
      subst this
      exact ⟨x, by rw [List.lookup_cons]; simp, a⟩
    | false =>
      rw [hc] at h
      have : (Str.ofString m == Str.ofString f) = false := by
        rw [beq_eq_false_iff_ne]
        intro z
        rw [ofString_inj z] at hc
        simp at hc
      obtain ⟨y, h1, h2⟩ := repF_some r h
      exact ⟨y, by rw [List.lookup_cons, this]; exact h1, h2⟩
theorem sE_fld {f : String} (ha : PE X a (tO X.K X.mg W T cal mkc ea)) (hf : ∀ c, T.fld c f = true → Cls X.K (GH.clsA X.mg (Str.ofString c)) ∧ NoAttr X.K (GH.clsA X.mg (Str.ofString c)) (Str.ofString f)) (hb : attributeBase a (Str.ofString f) X.env (eval a X.env) = eval a X.env) : PE X (.Attribute a (Str.ofString f) pos) (tE X.K X.mg W T cal mkc (.fld ea f)) := by
  refine (pe_fld ha hb).imp fun σ H Q q => ?_
  obtain ⟨G, Z, F, ρ, A, q⟩ := q
  refine ⟨G, Z, F, ρ, A, q.bnd.imp fun F1 H1 ρ1 x A1 e1 q1 vx rx => ?_⟩
  obtain ⟨r, hr, q3⟩ := q1.lift
  obtain ⟨z, hr1, rfl⟩ := Option.map_eq_some_iff.mp hr
  obtain ⟨u, hu, hr2⟩ := Option.bind_eq_some_iff.mp hr1
  have rb := OpdR.read A1 rx hu
  cases rb with
  | obj s1 r1 =>
    simp only at hr2
    split at hr2
    · rename_i hc
      obtain ⟨y, g1, g2⟩ := repF_some r1 hr2
      exact ⟨_, _, _, _, y, rfl, s1, (hf _ hc).1, (hf _ hc).2, g1, Aft.pur q3 A1 y g2⟩
    · cases hr2
  | _ => cases hr2
structure PropAt (K : PySem.W.Frag) (mg : Str → Option Value) (c p f : String) : Prop where
  ex : ∃ (pa g : Addr) (fd : FuncData), Cls K (GH.clsA mg (Str.ofString c)) ∧ PropOf K (GH.clsA mg (Str.ofString c)) (Str.ofString p) pa g ∧ (∀ (P : Program) (w : World) (base : Heap), FnOk P w K mg base CX0 1 g fd ["self"] (getSp (GH.clsA mg (Str.ofString c)) (Str.ofString f))) ∧ Binds K fd ["self"] []
theorem sE_prp {c p f : String} (hr : Room (kr + 2) X.A) (ha : PE X a (tO X.K X.mg W T cal mkc ea)) (hp : T.prp c p f = true → PropAt X.K X.mg c p f) (hT : T.prp c p f = true) (hb : attributeBase a (Str.ofString p) X.env (eval a X.env) = eval a X.env) : PE X (.Attribute a (Str.ofString p) pos) (tE X.K X.mg W T cal mkc (.prp c p f ea)) := by
  obtain ⟨pa, g, fd, cl, po, fn, bi⟩ := (hp hT).ex
  refine (pe_prop ha cl po (fn _ _ _) (hr.mono (by omega)) bi .nil pass0 hb).imp fun σ H Q q => ?_
  obtain ⟨G, Z, F, ρ, A, q⟩ := q
  refine ⟨G, Z, F, ρ, A, q.bnd.imp fun F1 H1 ρ1 x A1 e1 q1 vx rx => ?_⟩
  obtain ⟨r, hr, q3⟩ := q1.lift
  obtain ⟨z, hr1, rfl⟩ := Option.map_eq_some_iff.mp hr
  obtain ⟨u, hu, hr2⟩ := Option.bind_eq_some_iff.mp hr1
  have rb := OpdR.read A1 rx hu
  cases rb with
  | obj s1 r1 =>
    simp only at hr2
    split at hr2
    · rename_i hc
      obtain ⟨rfl, _⟩ := hc
      obtain ⟨y, g1, g2⟩ := repF_some r1 hr2
      exact ⟨_, _, _, rfl, s1, _, _, _, y, rfl, s1, g1, Aft.pur q3 A1 y g2⟩
    · cases hr2
  | _ => cases hr2
theorem isObj_at {G Z F : Hp} {σ : L2.St} {H : Hp} {ρ : Ro} {x : V} {r : Arg} {c m : String} (A : Abs X.K X.mg G Z F σ H ρ) (h : AtA X.K X.mg G F σ H ρ x r) (ho : r.isObj ρ c m = true) : ∃ a dx fs, x = .ref a ∧ H a = some (.ins (GH.clsA X.mg (Str.ofString c)) dx fs) ∧ fs.lookup (Str.ofString m) = none := by
  cases r with
  | nw v => cases ho
  | io i =>
    simp only [Arg.isObj, ownAt] at ho
    cases hw : ρ[i]? with
    | none => rw [hw] at ho; cases ho
    | some s =>
      rw [hw] at ho
      cases s with
      | un => cases ho
      | fz v => cases ho
      | ow v =>
        obtain ⟨p, e, _, o⟩ := A.ow i v hw
        have h : σ[i]? = some (some x) := h
        rw [e] at h; cases h
        cases o with
        | obj n g r =>
          simp only [Bool.and_eq_true, beq_iff_eq, Option.isNone_iff_eq_none] at ho
          obtain ⟨rfl, h2⟩ := ho
          exact ⟨p, _, _, rfl, g, repF_none r h2⟩
        | _ => cases ho
  | va v =>
    have h : Rep X.K X.mg F x v := h
    cases h with
    | obj g r =>
      simp only [Arg.isObj, Bool.and_eq_true, beq_iff_eq, Option.isNone_iff_eq_none] at ho
      obtain ⟨rfl, h2⟩ := ho
      exact ⟨_, _, _, rfl, A.sub _ _ g, repF_none r h2⟩
    | _ => cases ho
theorem sE_mth {d : Def} {fa : Addr} {fd : FuncData} {pS : List Str} {n : Nat} {c m f : String} {o : Expr} {apos : Pos} {es : List Expr} {eo : Ex} {xs : List Ex} {k : Nat} {pl : Sem Bool} (F : FnE X.prog X.w X.K X.mg X.base k fa fd pS (spF X.K X.mg cal n f)) (gd : X.A.guards = some []) (hr : Room k X.A) (tk : Takes X W)
    (hb : ∀ (s : Shared) (us : List Value), us.length = pS.length → BindsTo s fd ⟨us, []⟩ (pS.zip us)) (cl : Cls X.K (GH.clsA X.mg (Str.ofString c))) (hme : Meth X.K (GH.clsA X.mg (Str.ofString c)) (Str.ofString m) fa) (hd : T.fn f = some d) (hn : ∀ ss o, cal f ss = some o → ss.length = n)
    (ho : PE X o (tArg X W T cal mkc (d.io.getD 0 false) eo)) (ha : PA X (e :: es) (tArgs X W T cal mkc (d.io.drop 1) xs))
    (hst : starEach (e :: es) X.env = (false, eval e X.env) :: starEach es X.env) (hpl : (backTo pos (starEach es X.env)).any (·.1) = false)
    (ht : eval (.Call (.Attribute o (Str.ofString m) apos) (e :: es) [] pos) X.env = (do
      let ov ← eval o X.env
      standAt apos.atName
      let (f, first) ← holding [ov] (getMethod ov (Str.ofString m) pl)
      callWith pos f first (backTo pos (starEach (e :: es) X.env)) (backToKw pos (keywordEach [] X.env)))) :
    PE X (.Call (.Attribute o (Str.ofString m) apos) (e :: es) [] pos) (tE X.K X.mg W T cal mkc (.mth f c m eo xs)) := by
  refine ⟨fun pins s σ H Q I h => ?_⟩
  obtain ⟨G, Z, F0, ρ, A, q⟩ := h
  have e1 : evE T cal mkc (.mth f c m eo xs) ρ = EV.bnd (argOf (d.io.getD 0 false) eo (evE T cal mkc eo) ρ) fun r ρ0 => if !r.isObj ρ0 c m then none else EV.bnd (evAs T cal mkc (d.io.drop 1) xs ρ0) fun as ρ1 => callF cal d.ps f [] (r :: as) ρ1 := by
    simp only [evE, hd]
  rw [e1] at q
  refine PySem.W.methodCall_KW (pl := pl) (thn (ho.run pins s σ H (fun x H1 => ∃ a dx fs, x = .ref a ∧ H1 a = some (.ins (GH.clsA X.mg (Str.ofString c)) dx fs) ∧ fs.lookup (Str.ofString m) = none ∧ tArgs X W T cal mkc (d.io.drop 1) xs σ H1 fun vs H2 => spF X.K X.mg cal n f (x :: vs) H2 Q fun c d H' => W c d σ H') I
    ⟨G, Z, F0, ρ, A, q.bnd.imp fun F1 H1 ρ1 r A1 e1 q1 x rx => ?_⟩) fun u s1 ⟨x, H1, I1, rx, a, dx, fs, ex, ea, l, q⟩ => ?_) ht
  · split at q1
    · exact q1.elim
    · rename_i hc
      have hc : r.isObj ρ1 c m = true := by simpa using hc
      obtain ⟨a, dx, fs, rfl, h1, h2⟩ := isObj_at A1 rx hc
      refine ⟨a, dx, fs, rfl, h1, h2, G, Z, F1, ρ1, A1, q1.bnd.imp fun F2 H2 ρ2 as A2 e2 q2 ys rys => ?_⟩
      refine call_at A2 (.cons (rx.mono e2 fun v z => ?_) rys) (fun _ _ _ _ c => c) hn q2
      rw [z] at hc; cases hc
  · subst ex
    obtain rfl : u = Value.ref a := rx
    refine getmeth_ok I1 ea cl hme l ?_
    refine PySem.W.callWith_K (first := [.ref a]) (h₀ := X.base) I.ok.mod.kin hme.kp (thn (ha.run pos pins s1 σ H1 _ I1 q) fun us s2 ⟨vs, H2, I2, r, q2⟩ => ⟨I2.kIn, ?_⟩) hst hpl
    exact run_fnE (us := .ref a :: us) (vs := .ref a :: vs) (args := ⟨.ref a :: us, []⟩) F gd hr tk (hb s2 (.ref a :: us)) I2 (.cons rfl r) q2
theorem Abs.grow {G Z F F' : Hp} {σ : L2.St} {H H' : Hp} {ρ : Ro} (A : Abs X.K X.mg G Z F σ H ρ) (up : Ex' F F') (sub : Ex' F' H') (kp : ∀ a o, H a = some o → (∀ ps, o ≠ .tbl ps) → H' a = some o) (nw : ∀ a o, F' a = some o → F a = some o ∨ Nw H a ∨ ∃ xs, o = .tup xs) (tb : TBs X.K X.mg H') (nf : NoT F') : Abs X.K X.mg G Z F' σ H' ρ := by
  refine ⟨sub, fun a o h => kp a o (A.bg a o h) fun ps z => A.x.ng a ps (by rw [h, z]), A.f0.trans up, fun a o h => ?_, A.len, fun i v h => ?_, fun i v h => ?_, A.ap, tb, nf, A.x.ng⟩
  · rcases nw a o h with q | q | q
    · exact A.nw a o q
    · refine .inr (.inl ?_)
      cases z : G a with
      | none => rfl
      | some u =>
        rcases q with q | ⟨ps, q⟩
        · rw [A.bg a u z] at q; cases q
        · rw [A.bg a u z] at q; cases q; exact absurd z (A.x.ng a ps)
    · exact .inr (.inr q)
  · obtain ⟨x, h1, h2⟩ := A.fz i v h
    exact ⟨x, h1, h2.mono up⟩
  · obtain ⟨a, h1, h2, h3⟩ := A.ow i v h
    obtain ⟨u, hu, hnt⟩ := h3.at
    obtain ⟨u', hu', ht', _⟩ := h3.th
    rw [hu] at hu'; cases hu'
    have hH : H' a = H a := (kp a u hu ht').trans hu.symm
    refine ⟨a, h1, h2, h3.keep up ?_ hH⟩
    cases z : F' a with
    | none => rfl
    | some o =>
      rcases nw a o z with q | q | ⟨ys, rfl⟩
      · rw [h3.no] at q; cases q
      · rcases q with q | ⟨ps, q⟩
        · rw [hu] at q; cases q
        · rw [hu] at q; cases q; exact absurd rfl (ht' ps)
      · have y := sub a _ z
        rw [hH, hu] at y
        cases y
        exact absurd rfl (hnt ys)
theorem Abs.freshN {G Z F : Hp} {σ : L2.St} {H : Hp} {ρ : Ro} {x : Addr} (A : Abs X.K X.mg G Z F σ H ρ) (h : Nw H x) : F x = none ∧ G x = none ∧ Lone σ ρ x := by
  refine ⟨?_, ?_, fun i w q z => ?_⟩
  · cases z : F x with
    | none => rfl
    | some u => exact (h.not (A.sub x u z) fun ps y => A.x.nf x ps (by rw [z, y])).elim
  · cases z : G x with
    | none => rfl
    | some u => exact (h.not (A.bg x u z) fun ps y => A.x.ng x ps (by rw [z, y])).elim
  · obtain ⟨a, h1, _, o⟩ := A.ow i w q
    rw [z] at h1; cases h1
    obtain ⟨u, hu, ht, _⟩ := o.th
    exact h.not hu ht
theorem Abs.fresh {G Z F : Hp} {σ : L2.St} {H : Hp} {ρ : Ro} {x : Addr} (A : Abs X.K X.mg G Z F σ H ρ) (h : H x = none) : F x = none ∧ G x = none ∧ Lone σ ρ x := (A.newO (o := .lst []) h).2
theorem guards_make {A : Around} {C : Addr} {us : List Value} {kw : List (Str × Value)} : (A.under (.builtin "type.__call__" ⟨.ref C :: us, kw⟩)).guards = A.guards := by
  first | rfl | simp [Around.under, Code.weight, Code.isCreation, Code.isGuard, Code.isCaller, Code.frames, Code.isFrame, guardIds]
theorem run_makeE {k : Nat} {fa C : Addr} {fd : FuncData} {pS : List Str} {sp : Sp} {pins : List (Addr × Obj)} {σ : L2.St} {H : Hp} {s : Shared} {Q : VK} {us ws : List Value} {vs : List V} {kw : List (Str × Value)} (M : Mk X.K C fa) (F : FnE X.prog X.w X.K X.mg X.base k fa fd pS sp) (gd : X.A.guards = some []) (hr : Room (k + 1) X.A) (tk : Takes X W)
    (hb : ∀ (s : Shared) (x : Value), (x :: ws).length = pS.length → BindsTo s fd ⟨x :: us, kw⟩ (pS.zip (x :: ws))) (I : Inv X pins σ H s) (r : Vals vs ws)
    (h : ∀ x dx, H x = none → H dx = none → dx ≠ x → sp (.ref x :: vs) (upd (upd H dx (.own x)) x (.ins C dx [])) (fun v H2 => v = .non ∧ Q (.ref x) H2) fun c d H' => W c d σ H') :
    wpAny (model X.prog X.w) X.A (call (.ref C) us kw) (EP X pins σ Q) X.xe s := by
  have hq := h (s.heap.objs.size + 1) s.heap.objs.size (I.hok.fresh (Nat.le_succ _)) (I.hok.fresh (Nat.le_refl _)) (Nat.ne_of_lt (Nat.lt_succ_self _))
  have I2 := Inv.made (C := C) I
  have r2 : Vals (V.ref (s.heap.objs.size + 1) :: vs) (Value.ref (s.heap.objs.size + 1) :: ws) := .cons rfl r
  have hl : (Value.ref (s.heap.objs.size + 1) :: ws).length = pS.length := by
    have e := r2.length
    rw [F.ln _ _ _ _ hq] at e
    exact e.symm
  refine wpAny_call (make_map (f := fa) I.kIn M.makes M.init (beq_iff_eq.mp M.fn) (codeAny_mono (F.go _ X.stack _ _ ⟨Value.ref (s.heap.objs.size + 1) :: us, kw⟩ (Value.ref (s.heap.objs.size + 1) :: ws) _ _ _ (by rw [guards_make]; exact gd) (hr.make C us kw)
    (I2.env0.make C us kw) (hb _ (Value.ref (s.heap.objs.size + 1)) hl) r2 hq) fun r s' hq' => ?_))
  cases r with
  | error e => exact tk e s' (XE.of_call I2 (fun _ _ _ h => h) hq')
  | ok fl =>
    cases fl with
    | ret u =>
      obtain ⟨v, H', I3, rv, ev, q3⟩ := I2.after hq'
      subst ev
      exact ⟨rv, ⟨V.ref (s.heap.objs.size + 1), H', I3, rfl, q3⟩⟩
    | next => exact False.elim hq'
    | brk => exact False.elim hq'
    | cont => exact False.elim hq'
theorem args_fz {F H : Hp} : ∀ {xs : List V} {vs : List Val}, Reps X.K X.mg F xs vs → Paired (ArgR X.K X.mg F H) xs (vs.map .fz) ∧ ioOf xs (vs.map .fz) = []
  | _, _, .nil => ⟨.nil, rfl⟩
  | _, _, .cons (x := x) a r => by
    obtain ⟨h1, h2⟩ := args_fz (H := H) r
    refine ⟨.cons a h1, ?_⟩
    rw [List.map_cons]
    cases x <;> exact h2
theorem make_at {G Z F : Hp} {σ : L2.St} {H : Hp} {ρ : Ro} {xs : List V} {vs : List Val} {n : Nat} {c f : String} {Q : VK} {C : Hp → Hp → Ro → Slot → Prop} {x dx : Addr} (A : Abs X.K X.mg G Z F σ H ρ) (P : Reps X.K X.mg F xs vs)
    (hC : ∀ F' H' ρ' r, C F' H' ρ' r → ∀ x, ResR X.K X.mg G F' σ H' ρ' x r → Q x H') (hn : ∀ ss o, mkc f ss = some o → ss.length = n) (hx : H x = none) (hdx : H dx = none) (hne : dx ≠ x)
    (h : Aft X.K X.mg W G Z F σ (mkEnd (mkc f (.ow (.obj c []) :: vs.map .fz)) ρ) C) :
    spF X.K X.mg mkc n f (.ref x :: xs) (upd (upd H dx (.own x)) x (.ins (GH.clsA X.mg (Str.ofString c)) dx [])) (fun v H2 => v = .non ∧ Q (.ref x) H2) fun c d H' => W c d σ H' := by
  obtain ⟨hF, hG, hL⟩ := A.fresh hx
  have kp1 : Ex' H (upd (upd H dx (.own x)) x (.ins (GH.clsA X.mg (Str.ofString c)) dx [])) := fun a o h => by
    rw [upd_ne (ne_of_none h hx), upd_ne (ne_of_none h hdx)]; exact h
  obtain ⟨q1, q2⟩ := args_fz (H := upd (upd H dx (.own x)) x (.ins (GH.clsA X.mg (Str.ofString c)) dx [])) P
  have io : ioOf (.ref x :: xs) (.ow (.obj c []) :: vs.map .fz) = [x] := by
    show x :: ioOf xs (vs.map .fz) = [x]
    rw [q2]
  cases hm : mkc f (.ow (.obj c []) :: vs.map .fz) with
  | none => rw [hm] at h; exact h.elim
  | some o =>
    refine ⟨F, .ow (.obj c []) :: vs.map .fz, hn _ _ hm, A.sub.trans kp1, .cons ⟨x, rfl, .obj hF upd_same .nil⟩ q1, by rw [io]; simp, ⟨A.x.nf, A.x.tb.up kp1⟩, ?_⟩
    rw [hm] at h ⊢
    have gr : ∀ {F' H' : Hp} {fin : List Slot}, EndR X.K X.mg F (upd (upd H dx (.own x)) x (.ins (GH.clsA X.mg (Str.ofString c)) dx [])) (.ref x :: xs) (.ow (.obj c []) :: vs.map .fz) F' H' fin → Abs X.K X.mg G Z F' σ H' ρ := fun {F' H' fin} E => by
      refine A.grow E.up E.sub (fun a o h ht => E.kp a o (kp1 a o h) ?_ ht) (fun a o h => ?_) E.tb E.nf
      · rw [io]; intro z
        have z : a = x := by simpa using z
        rw [z, hx] at h; cases h
      · rcases E.nw a o h with q | q | q | q
        · exact .inl q
        · refine .inr (.inl ?_)
          cases z : H a with
          | none => exact .inl z
          | some u =>
            rcases q with q | ⟨ps, q⟩
            · rw [kp1 a u z] at q; cases q
            · rw [kp1 a u z] at q; cases q
              exact .inr ⟨ps, z⟩
        · rw [io] at q
          have z : a = x := by simpa using q
          exact .inr (.inl (by rw [z]; exact .inl hx))
        · exact .inr (.inr q)
    cases o with
    | ex e fin =>
      intro F' H' d E rd
      exact h F' H' d (gr E) E.up rd
    | ok r fin =>
      cases r with
      | un => exact h.elim
      | ow v => exact h.elim
      | fz v =>
        cases v with
        | non =>
          cases fin with
          | nil => exact h.elim
          | cons q fin =>
            cases q with
            | un => exact h.elim
            | fz v => exact h.elim
            | ow v =>
              cases v with
              | obj c' fs =>
                intro F' H' y E ry
                cases ry
                have o := E.io 0 x _ _ rfl rfl rfl
                have A' := gr E
                exact ⟨rfl, hC F' H' ρ _ (h F' H' A' E.up) _ ⟨x, rfl, hG, o, fun i w hw hs => hL i w hw hs⟩⟩
              | _ => exact h.elim
        | _ => exact h.elim
theorem sE_mk {d : Def} {fa : Addr} {fd : FuncData} {pS : List Str} {n : Nat} {c f : String} {p : Pos} {es : List Expr} {xs : List Ex} {k : Nat} (M : Mk X.K (GH.clsA X.mg (Str.ofString c)) fa) (F : FnE X.prog X.w X.K X.mg X.base k fa fd pS (spF X.K X.mg mkc n f)) (gd : X.A.guards = some []) (hr : Room (k + 1) X.A) (tk : Takes X W) (hf : f = c ++ ".__init__")
    (hb : ∀ (s : Shared) (us : List Value), us.length = pS.length → BindsTo s fd ⟨us, []⟩ (pS.zip us)) (hg : Gl X (Str.ofString c)) (hm : X.mg (Str.ofString c) = some (.ref (GH.clsA X.mg (Str.ofString c)))) (hd : T.fn f = some d) (hn : ∀ ss o, mkc f ss = some o → ss.length = n)
    (ha : PA X (e :: es) (tAs X.K X.mg W T cal mkc xs)) (hdb : (Str.ofString c == ("__debug__" : Str)) = false) (he : starEach (e :: es) X.env = (false, eval e X.env) :: starEach es X.env) (hpl : (backTo pos (starEach es X.env)).any (·.1) = false) :
    PE X (.Call (.Name (Str.ofString c) p) (e :: es) [] pos) (tE X.K X.mg W T cal mkc (.mk c xs [])) := by
  subst hf
  refine ⟨fun pins s σ H Q I h => ?_⟩
  obtain ⟨G, Z, F0, ρ, A, q⟩ := h
  have e1 : evE T cal mkc (.mk c xs []) ρ = EV.bnd (evEs T cal mkc xs ρ) fun vs ρ1 => mkEnd (mkc (c ++ ".__init__") (.ow (.obj c []) :: vs.map .fz)) ρ1 := by
    simp [evE, hd]
  rw [e1] at q
  refine wpAny_Call_Name_kw (ld_glob I hg hm ?_ hdb)
  refine PySem.W.callWith_K (h₀ := X.base) I.ok.mod.kin M.kp (thn (ha.run pos pins s σ H (fun vs H1 => ∀ x dx, H1 x = none → H1 dx = none → dx ≠ x → spF X.K X.mg mkc n (c ++ ".__init__") (.ref x :: vs) (upd (upd H1 dx (.own x)) x (.ins (GH.clsA X.mg (Str.ofString c)) dx [])) (fun v H2 => v = .non ∧ Q (.ref x) H2) fun c d H' => W c d σ H') I
    ⟨G, Z, F0, ρ, A, q.bnd.imp fun F1 H1 ρ1 vs A1 e1 q1 ys rys x dx hx hdx hne => make_at A1 rys (fun _ _ _ _ c => c) hn hx hdx hne q1⟩) fun us s1 ⟨vs, H1, I1, r, q⟩ => ⟨I1.kIn, ?_⟩) he hpl
  exact run_makeE M F gd hr tk (fun s x hl => hb s (x :: us) hl) I1 r q
end
end EV
namespace EV
open PySem PySem.Spec PyProof.Rows L2
structure ItR (K : PySem.W.Frag) (mg : Str → Option Value) (F : Hp) (J : It) (vs : List Val) : Prop where
  goes : ∀ i H, i < vs.length → Ex' F H → J.go i H
  stops : ∀ H, Ex' F H → J.stop vs.length H
  yields : ∀ (i : Nat) F' H x H' v, vs[i]? = some v → Ex' F F' → Ex' F' H → J.yld i H x H' → NewR K mg F' H x H' (.fz v)
section
variable {K : PySem.W.Frag} {mg : Str → Option Value} {F : Hp}
theorem itr_list {a : Addr} {xs : List V} {vs : List Val} (s : F a = some (.lst xs)) (r : Reps K mg F xs vs) : ItR K mg F (Itl K a) vs where
  goes := fun i H hi e => by
    have hl := r.length
    exact ⟨xs, xs[i]'(by omega), .inl (.inl (e _ _ s)), List.getElem?_eq_getElem (by omega)⟩
  stops := fun H e => ⟨xs, .inl (.inl (e _ _ s)), by rw [r.length]; exact Nat.le_refl _⟩
  yields := fun i F' H x H' v hv e1 e2 y => by
    obtain ⟨rfl, y⟩ := y
    have h := y xs (.inl (.inl ((e1.trans e2) _ _ s)))
    obtain ⟨w, h1, h2⟩ := r.get hv
    rw [h] at h1; cases h1
    exact newR (h2.mono e1)
theorem itr_tup {a : Addr} {xs : List V} {vs : List Val} (s : F a = some (.tup xs)) (r : Reps K mg F xs vs) : ItR K mg F (Itt K a) vs where
  goes := fun i H hi e => by
    have hl := r.length
    exact ⟨xs, xs[i]'(by omega), .inl (.inl (e _ _ s)), List.getElem?_eq_getElem (by omega)⟩
  stops := fun H e => ⟨xs, .inl (.inl (e _ _ s)), by rw [r.length]; exact Nat.le_refl _⟩
  yields := fun i F' H x H' v hv e1 e2 y => by
    obtain ⟨rfl, y⟩ := y
    have h := y xs (.inl (.inl ((e1.trans e2) _ _ s)))
    obtain ⟨w, h1, h2⟩ := r.get hv
    rw [h] at h1; cases h1
    exact newR (h2.mono e1)
theorem itr_str (l : List Nat) : ItR K mg F (Its (toS l)) (l.map fun c => Val.str [c]) where
  goes := fun i H hi e => by simpa [Its, toS] using hi
  stops := fun H e => by simp [Its, toS]
  yields := fun i F' H x H' v hv e1 e2 y => by
    obtain ⟨rfl, c, hc, rfl⟩ := y
    rw [List.getElem?_map] at hv
    have : l[i]? = some c := by simpa [toS] using hc
    rw [this] at hv; cases hv
    exact newR (.str [c])
theorem itr_keys {d : Addr} {o : Obj} {ks : List (Key × V)} {kvs : List (Val × Val)} (s : F d = some (.frz o (.dK ks))) (r : RepK K mg F ks kvs) : ItR K mg F (Itk d o ks) (kvs.map (·.1)) where
  goes := fun i H hi e => ⟨e _ _ s, by rw [r.length]; simpa using hi⟩
  stops := fun H e => ⟨e _ _ s, by rw [r.length]; simp⟩
  yields := fun i F' H x H' v hv e1 e2 y => by
    obtain ⟨rfl, k, w, hk, rfl⟩ := y
    obtain ⟨z, h1, h2⟩ := (repK_keys r).get hv
    rw [List.getElem?_map, hk] at h1; cases h1
    exact newR (h2.mono e1)
theorem key_reps (F2 : Hp) : ∀ js : List Key, Reps K mg F2 (js.map kV) (js.map keyV)
  | [] => .nil
  | j :: js => by
    refine .cons ?_ (key_reps F2 js)
    cases j with
    | inl i => exact .int i
    | inr x => exact (show Rep K mg F2 (.str x) (.str x.cps.toList) from (by simpa [toS] using Rep.str (K := K) (mg := mg) (F := F2) x.cps.toList))
theorem repT_key : ∀ {ks : List (List Key × V)} {kvs : List (Val × Val)} {i : Nat} {k : List Key} {x : V}, RepT K mg F ks kvs → ks[i]? = some (k, x) → ∃ v, kvs[i]? = some (.tup (k.map keyV), v) ∧ Rep K mg F x v
  | _, _, _, _, _, .nil, h => by simp at h
  | _, _, 0, _, _, .cons a r, h => by simp at h; obtain ⟨rfl, rfl⟩ := h; exact ⟨_, rfl, a⟩
  | _, _, i + 1, k, x, .cons a r, h => by
    obtain ⟨v, h1, h2⟩ := repT_key (i := i) r (by simpa using h)
    exact ⟨v, by simpa using h1, h2⟩
theorem newTS {F' H : Hp} {q : Addr} {xs : List V} {vs : List Val} (e : Ex' F' H) (h : H q = some (.tup xs)) (r : Reps K mg F' xs vs) : NewR K mg F' H (.ref q) H (.fz (.tup vs)) := by
  cases w : F' q with
  | some o =>
    have z := e q o w
    rw [h] at z; cases z
    exact newR (.tup w r)
  | none =>
    have ex : Ex' F' (upd F' q (.tup xs)) := Ex'.new w
    refine ⟨upd F' q (.tup xs), ⟨ex, fun c o hq => ?_⟩, .inl ⟨rfl, .tup upd_same (r.mono ex)⟩⟩
    by_cases hc : c = q
    · subst hc; rw [upd_same] at hq; cases hq; exact .inr ⟨h, _, rfl⟩
    · rw [upd_ne hc] at hq; exact .inl hq
theorem itr_keysT {d : Addr} {o : Obj} {ks : List (List Key × V)} {kvs : List (Val × Val)} (s : F d = some (.frz o (.dT ks))) (r : RepT K mg F ks kvs) : ItR K mg F (Itkt d o ks) (kvs.map (·.1)) where
  goes := fun i H hi e => ⟨e _ _ s, by rw [r.length]; simpa using hi⟩
  stops := fun H e => ⟨e _ _ s, by rw [r.length]; simp⟩
  yields := fun i F' H x H' v hv e1 e2 y => by
    obtain ⟨rfl, k, w, q, hk, rfl, hq⟩ := y
    obtain ⟨z, h1, h2⟩ := repT_key r hk
    rw [List.getElem?_map, h1] at hv; cases hv
    exact newTS e2 hq (key_reps F' k)
theorem rng_get {a b : Int} {i : Nat} {v : Val} (h : (rng a b)[i]? = some v) : v = .int (a + (i : Nat)) := by
  unfold rng at h
  rw [List.getElem?_map] at h
  cases q : (List.range (b - a).toNat)[i]? with
  | none => rw [q] at h; cases h
  | some j =>
    rw [q] at h; cases h
    have := List.getElem?_eq_some_iff.mp q
    obtain ⟨h1, h2⟩ := this
    rw [List.getElem_range] at h2
    rw [h2]
theorem itr_rng (a b : Int) : ItR K mg F (Itr a (b - a).toNat) (rng a b) where
  goes := fun i H hi e => by simpa [Itr, rng] using hi
  stops := fun H e => by show (b - a).toNat ≤ (rng a b).length; simp [rng]
  yields := fun i F' H x H' v hv e1 e2 y => by
    obtain ⟨rfl, rfl⟩ := y
    rw [rng_get hv]
    exact newI _
theorem src_of {H : Hp} {x : V} {v : Val} {vs : List Val} (r : Rep K mg F x v) (h : seqOf v = some vs) : ∃ s : GH.Src, x = s.val ∧ (∀ H, Ex' F H → s.At K H) ∧ Reps K mg F s.items vs := by
  cases r with
  | str l =>
    simp only [seqOf] at h; cases h
    refine ⟨.txt (toS l), rfl, fun _ _ => trivial, ?_⟩
    have : (GH.Src.txt (toS l)).items = l.map fun c => V.str ⟨#[c]⟩ := by simp [GH.Src.items, toS]
    rw [this]
    exact reps_sign l
  | @tup a xs ws s r => simp only [seqOf] at h; cases h; exact ⟨.tup a xs, rfl, fun _ e => .inl (.inl (e _ _ s)), r⟩
  | _ => simp only [seqOf] at h; cases h
theorem enumL_get : ∀ (xs : List Val) (n i : Nat), (enumL n xs)[i]? = (xs[i]?).map fun x => .tup [.int ((n + i : Nat) : Int), x]
  | [], _, _ => by simp [enumL]
  | x :: r, n, 0 => by simp [enumL]
  | x :: r, n, i + 1 => by
    simp only [enumL, List.getElem?_cons_succ]
    rw [enumL_get r (n + 1) i]
    congr 1
    funext y
    have : n + 1 + i = n + (i + 1) := by omega
    rw [this]
theorem enumL_len : ∀ (xs : List Val) (n : Nat), (enumL n xs).length = xs.length
  | [], _ => rfl
  | x :: r, n => by simp [enumL, enumL_len r]
theorem itr_enum {s : GH.Src} {vs : List Val} (at_ : ∀ H, Ex' F H → s.At K H) (r : Reps K mg F s.items vs) : ItR K mg F (GH.ItE K s) (enumL 0 vs) where
  goes := fun i H hi e => ⟨at_ H e, by rw [r.length]; rw [enumL_len] at hi; exact hi⟩
  stops := fun H e => ⟨at_ H e, by rw [enumL_len, r.length]⟩
  yields := fun i F' H x H' v hv e1 e2 y => by
    obtain ⟨t, a, b, rfl, ht, rfl, h1, h2⟩ := y
    cases h1
    rw [enumL_get] at hv
    obtain ⟨w, h3, h4⟩ := r.get' h2
    rw [h3] at hv; cases hv
    rw [Nat.zero_add]
    exact newT ht (.cons (.int _) (.cons (h4.mono e1) .nil))
theorem zipL_get : ∀ (xs ys : List Val) (i : Nat), (zipL xs ys)[i]? = match xs[i]?, ys[i]? with
    | some x, some y => some (.tup [x, y])
    | _, _ => none
  | [], ys, i => by simp [zipL]
  | x :: r, [], i => by
    simp only [zipL, List.getElem?_nil]
    cases (x :: r)[i]? <;> rfl
  | x :: r, y :: s, 0 => by simp [zipL]
  | x :: r, y :: s, i + 1 => by simp only [zipL, List.getElem?_cons_succ]; exact zipL_get r s i
theorem zipL_len : ∀ (xs ys : List Val), (zipL xs ys).length = min xs.length ys.length
  | [], ys => by simp [zipL]
  | x :: r, [] => by simp [zipL]
  | x :: r, y :: s => by simp [zipL, zipL_len r s] <;> omega
theorem itr_zip {s t : GH.Src} {vs ws : List Val} (a1 : ∀ H, Ex' F H → s.At K H) (r1 : Reps K mg F s.items vs) (a2 : ∀ H, Ex' F H → t.At K H) (r2 : Reps K mg F t.items ws) : ItR K mg F (GH.ItZ K s t) (zipL vs ws) where
  goes := fun i H hi e => by
    rw [zipL_len] at hi
    have h1 := r1.length
    have h2 := r2.length
    exact ⟨a1 H e, a2 H e, by omega, by omega⟩
  stops := fun H e => ⟨a1 H e, a2 H e, by rw [zipL_len, r1.length, r2.length]⟩
  yields := fun i F' H x H' v hv e1 e2 y => by
    obtain ⟨q, a, b, rfl, ht, rfl, h1, h2⟩ := y
    rw [zipL_get] at hv
    obtain ⟨w, h3, h4⟩ := r1.get' h1
    obtain ⟨z, h5, h6⟩ := r2.get' h2
    rw [h3, h5] at hv; cases hv
    exact newT ht (.cons (h4.mono e1) (.cons (h6.mono e1) .nil))
end
section
variable {X : Cx} {W : WX} {T : Tab} {cal mkc : Cal} {a b c e tg : Expr} {ea eb ec : Ex} {pos p : Pos} {kr : Nat}
def tIt (X : Cx) (W : WX) (T : Tab) (cal mkc : Cal) (it : Iter) : TI := fun σ H R => ∃ G Z F ρ, Abs X.K X.mg G Z F σ H ρ ∧ Aft X.K X.mg W G Z F σ (evIt T cal mkc it ρ) fun F' H' ρ' vs => ∀ J, ItR X.K X.mg F' J vs → R J H'
theorem _root_.L2.PI.imp {iter : Expr} {t t' : TI} (h : PI X tg iter t) (k : ∀ σ H R, t' σ H R → t σ H R) : PI X tg iter t' := ⟨fun pins s σ H R I q => h.run pins s σ H R I (k σ H R q)⟩
theorem ev_itV {it : Iter} {ea : Ex} {g : Val → Option (List Val)} {ρ : Ro} (h : evIt T cal mkc it ρ = EV.bnd (evE T cal mkc ea ρ) fun r ρ1 => EV.bnd (fixv r ρ1) fun v ρ2 => EV.lift (g v) ρ2) : evIt T cal mkc it ρ = EV.bnd (EV.bnd (evE T cal mkc ea ρ) fixv) fun v ρ2 => EV.lift (g v) ρ2 := by
  rw [h, bnd_assoc]
theorem sI_seq (ha : PE X a (tE X.K X.mg W T cal mkc ea)) : PI X tg a (tIt X W T cal mkc (.seq ea)) := by
  have hv := pe_fix ha
  refine ⟨fun pins s σ H R I q => ?_⟩
  obtain ⟨G, Z, F, ρ, A, q⟩ := q
  rw [ev_itV (g := itemsF) rfl] at q
  refine (GH.pi_alt (GH.pi_alt (pi_list hv) (pi_tup hv)) (GH.pi_alt (pi_str hv) (pi_keys hv))).run pins s σ H R I ?_
  cases hm : EV.bnd (evE T cal mkc ea ρ) fixv with
  | none => rw [hm] at q; exact q.elim
  | some o =>
    rw [hm] at q
    cases o with
    | ex e ρ' =>
      refine .inl (.inl ⟨G, Z, F, ρ, A, ?_⟩)
      show Aft _ _ _ _ _ _ _ (EV.bnd (evE T cal mkc ea ρ) fixv) _
      rw [hm]
      exact q
    | ok v ρ' =>
      have q : Aft X.K X.mg W G Z F σ (EV.lift (itemsF v) ρ') _ := q
      obtain ⟨vs, hi, q⟩ := q.lift
      have fin : ∀ (C : V → Hp → Prop), (∀ F' H' x, Abs X.K X.mg G Z F' σ H' ρ' → Ex' F F' → Rep X.K X.mg F' x v → C x H') → tV X.K X.mg W T cal mkc ea σ H C := fun C h => by
        refine ⟨G, Z, F, ρ, A, ?_⟩
        show Aft _ _ _ _ _ _ _ (EV.bnd (evE T cal mkc ea ρ) fixv) _
        rw [hm]
        exact fun F' H' A' e' x rx => h F' H' x A' e' rx
      cases v with
      | lst ws =>
        simp only [itemsF] at hi; cases hi
        refine .inl (.inl (fin _ fun F' H' x A' e' rx => ?_))
        cases rx with
        | lst s1 r1 => exact ⟨_, rfl, ⟨_, .inl (.inl (A'.sub _ _ s1))⟩, (Aft.up q e') F' H' A' (Ex'.refl F') _ (itr_list s1 r1)⟩
      | tup ws =>
        simp only [itemsF] at hi; cases hi
        refine .inl (.inr (fin _ fun F' H' x A' e' rx => ?_))
        cases rx with
        | tup s1 r1 => exact ⟨_, rfl, ⟨_, .inl (.inl (A'.sub _ _ s1))⟩, (Aft.up q e') F' H' A' (Ex'.refl F') _ (itr_tup s1 r1)⟩
      | str l =>
        simp only [itemsF] at hi; cases hi
        refine .inr (.inl (fin _ fun F' H' x A' e' rx => ?_))
        cases rx
        exact ⟨toS l, rfl, (Aft.up q e') F' H' A' (Ex'.refl F') _ (itr_str l)⟩
      | dct kvs =>
        simp only [itemsF] at hi; cases hi
        refine .inr (.inr (fin _ fun F' H' x A' e' rx => ?_))
        cases rx with
        | dk s1 r1 => exact ⟨_, _, rfl, .inl ⟨_, A'.sub _ _ s1, (Aft.up q e') F' H' A' (Ex'.refl F') _ (itr_keys s1 r1)⟩⟩
        | dt s1 r1 => exact ⟨_, _, rfl, .inr ⟨_, A'.sub _ _ s1, (Aft.up q e') F' H' A' (Ex'.refl F') _ (itr_keysT s1 r1)⟩⟩
      | _ => simp only [itemsF] at hi; cases hi
theorem sI_enum {elts : List Expr} {kk : Nat} {tpos : Pos} (hg : Gl X "enumerate") (hm : X.mg "enumerate" = none) (ha : PE X a (tE X.K X.mg W T cal mkc ea)) (hs : starEach [a] X.env = (false, eval a X.env) :: starEach [] X.env) : PI X (.Tuple elts kk tpos) (.Call (.Name "enumerate" p) [a] [] pos) (tIt X W T cal mkc (.enum ea)) := by
  refine (GH.pi_enumG hg hm (pa_cons (pe_fix ha) pa_nil hs) (by rw [hs]; rfl)).imp fun σ H R q => ?_
  obtain ⟨G, Z, F, ρ, A, q⟩ := q
  rw [ev_itV (g := fun v => (seqOf v).map (enumL 0)) rfl] at q
  refine ⟨G, Z, F, ρ, A, q.bnd.imp fun F1 H1 ρ1 v A1 e1 q1 x rx => ?_⟩
  obtain ⟨vs, hi, q2⟩ := q1.lift
  obtain ⟨ws, hw, rfl⟩ := Option.map_eq_some_iff.mp hi
  obtain ⟨s, rfl, at_, r⟩ := src_of (H := H1) rx hw
  exact ⟨s, rfl, at_ H1 A1.sub, q2 F1 H1 A1 (Ex'.refl F1) _ (itr_enum at_ r)⟩
theorem sI_zip {elts : List Expr} {kk : Nat} {tpos : Pos} (hg : Gl X "zip") (hm : X.mg "zip" = none) (ha : PE X a (tE X.K X.mg W T cal mkc ea)) (hb : PE X b (tE X.K X.mg W T cal mkc eb)) (hs : starEach [a, b] X.env = (false, eval a X.env) :: starEach [b] X.env) (hs2 : starEach [b] X.env = (false, eval b X.env) :: starEach [] X.env) (hpl : (backTo pos (starEach [b] X.env)).any (·.1) = false) :
    PI X (.Tuple elts kk tpos) (.Call (.Name "zip" p) [a, b] [] pos) (tIt X W T cal mkc (.zip ea eb)) := by
  refine (GH.pi_zipG hg hm (pa_cons (pe_fix ha) (pa_cons (pe_fix hb) pa_nil hs2) hs) hs hpl).imp fun σ H R q => ?_
  obtain ⟨G, Z, F, ρ, A, q⟩ := q
  have e1 : evIt T cal mkc (.zip ea eb) ρ = EV.bnd (EV.bnd (evE T cal mkc ea ρ) fixv) fun u ρ2 => EV.bnd (EV.bnd (evE T cal mkc eb ρ2) fixv) fun w ρ4 => EV.lift ((seqOf u).bind fun xs => (seqOf w).map (zipL xs)) ρ4 := by
    rw [bnd_assoc]
    have : ∀ u ρ2, (EV.bnd (EV.bnd (evE T cal mkc eb ρ2) fixv) fun w ρ4 => EV.lift ((seqOf u).bind fun xs => (seqOf w).map (zipL xs)) ρ4) = EV.bnd (evE T cal mkc eb ρ2) fun q ρ3 => EV.bnd (fixv q ρ3) fun w ρ4 => EV.lift ((seqOf u).bind fun xs => (seqOf w).map (zipL xs)) ρ4 := fun u ρ2 => bnd_assoc _ _ _
    simp only [this]
    rfl
  rw [e1] at q
  refine ⟨G, Z, F, ρ, A, q.bnd.imp fun F1 H1 ρ1 v A1 e1 q1 x rx => ⟨G, Z, F1, ρ1, A1, q1.bnd.imp fun F2 H2 ρ2 w A2 e2 q2 y ry => ?_⟩⟩
  obtain ⟨vs, hi, q3⟩ := q2.lift
  obtain ⟨us, hu, hi⟩ := Option.bind_eq_some_iff.mp hi
  obtain ⟨ws, hw, rfl⟩ := Option.map_eq_some_iff.mp hi
  obtain ⟨s, rfl, at1, r1⟩ := src_of (H := H2) (rx.mono e2) hu
  obtain ⟨t, rfl, at2, r2⟩ := src_of (H := H2) ry hw
  exact ⟨s, t, rfl, at1 H2 A2.sub, at2 H2 A2.sub, q3 F2 H2 A2 (Ex'.refl F2) _ (itr_zip at1 r1 at2 r2)⟩
theorem sI_rng (hg : Gl X "range") (hm : X.mg "range" = none) (ha : PE X a (tE X.K X.mg W T cal mkc ea)) (hs : starEach [a] X.env = (false, eval a X.env) :: starEach [] X.env) : PI X tg (.Call (.Name "range" p) [a] [] pos) (tIt X W T cal mkc (.rng ea)) := by
  refine (pi_range1 hg hm (pa_cons (pe_fix ha) pa_nil hs) (by rw [hs]; rfl)).imp fun σ H R q => ?_
  obtain ⟨G, Z, F, ρ, A, q⟩ := q
  rw [ev_itV (g := fun v => rngF [v]) rfl] at q
  refine ⟨G, Z, F, ρ, A, q.bnd.imp fun F1 H1 ρ1 v A1 e1 q1 x rx => ?_⟩
  obtain ⟨ws, hi, q2⟩ := q1.lift
  cases rx with
  | int n =>
    simp only [rngF] at hi
    split at hi
    · rename_i hz
      cases hi
      unfold cap at hz
      refine ⟨n, rfl, by omega, by omega, ?_⟩
      have z := q2 F1 H1 A1 (Ex'.refl F1) _ (itr_rng 0 n)
      rw [show n - 0 = n by omega] at z
      exact z
    · cases hi
  | _ => simp only [rngF] at hi; cases hi
end
end EV
namespace EV
open PySem PySem.Spec PyProof.Rows L2
section
variable {K : PySem.W.Frag} {mg : Str → Option Value} {G Z F : Hp} {σ : L2.St} {H : Hp} {ρ : Ro}
theorem set_get {α : Type} {l : List α} {i : Nat} {x : α} (hi : i < l.length) (j : Nat) : (l.set i x)[j]? = if j = i then some x else l[j]? := by
  by_cases hj : j = i
  · subst hj; rw [List.getElem?_set_self hi, if_pos rfl]
  · rw [List.getElem?_set_ne (Ne.symm hj), if_neg hj]
theorem Abs.set {i : Nat} {x : V} {r : Slot} (A : Abs K mg G Z F σ H ρ) (rx : ResR K mg G F σ H ρ x r) (hi : i < ρ.length) : Abs K mg G Z F (σ.set i (some x)) H (ρ.set i r) := by
  have his : i < σ.length := by rw [← A.len]; exact hi
  refine ⟨A.sub, A.bg, A.f0, A.nw, by rw [List.length_set, List.length_set]; exact A.len, fun j v q => ?_, fun j v q => ?_, fun j k a v w hjk q q' s s' => ?_, A.x⟩
  · rw [set_get hi] at q; rw [set_get his]
    by_cases hj : j = i
    · rw [if_pos hj] at q ⊢; cases q
      exact ⟨x, rfl, rx⟩
    · rw [if_neg hj] at q ⊢; exact A.fz j v q
  · rw [set_get hi] at q; rw [set_get his]
    by_cases hj : j = i
    · rw [if_pos hj] at q ⊢; cases q
      obtain ⟨a, e, g, o, _⟩ := rx
      exact ⟨a, by rw [e], g, o⟩
    · rw [if_neg hj] at q ⊢; exact A.ow j v q
  · rw [set_get hi] at q q'; rw [set_get his] at s s'
    by_cases hj : j = i
    · have hk : k ≠ i := fun z => hjk (hj.trans z.symm)
      rw [if_pos hj] at q s; rw [if_neg hk] at q' s'
      cases q
      obtain ⟨b, e, g, o, l⟩ := rx
      rw [e] at s; cases s
      exact l k w q' s'
    · rw [if_neg hj] at q s
      by_cases hk : k = i
      · rw [if_pos hk] at q' s'
        cases q'
        obtain ⟨b, e, g, o, l⟩ := rx
        rw [e] at s'; cases s'
        exact l j v q s
      · rw [if_neg hk] at q' s'
        exact A.ap j k a v w hjk q q' s s'
end
mutual
def tgn : Tg → List Nat
  | .nm i => [i]
  | .tp ts => tgns ts
def tgns : List Tg → List Nat
  | [] => []
  | t :: r => tgn t ++ tgns r
end
section
variable (K : PySem.W.Frag) (mg : Str → Option Value)
def gT (t : Tg) : TG := fun v σ H Q => ∃ G Z F ρ r ρ', Abs K mg G Z F σ H ρ ∧ ResR K mg G F σ H ρ v r ∧ assn t r ρ = some ρ' ∧ ∀ σ', Abs K mg G Z F σ' H ρ' → (∀ i : Nat, i ∉ tgn t → σ'[i]? = σ[i]?) → Q σ' H
def gTs (ts : List Tg) : TGs := fun vs σ H Q => ∃ G Z F ρ ws ρ', Abs K mg G Z F σ H ρ ∧ Reps K mg F vs ws ∧ vs.length = ts.length ∧ assns ts ws ρ = some ρ' ∧ ∀ σ', Abs K mg G Z F σ' H ρ' → (∀ i : Nat, i ∉ tgns ts → σ'[i]? = σ[i]?) → Q σ' H
end
section
variable {pr : List Nat} {X : Cx} {W : WX} {T : Tab} {cal mkc : Cal} {a b c e tg : Expr} {ea eb ec : Ex} {pos p : Pos} {kr : Nat}
theorem _root_.L2.PG.imp {t t' : TG} (h : PG X tg t) (k : ∀ v σ H Q, t' v σ H Q → t v σ H Q) : PG X tg t' := ⟨fun pins s σ H v u Q I r q => h.run pins s σ H v u Q I r (k v σ H Q q)⟩
theorem _root_.L2.PGs.imp {es : List Expr} {t t' : TGs} (h : PGs X es t) (k : ∀ v σ H Q, t' v σ H Q → t v σ H Q) : PGs X es t' := ⟨fun pins s σ H v u Q I r q => h.run pins s σ H v u Q I r (k v σ H Q q)⟩
theorem _root_.L2.PSs.imp {st : List Stmt} {t t' : TS} (h : PSs X st t) (k : ∀ D σ H, t' D σ H → t D σ H) : PSs X st t' := ⟨fun pins s σ H D I q => h.run pins s σ H D I (k D σ H q)⟩
theorem nm_red {i : Nat} {v : V} {σ : L2.St} {H : Hp} {Q : L2.St → Hp → Prop} (h : gT X.K X.mg (.nm i) v σ H Q) : gName i v σ H Q := by
  obtain ⟨G, Z, F, ρ, r, ρ', A, rx, e, q⟩ := h
  simp only [assn] at e
  split at e
  · rename_i hi
    cases e
    refine q _ (A.set rx hi) fun j hj => ?_
    rw [List.getElem?_set_ne]
    intro z; subst z
    exact hj (by simp [tgn])
  · cases e
theorem sG_name {i : Nat} {x : Str} (hN : X.N.Nodup) (hi : X.N[i]? = some x) (hx : Loc X.env.scope x) (hf : X.fn x = true ∨ X.env.scope.names.lookup x = some .local := by first | exact .inl rfl | exact .inr rfl | assumption) : PG X (.Name x pos) (gT X.K X.mg (.nm i)) :=
  (pg_name hN hi hx hf).imp fun _ _ _ _ q => nm_red q
theorem sGs_nil : PGs X [] (gTs X.K X.mg []) := by
  refine pgs_nil.imp fun v σ H Q q => ?_
  obtain ⟨G, Z, F, ρ, ws, ρ', A, rv, hl, e, q⟩ := q
  simp only [assns] at e; cases e
  exact ⟨List.length_eq_zero_iff.mp hl, q σ A fun _ _ => rfl⟩
theorem sGs_cons {es : List Expr} {t : Tg} {ts : List Tg} (h1 : PG X e (gT X.K X.mg t)) (h2 : PGs X es (gTs X.K X.mg ts)) (hs : (assignEach (e :: es) X.env).map (·.2) = assign e X.env :: (assignEach es X.env).map (·.2) := by rfl) : PGs X (e :: es) (gTs X.K X.mg (t :: ts)) := by
  refine (pgs_cons h1 h2 hs).imp fun vs σ H Q q => ?_
  obtain ⟨G, Z, F, ρ, ws, ρ', A, rv, hl, e, q⟩ := q
  cases rv with
  | nil => simp at hl
  | @cons x xs v ws r rs =>
    simp only [assns] at e
    obtain ⟨ρ1, e1, e2⟩ := Option.bind_eq_some_iff.mp e
    refine ⟨x, xs, rfl, G, Z, F, ρ, .fz v, ρ1, A, r, e1, fun σ1 A1 k1 => ⟨G, Z, F, ρ1, ws, ρ', A1, rs, by simpa using hl, e2, fun σ2 A2 k2 => q σ2 A2 fun i hi => ?_⟩⟩
    have hi : i ∉ tgn t ∧ i ∉ tgns ts := by simpa [tgns] using hi
    rw [k2 i hi.2, k1 i hi.1]
theorem sG_tup {es : List Expr} {k : Nat} {ts : List Tg} (hc : X.calm = true) (h : PGs X es (gTs X.K X.mg ts)) (hn : (assignEach es X.env).length = ts.length := by rfl) (hst : (assignEach es X.env).findIdx? (·.1) = none := by rfl) : PG X (.Tuple es k pos) (gT X.K X.mg (.tp ts)) := by
  refine (EU.pg_sq hc h hn hst).imp fun v σ H Q q => ?_
  obtain ⟨G, Z, F, ρ, r, ρ', A, rx, e, q⟩ := q
  simp only [assn] at e
  split at e
  · rename_i vs
    split at e
    · rename_i hl
      have rx : Rep X.K X.mg F v (.tup vs) := rx
      cases rx with
      | @tup ad xs _ s1 r1 =>
        exact ⟨ad, xs, rfl, .inl (.inl (.inl (A.sub _ _ s1))), by rw [r1.length]; exact hl, G, Z, F, ρ, vs, ρ', A, r1, by rw [r1.length]; exact hl, e, q⟩
    · cases e
  · rename_i vs
    split at e
    · rename_i hl
      have rx : Rep X.K X.mg F v (.lst vs) := rx
      cases rx with
      | @lst ad xs _ s1 r1 =>
        exact ⟨ad, xs, rfl, .inr (.inl (.inl (A.sub _ _ s1))), by rw [r1.length]; exact hl, G, Z, F, ρ, vs, ρ', A, r1, by rw [r1.length]; exact hl, e, q⟩
    · cases e
  · cases e
def Kp (pr : List Nat) (σ σ' : L2.St) : Prop := ∀ i ∈ pr, σ'[i]? = σ[i]?
theorem Kp.refl (pr : List Nat) (σ : L2.St) : Kp pr σ σ := fun _ _ => rfl
theorem Kp.trans {pr : List Nat} {σ σ' σ2 : L2.St} (h : Kp pr σ σ') (k : Kp pr σ' σ2) : Kp pr σ σ2 := fun i hi => (k i hi).trans (h i hi)
theorem kp_tg {pr : List Nat} {t : Tg} {σ σ' : L2.St} (hp : ∀ j ∈ tgn t, j ∉ pr) (k : ∀ i : Nat, i ∉ tgn t → σ'[i]? = σ[i]?) : Kp pr σ σ' := fun i hi => k i fun z => hp i z hi
theorem kp_set {pr : List Nat} {i : Nat} {σ : L2.St} {x : Option V} (hp : i ∉ pr) : Kp pr σ (σ.set i x) := fun j hj => by
  rw [List.getElem?_set_ne]
  intro z; subst z; exact hp hj
def AftS (X : Cx) (W : WX) (pr : List Nat) (σ : L2.St) (G Z F : Hp) (m : Res Fl) (D : Ends) : Prop := match m with
  | some (.ok .nx ρ') => ∀ F' σ' H', Abs X.K X.mg G Z F' σ' H' ρ' → Ex' F F' → Kp pr σ σ' → D.nx σ' H'
  | some (.ok (.rt r) ρ') => ∀ F' σ' H' x, Abs X.K X.mg G Z F' σ' H' ρ' → Ex' F F' → Kp pr σ σ' → ResR X.K X.mg G F' σ' H' ρ' x r → D.rt x H'
  | some (.ex e ρ') => ∀ F' σ' H' d, Abs X.K X.mg G Z F' σ' H' ρ' → Ex' F F' → Kp pr σ σ' → ExR X.K X.mg F' d e → W (.ref (GH.clsA X.mg (Str.ofString e.c))) d σ' H'
  | none => False
def tS (X : Cx) (W : WX) (T : Tab) (cal mkc : Cal) (pr : List Nat) (s : Sx) : TS := fun D σ H => ∃ G Z F ρ, Abs X.K X.mg G Z F σ H ρ ∧ AftS X W pr σ G Z F (evS T cal mkc s ρ) D
def tSs (X : Cx) (W : WX) (T : Tab) (cal mkc : Cal) (pr : List Nat) (ss : List Sx) : TS := fun D σ H => ∃ G Z F ρ, Abs X.K X.mg G Z F σ H ρ ∧ AftS X W pr σ G Z F (evSs T cal mkc ss ρ) D
theorem AftS.up {σ : L2.St} {G Z F F1 : Hp} {m : Res Fl} {D : Ends} (h : AftS X W pr σ G Z F m D) (e : Ex' F F1) : AftS X W pr σ G Z F1 m D := by
  unfold AftS at h ⊢
  split at h
  · exact fun F' σ' H' A q => h F' σ' H' A (e.trans q)
  · exact fun F' σ' H' x A q r => h F' σ' H' x A (e.trans q) r
  · exact fun F' σ' H' d A q r => h F' σ' H' d A (e.trans q) r
  · exact h
theorem AftS.mv {σ σ1 : L2.St} {G Z F : Hp} {m : Res Fl} {D : Ends} (h : AftS X W pr σ G Z F m D) (k : Kp pr σ σ1) : AftS X W pr σ1 G Z F m D := by
  unfold AftS at h ⊢
  split at h
  · exact fun F' σ' H' A q k' => h F' σ' H' A q (k.trans k')
  · exact fun F' σ' H' x A q k' r => h F' σ' H' x A q (k.trans k') r
  · exact fun F' σ' H' d A q k' r => h F' σ' H' d A q (k.trans k') r
  · exact h
theorem AftS.bnd {α : Type} {σ : L2.St} {G Z F : Hp} {m : Res α} {k : α → Ro → Res Fl} {D : Ends} (h : AftS X W pr σ G Z F (EV.bnd m k) D) : Aft X.K X.mg W G Z F σ m fun F' _ ρ' a => AftS X W pr σ G Z F' (k a ρ') D := by
  match m, h with
  | some (.ok a ρ'), h =>
    intro F' H' A q
    have h : AftS X W pr σ G Z F (k a ρ') D := h
    exact h.up q
  | some (.ex e ρ'), h => exact fun F' H' d A q r => h F' σ H' d A q (Kp.refl pr σ) r
  | none, h => exact h
theorem AftS.nxK {G Z F : Hp} {σ σ' : L2.St} {H : Hp} {ρ : Ro} {D : Ends} (h : AftS X W pr σ G Z F (EV.pur .nx ρ) D) (A : Abs X.K X.mg G Z F σ' H ρ) (k : Kp pr σ σ') : D.nx σ' H := h F σ' H A (Ex'.refl F) k
theorem AftS.nx {G Z F : Hp} {σ : L2.St} {H : Hp} {ρ : Ro} {D : Ends} (h : AftS X W pr σ G Z F (EV.pur .nx ρ) D) (A : Abs X.K X.mg G Z F σ H ρ) : D.nx σ H := h.nxK A (Kp.refl pr σ)
theorem AftS.rt {G Z F : Hp} {σ : L2.St} {H : Hp} {ρ : Ro} {D : Ends} {r : Slot} {x : V} (h : AftS X W pr σ G Z F (EV.pur (.rt r) ρ) D) (A : Abs X.K X.mg G Z F σ H ρ) (rx : ResR X.K X.mg G F σ H ρ x r) : D.rt x H := h F σ H x A (Ex'.refl F) (Kp.refl pr σ) rx
theorem sSs_nil : PSs X [] (tSs X W T cal mkc pr []) := by
  refine pss_nil.imp fun D σ H q => ?_
  obtain ⟨G, Z, F, ρ, A, q⟩ := q
  exact AftS.nx q A
theorem sSs_cons {st : Stmt} {sts : List Stmt} {s : Sx} {ss : List Sx} (h1 : PS X st (tS X W T cal mkc pr s)) (h2 : PSs X sts (tSs X W T cal mkc pr ss)) : PSs X (st :: sts) (tSs X W T cal mkc pr (s :: ss)) := by
  refine (pss_cons h1 h2).imp fun D σ H q => ?_
  obtain ⟨G, Z, F, ρ, A, q⟩ := q
  refine ⟨G, Z, F, ρ, A, ?_⟩
  have q : AftS X W pr σ G Z F (EV.bnd (evS T cal mkc s ρ) fun f ρ1 => match f with
      | .nx => evSs T cal mkc ss ρ1
      | .rt q => EV.pur (.rt q) ρ1) D := q
  cases hm : evS T cal mkc s ρ with
  | none => rw [hm] at q; exact q.elim
  | some o =>
    rw [hm] at q
    cases o with
    | ex e ρ' => exact q
    | ok f ρ' =>
      cases f with
      | nx => exact fun F' σ' H' A' e' k' => ⟨G, Z, F', ρ', A', (AftS.up q e').mv k'⟩
      | rt r => exact q
theorem asgN_red {i : Nat} {te : TE} {D : Ends} {σ : L2.St} {H : Hp} (hp : i ∉ pr) (h : ∀ Q, tE X.K X.mg W T cal mkc ea σ H Q → te σ H Q) (q : tS X W T cal mkc pr (.asg (.nm i) ea) D σ H) : tAsg te (gName i) D σ H := by
  obtain ⟨G, Z, F, ρ, A, q⟩ := q
  refine h _ ⟨G, Z, F, ρ, A, (AftS.bnd q).imp fun F' H' ρ' r A' e' q' x rx => ?_⟩
  have q' : AftS X W pr σ G Z F' (match assn (.nm i) r ρ' with
    | some ρ2 => EV.pur .nx ρ2
    | none => none) D := q'
  refine nm_red (X := X) ?_
  cases hm : assn (.nm i) r ρ' with
  | none => rw [hm] at q'; exact q'.elim
  | some ρ2 =>
    rw [hm] at q'
    exact ⟨G, Z, F', ρ', r, ρ2, A', rx, hm, fun σ' A2 k2 => AftS.nxK q' A2 (kp_tg (t := .nm i) (by simpa [tgn] using hp) k2)⟩
theorem sS_set {i : Nat} {x : Str} (hp : i ∉ pr) (hN : X.N.Nodup) (hi : X.N[i]? = some x) (hx : Loc X.env.scope x) (he : PE X e (tE X.K X.mg W T cal mkc ea)) (hs : swapsWith e (some (.Name x p)) pos.line X.env = pure false := by rfl) (hf : X.fn x = true ∨ X.env.scope.names.lookup x = some .local := by first | exact .inl rfl | exact .inr rfl | assumption) :
    PS X (.Assign [.Name x p] e pos) (tS X W T cal mkc pr (.asg (.nm i) ea)) :=
  (ps_set hN hi hx he hs hf).imp fun D σ H q => asgN_red hp (fun _ z => z) q
theorem sS_asgT {ts : List Tg} (hp : ∀ j ∈ tgn (.tp ts), j ∉ pr) (he : PE X e (tE X.K X.mg W T cal mkc ea)) (hg : PG X tg (gT X.K X.mg (.tp ts))) (hs : swapsWithSole [tg] e pos.line X.env = pure false := by rfl) (hw : swappedStores [tg] e X.env = pure none := by rfl) (h1 : (assignEach [tg] X.env).map (·.2) = [assign tg X.env] := by rfl) :
    PS X (.Assign [tg] e pos) (tS X W T cal mkc pr (.asg (.tp ts) ea)) := by
  refine (ps_asg (pe_fix he) hg hs hw h1).imp fun D σ H q => ?_
  obtain ⟨G, Z, F, ρ, A, q⟩ := q
  have e1 : evS T cal mkc (.asg (.tp ts) ea) ρ = EV.bnd (EV.bnd (evE T cal mkc ea ρ) fixv) fun v ρ2 => match assn (.tp ts) (.fz v) ρ2 with
    | some ρ3 => EV.pur .nx ρ3
    | none => none := by rw [bnd_assoc]; rfl
  rw [e1] at q
  refine ⟨G, Z, F, ρ, A, (AftS.bnd q).imp fun F' H' ρ' v A' e' q' x rx => ?_⟩
  cases hm : assn (.tp ts) (.fz v) ρ' with
  | none => rw [hm] at q'; exact q'.elim
  | some ρ2 =>
    rw [hm] at q'
    exact ⟨G, Z, F', ρ', .fz v, ρ2, A', rx, hm, fun σ' A2 k2 => AftS.nxK q' A2 (kp_tg hp k2)⟩
theorem sS_ret (he : PE X e (tE X.K X.mg W T cal mkc ea)) (hn : ∀ i, ea ≠ .v i) : PS X (.Return (some e) pos) (tS X W T cal mkc pr (.ret ea)) := by
  refine (ps_ret he).imp fun D σ H q => ?_
  obtain ⟨G, Z, F, ρ, A, q⟩ := q
  have e1 : evS T cal mkc (.ret ea) ρ = EV.bnd (evE T cal mkc ea ρ) fun r ρ1 => EV.pur (.rt r) ρ1 := by
    cases ea with
    | v i => exact absurd rfl (hn i)
    | _ => rfl
  rw [e1] at q
  exact ⟨G, Z, F, ρ, A, (AftS.bnd q).imp fun F' H' ρ' r A' e' q' x rx => AftS.rt q' A' rx⟩
theorem sS_retV {i : Nat} (he : PE X e (tVar i)) : PS X (.Return (some e) pos) (tS X W T cal mkc pr (.ret (.v i))) := by
  refine (ps_ret he).imp fun D σ H q => ?_
  obtain ⟨G, Z, F, ρ, A, q⟩ := q
  have e1 : evS T cal mkc (.ret (.v i)) ρ = match ρ[i]? with
      | some (.ow v) => EV.pur (.rt (.ow v)) (ρ.set i .un)
      | some (.fz v) => EV.pur (.rt (.fz v)) ρ
      | _ => none := rfl
  rw [e1] at q
  cases hm : ρ[i]? with
  | none => rw [hm] at q; exact q.elim
  | some s =>
    rw [hm] at q
    cases s with
    | un => exact q.elim
    | fz v =>
      obtain ⟨x, h1, h2⟩ := A.fz i v hm
      exact ⟨x, h1, AftS.rt q A h2⟩
    | ow v =>
      obtain ⟨a, h1, h2, h3⟩ := A.ow i v hm
      obtain ⟨A1, l1⟩ := A.loose hm h1 .un (fun _ z => by cases z) (fun _ z => by cases z)
      exact ⟨_, h1, AftS.rt q A1 ⟨a, rfl, h2, h3, l1⟩⟩
theorem sS_if {sa sb : List Stmt} {xa xb : List Sx} (hc : PT X c (EV.tB X.K X.mg W T cal mkc ec)) (ha : PSs X sa (tSs X W T cal mkc pr xa)) (hb : PSs X sb (tSs X W T cal mkc pr xb)) : PS X (.If c sa sb pos) (tS X W T cal mkc pr (.ife ec xa xb)) := by
  refine (ps_if hc ha hb).imp fun D σ H q => ?_
  obtain ⟨G, Z, F, ρ, A, q⟩ := q
  have e1 : evS T cal mkc (.ife ec xa xb) ρ = EV.bnd (EV.bnd (evE T cal mkc ec ρ) asBool) fun d ρ2 => if d then evSs T cal mkc xa ρ2 else evSs T cal mkc xb ρ2 := by rw [bnd_assoc]; rfl
  rw [e1] at q
  refine ⟨G, Z, F, ρ, A, (AftS.bnd q).imp fun F' H' ρ' d A' e' q' => ?_⟩
  cases d with
  | true => rw [if_pos rfl]; exact ⟨G, Z, F', ρ', A', q'⟩
  | false => rw [if_neg Bool.false_ne_true]; exact ⟨G, Z, F', ρ', A', q'⟩
end
end EV
namespace EV
open PySem PySem.Spec PyProof.Rows L2
section
variable {pr : List Nat} {X : Cx} {W : WX} {T : Tab} {cal mkc : Cal} {a b c e tg : Expr} {ea eb ec : Ex} {pos p : Pos} {kr : Nat}
theorem for_red {it : Iter} {t : Tg} {xa : List Sx} {D : Ends} {σ : L2.St} {H : Hp} (hp : ∀ j ∈ tgn t, j ∉ pr) (q : tS X W T cal mkc pr (.for_ t it xa) D σ H) : tFor (tIt X W T cal mkc it) (gT X.K X.mg t) (tSs X W T cal mkc pr xa) D σ H := by
  obtain ⟨G, Z, F, ρ, A, q⟩ := q
  refine ⟨G, Z, F, ρ, A, (AftS.bnd q).imp fun F1 H1 ρ1 xs A1 e1 q1 J hJ => ?_⟩
  split at q1
  case isFalse => exact q1.elim
  refine ⟨fun i m σ H => m = xs.length - i ∧ i ≤ xs.length ∧ ∃ F ρ, Ex' F1 F ∧ Abs X.K X.mg G Z F σ H ρ ∧ AftS X W pr σ G Z F (forF (evSs T cal mkc xa) t (xs.drop i) ρ) D, ⟨xs.length, rfl, Nat.zero_le _, F1, ρ1, Ex'.refl F1, A1, by rw [List.drop_zero]; exact q1⟩, ?_⟩
  rintro i m σ H ⟨rfl, hi, F2, ρ2, e2, A2, q2⟩
  by_cases hlt : i < xs.length
  · refine .inr ⟨hJ.goes i H hlt (e2.trans A2.sub), fun σ H => ∃ F ρ, Ex' F1 F ∧ Abs X.K X.mg G Z F σ H ρ ∧ AftS X W pr σ G Z F (forF (evSs T cal mkc xa) t (xs.drop (i + 1)) ρ) D, fun σ' H' z => ⟨xs.length - (i + 1), by omega, rfl, hlt, z⟩, fun x H' y => ?_⟩
    have hv : xs[i]? = some xs[i] := List.getElem?_eq_getElem hlt
    have n := hJ.yields i F2 H x H' _ hv e2 A2.sub y
    rw [List.drop_eq_getElem_cons hlt] at q2
    refine A2.new (Q := fun x H' => gT X.K X.mg t x σ H' _) n fun F3 H3 A3 e3 x rx => ?_
    simp only [forF] at q2
    cases hm : assn t (.fz xs[i]) ρ2 with
    | none => rw [hm] at q2; exact q2.elim
    | some ρ3 =>
      rw [hm] at q2
      refine ⟨G, Z, F3, ρ2, _, ρ3, A3, rx, hm, fun σ' A4 k4 => ⟨G, Z, F3, ρ3, A4, ?_⟩⟩
      have q2 : AftS X W pr σ' G Z F3 (EV.bnd (evSs T cal mkc xa ρ3) fun f ρ2 => match f with
        | .nx => forF (evSs T cal mkc xa) t (xs.drop (i + 1)) ρ2
        | .rt q => EV.pur (.rt q) ρ2) D := (AftS.up q2 e3).mv (kp_tg hp k4)
      cases hm : evSs T cal mkc xa ρ3 with
      | none => rw [hm] at q2; exact q2.elim
      | some o =>
        rw [hm] at q2
        cases o with
        | ex e ρ' => exact q2
        | ok f ρ' =>
          cases f with
          | nx => exact fun F' σ' H' A' e' k' => ⟨F', ρ', (e2.trans e3).trans e', A', (AftS.up q2 e').mv k'⟩
          | rt r => exact q2
  · have hi : i = xs.length := by omega
    subst hi
    rw [List.drop_length] at q2
    exact .inl ⟨hJ.stops H (e2.trans A2.sub), AftS.nx q2 A2⟩
theorem sS_for {iter : Expr} {body : List Stmt} {it : Iter} {t : Tg} {xa : List Sx} (hpr : ∀ j ∈ tgn t, j ∉ pr) (hp : PassesOwn (model X.prog X.w) X.A X.env X.xe) (hc : X.calm = true) (hi : PI X tg iter (tIt X W T cal mkc it)) (hg : PG X tg (gT X.K X.mg t)) (hb : PSs X body (tSs X W T cal mkc pr xa)) (hs : ∀ x, foldedSetIterable iter X.env x = pure x := by intro _; rfl) :
    PS X (.For tg iter body [] pos) (tS X W T cal mkc pr (.for_ t it xa)) :=
  (ps_for hp hc hi hg hb hs).imp fun _ _ _ q => for_red hpr q
end
section
variable {K : PySem.W.Frag} {mg : Str → Option Value} {G Z F : Hp} {σ : L2.St} {H : Hp} {ρ : Ro}
theorem Abs.hold {p : Addr} {o : HO} (A : Abs K mg G Z F σ H ρ) (hH : H p = some o) (hF : F p = none) (hl : Lone σ ρ p) (ho : ∀ ps, o ≠ .tbl ps := by nofun) : Abs K mg (upd G p o) Z F σ H ρ := by
  refine ⟨A.sub, fun a u q => ?_, A.f0, fun a u q => ?_, A.len, A.fz, fun i v q => ?_, A.ap, A.x.tb, A.x.nf, A.x.ng.upd ho⟩
  · by_cases ha : a = p
    · subst ha; rw [upd_same] at q; rw [hH]; exact q
    · rw [upd_ne ha] at q; exact A.bg a u q
  · have ha : a ≠ p := fun z => by rw [z, hF] at q; cases q
    rw [upd_ne ha]; exact A.nw a u q
  · obtain ⟨a, h1, h2, h3⟩ := A.ow i v q
    have ha : a ≠ p := fun z => hl i v q (by rw [← z]; exact h1)
    exact ⟨a, h1, by rw [upd_ne ha]; exact h2, h3⟩
theorem Abs.free {p : Addr} {o : HO} (A : Abs K mg (upd G p o) Z F σ H ρ) (hG : G p = none) (hZ : Z p = none) (ho : ∀ xs, o ≠ .tup xs) : Abs K mg G Z F σ H ρ ∧ H p = some o ∧ F p = none ∧ Lone σ ρ p := by
  have hH : H p = some o := A.bg p o upd_same
  have ne : ∀ {a : Addr}, upd G p o a = none → a ≠ p := fun {a} z e => by rw [e, upd_same] at z; cases z
  refine ⟨⟨A.sub, fun a u q => ?_, A.f0, fun a u q => ?_, A.len, A.fz, fun i v q => ?_, A.ap, A.x.tb, A.x.nf, fun a ps z => A.x.ng a ps (by rw [upd_ne (fun y => by rw [y, hG] at z; cases z)]; exact z)⟩, hH, ?_, fun i w q z => ?_⟩
  · have ha : a ≠ p := fun z => by rw [z, hG] at q; cases q
    exact A.bg a u (by rw [upd_ne ha]; exact q)
  · rcases A.nw a u q with h | h | h
    · exact .inl h
    · rw [upd_ne (ne h)] at h; exact .inr (.inl h)
    · exact .inr (.inr h)
  · obtain ⟨a, h1, h2, h3⟩ := A.ow i v q
    rw [upd_ne (ne h2)] at h2
    exact ⟨a, h1, h2, h3⟩
  · cases q : F p with
    | none => rfl
    | some u =>
      rcases A.nw p u q with h | h | ⟨xs, h⟩
      · rw [hZ] at h; cases h
      · rw [upd_same] at h; cases h
      · have z := A.sub p u q
        rw [hH] at z; cases z
        exact absurd h (ho xs)
  · obtain ⟨a, h1, h2, h3⟩ := A.ow i w q
    rw [z] at h1; cases h1
    rw [upd_same] at h2; cases h2
theorem wipe_get (σ : L2.St) : ∀ (ns : List Nat) (j : Nat), (wipe σ ns)[j]? = if j ∈ ns then (σ[j]?).map fun _ => none else σ[j]?
  | [], j => by simp [wipe]
  | i :: r, j => by
    have ih := wipe_get σ r j
    simp only [wipe]
    by_cases hj : j = i
    · subst hj
      by_cases hl : j < σ.length
      · rw [List.getElem?_set_self (by rw [wipe_length]; exact hl)]
        simp [hl]
      · rw [List.getElem?_eq_none (by rw [List.length_set, wipe_length]; omega)]
        simp [List.getElem?_eq_none (show σ.length ≤ j by omega)]
    · rw [List.getElem?_set_ne (Ne.symm hj), ih]
      simp [hj]
theorem wipeR_len (ρ : Ro) : ∀ ns : List Nat, (wipeR ρ ns).length = ρ.length
  | [] => rfl
  | i :: r => by simp [wipeR, wipeR_len ρ r]
theorem wipeR_get (ρ : Ro) : ∀ (ns : List Nat) (j : Nat), (wipeR ρ ns)[j]? = if j ∈ ns then (ρ[j]?).map fun _ => .un else ρ[j]?
  | [], j => by simp [wipeR]
  | i :: r, j => by
    have ih := wipeR_get ρ r j
    simp only [wipeR]
    by_cases hj : j = i
    · subst hj
      by_cases hl : j < ρ.length
      · rw [List.getElem?_set_self (by rw [wipeR_len]; exact hl)]
        simp [hl]
      · rw [List.getElem?_eq_none (by rw [List.length_set, wipeR_len]; omega)]
        simp [List.getElem?_eq_none (show ρ.length ≤ j by omega)]
    · rw [List.getElem?_set_ne (Ne.symm hj), ih]
      simp [hj]
theorem unwipe_len (ρ ρ' : Ro) : ∀ ns : List Nat, (unwipe ns ρ ρ').length = ρ'.length
  | [] => rfl
  | i :: r => by simp [unwipe, unwipe_len ρ ρ' r]
theorem unwipe_get (ρ ρ' : Ro) (hl : ρ.length = ρ'.length) : ∀ (ns : List Nat) (j : Nat), (unwipe ns ρ ρ')[j]? = if j ∈ ns then ρ[j]? else ρ'[j]?
  | [], j => by simp [unwipe]
  | i :: r, j => by
    have ih := unwipe_get ρ ρ' hl r j
    simp only [unwipe]
    by_cases hj : j = i
    · subst hj
      by_cases hl' : j < ρ'.length
      · rw [List.getElem?_set_self (by rw [unwipe_len]; exact hl')]
        have : j < ρ.length := by omega
        simp [this]
      · rw [List.getElem?_eq_none (by rw [List.length_set, unwipe_len]; omega)]
        simp [List.getElem?_eq_none (show ρ.length ≤ j by omega)]
    · rw [List.getElem?_set_ne (Ne.symm hj), ih]
      simp [hj]
theorem Abs.wipe {ns : List Nat} (A : Abs K mg G Z F σ H ρ) : Abs K mg G Z F (L2.wipe σ ns) H (wipeR ρ ns) := by
  have out : ∀ {j : Nat} {s : Slot}, (wipeR ρ ns)[j]? = some s → s ≠ .un → j ∉ ns ∧ ρ[j]? = some s := fun {j s} q hs => by
    rw [wipeR_get] at q
    by_cases hj : j ∈ ns
    · rw [if_pos hj] at q
      obtain ⟨_, _, z⟩ := Option.map_eq_some_iff.mp q
      exact absurd z.symm hs
    · rw [if_neg hj] at q; exact ⟨hj, q⟩
  refine ⟨A.sub, A.bg, A.f0, A.nw, by rw [wipeR_len, wipe_length]; exact A.len, fun j v q => ?_, fun j v q => ?_, fun j k a v w hjk q q' s s' => ?_, A.x⟩
  · obtain ⟨hj, q⟩ := out q (by intro z; cases z)
    obtain ⟨x, h1, h2⟩ := A.fz j v q
    exact ⟨x, by rw [wipe_get, if_neg hj]; exact h1, h2⟩
  · obtain ⟨hj, q⟩ := out q (by intro z; cases z)
    obtain ⟨x, h1, h2⟩ := A.ow j v q
    exact ⟨x, by rw [wipe_get, if_neg hj]; exact h1, h2⟩
  · obtain ⟨hj, q⟩ := out q (by intro z; cases z)
    obtain ⟨hk, q'⟩ := out q' (by intro z; cases z)
    rw [wipe_get, if_neg hj] at s
    rw [wipe_get, if_neg hk] at s'
    exact A.ap j k a v w hjk q q' s s'
theorem Abs.back {F1 : Hp} {H1 : Hp} {ρ1 : Ro} {ns : List Nat} (A1 : Abs K mg G Z F1 σ H1 ρ1) (hc : clean ns ρ1 = true) (e : Ex' F1 F) (A : Abs K mg G Z F (L2.wipe σ ns) H ρ) : Abs K mg G Z F σ H (unwipe ns ρ1 ρ) ∧ ∀ a, Lone (L2.wipe σ ns) ρ a → Lone σ (unwipe ns ρ1 ρ) a := by
  have hl : ρ1.length = ρ.length := by rw [A1.len, A.len, wipe_length]
  have cl : ∀ {j : Nat} {v : Val}, j ∈ ns → ρ1[j]? ≠ some (.ow v) := fun {j v} hj z => by
    unfold clean at hc
    have := List.all_eq_true.mp hc j hj
    rw [z] at this
    cases this
  have own : ∀ {j : Nat} {v : Val}, (unwipe ns ρ1 ρ)[j]? = some (.ow v) → j ∉ ns ∧ ρ[j]? = some (.ow v) := fun {j v} q => by
    rw [unwipe_get _ _ hl] at q
    by_cases hj : j ∈ ns
    · rw [if_pos hj] at q; exact absurd q (cl hj)
    · rw [if_neg hj] at q; exact ⟨hj, q⟩
  have wg : ∀ {j : Nat}, j ∉ ns → (L2.wipe σ ns)[j]? = σ[j]? := fun {j} hj => by rw [wipe_get, if_neg hj]
  refine ⟨⟨A.sub, A.bg, A.f0, A.nw, by rw [unwipe_len, A.len, wipe_length], fun j v q => ?_, fun j v q => ?_, fun j k a v w hjk q q' s s' => ?_, A.x⟩, fun a l j w q s => ?_⟩
  · rw [unwipe_get _ _ hl] at q
    by_cases hj : j ∈ ns
    · rw [if_pos hj] at q
      obtain ⟨x, h1, h2⟩ := A1.fz j v q
      exact ⟨x, h1, h2.mono e⟩
    · rw [if_neg hj] at q
      obtain ⟨x, h1, h2⟩ := A.fz j v q
      exact ⟨x, by rw [← wg hj]; exact h1, h2⟩
  · obtain ⟨hj, q⟩ := own q
    obtain ⟨x, h1, h2⟩ := A.ow j v q
    exact ⟨x, by rw [← wg hj]; exact h1, h2⟩
  · obtain ⟨hj, q⟩ := own q
    obtain ⟨hk, q'⟩ := own q'
    rw [← wg hj] at s
    rw [← wg hk] at s'
    exact A.ap j k a v w hjk q q' s s'
  · obtain ⟨hj, q⟩ := own q
    rw [← wg hj] at s
    exact l j w q s
end
end EV
namespace EV
open PySem PySem.Spec PyProof.Rows L2
def W0 : WX := fun _ _ _ _ => False
section
variable {pr : List Nat} {X : Cx} {W : WX} {T : Tab} {cal mkc : Cal} {a b c e tg : Expr} {ea eb ec : Ex} {pos p : Pos} {kr : Nat}
def tCo (X : Cx) (W : WX) (T : Tab) (cal mkc : Cal) (c : Option Ex) : TT := fun σ H Q => ∃ G Z F ρ, Abs X.K X.mg G Z F σ H ρ ∧ Aft X.K X.mg W G Z F σ (evC T cal mkc c ρ) fun F' H' ρ' b => Q b H'
theorem _root_.L2.PTs.imp {es : List Expr} {t t' : TT} (h : PTs X es t) (k : ∀ σ H Q, t' σ H Q → t σ H Q) : PTs X es t' := ⟨fun pins s σ H Q I q => h.run pins s σ H Q I (k σ H Q q)⟩
theorem sC_none : PTs X [] (tCo X W T cal mkc none) := by
  refine pts_nil.imp fun σ H Q q => ?_
  obtain ⟨G, Z, F, ρ, A, q⟩ := q
  exact Aft.pur q A
mutual
theorem assn_len : ∀ {t : Tg} {r : Slot} {ρ ρ' : Ro}, assn t r ρ = some ρ' → ρ'.length = ρ.length
  | .nm i, r, ρ, ρ', h => by
    simp only [assn] at h
    split at h
    · cases h; simp
    · cases h
  | .tp ts, r, ρ, ρ', h => by
    simp only [assn] at h
    split at h
    · split at h
      · exact assns_len h
      · cases h
    · split at h
      · exact assns_len h
      · cases h
    · cases h
theorem assns_len : ∀ {ts : List Tg} {xs : List Val} {ρ ρ' : Ro}, assns ts xs ρ = some ρ' → ρ'.length = ρ.length
  | [], xs, ρ, ρ', h => by simp only [assns] at h; cases h; rfl
  | t :: ts, [], ρ, ρ', h => by simp only [assns] at h; cases h
  | t :: ts, x :: xs, ρ, ρ', h => by
    simp only [assns] at h
    obtain ⟨ρ1, h1, h2⟩ := Option.bind_eq_some_iff.mp h
    rw [assns_len h2, assn_len h1]
end
theorem wipe_same {ns : List Nat} {t : Tg} {σ σ4 : L2.St} {ρ2 ρ3 : Ro} (ht : ∀ i ∈ tgn t, i ∈ ns) (l2 : ρ2.length = (L2.wipe σ ns).length) (l1 : ρ3.length = σ4.length) (l3 : ρ3.length = ρ2.length) (k4 : ∀ i : Nat, i ∉ tgn t → σ4[i]? = (L2.wipe σ ns)[i]?) : L2.wipe σ4 ns = L2.wipe σ ns := by
  apply List.ext_getElem?
  intro j
  rw [wipe_get, wipe_get]
  by_cases hj : j ∈ ns
  · rw [if_pos hj, if_pos hj]
    rw [wipe_length] at l2
    by_cases hjl : j < σ.length
    · rw [List.getElem?_eq_getElem hjl, List.getElem?_eq_getElem (show j < σ4.length by omega)]; rfl
    · rw [List.getElem?_eq_none (by omega), List.getElem?_eq_none (by omega)]
  · rw [if_neg hj, if_neg hj, k4 j fun z => hj (ht j z), wipe_get, if_neg hj]
def lcF (T : Tab) (cal mkc : Cal) (c : Option Ex) (e : Ex) : Ro → Res (Option Val) := fun ρ => bnd (evC T cal mkc c ρ) fun b ρ' => if b then bnd (evE T cal mkc e ρ') fun r ρ2 => bnd (fixv r ρ2) fun v ρ3 => pur (some v) ρ3 else pur none ρ'
theorem lc_red {ns : List Nat} {t : Tg} {it : Iter} {co : Option Ex} {σ : L2.St} {H : Hp} {Q : VK} (ht : ∀ i ∈ tgn t, i ∈ ns) (q : tE X.K X.mg W T cal mkc (.lc ns t it co ea) σ H Q) :
    tLc (tIt X W T cal mkc it) (gT X.K X.mg t) (tCo X W0 T cal mkc co) (tV X.K X.mg W0 T cal mkc ea) ns σ H Q := by
  obtain ⟨G, Z, F, ρ, A, q⟩ := q
  refine ⟨G, Z, F, ρ, A, (Aft.bnd q).imp fun F1 H1 ρ1 xs A1 e1 q1 J hJ D hD => ?_⟩
  split at q1
  case isFalse => exact q1.elim
  rename_i hcap
  obtain ⟨hcap, hcl⟩ := hcap
  have q1 : Aft X.K X.mg W G Z F1 σ (EV.bnd (quiet (lcLoop (lcF T cal mkc co ea) t ns xs (wipeR ρ1 ns))) fun ys ρ2 => EV.pur (Slot.ow (.lst ys)) (unwipe ns ρ1 ρ2)) _ := q1
  cases hm : lcLoop (lcF T cal mkc co ea) t ns xs (wipeR ρ1 ns) with
  | none => rw [hm] at q1; exact q1.elim
  | some o =>
    rw [hm] at q1
    cases o with
    | ex e ρ' => exact q1.elim
    | ok ys ρe =>
      have q1 : Aft X.K X.mg W G Z F1 σ (EV.pur (Slot.ow (.lst ys)) (unwipe ns ρ1 ρe)) _ := q1
      obtain ⟨hFD, hGD, hLD⟩ := A1.fresh hD
      have hZD : Z D = none := by
        cases z : Z D with
        | none => rfl
        | some u => rw [A1.f0 D u z] at hFD; cases hFD
      obtain ⟨A2, _, _, hl2⟩ := (A1.wipe (ns := ns)).newO (o := .lst []) hD
      refine ⟨fun i m H => m = xs.length - i ∧ i ≤ xs.length ∧ ∃ F ρ acc vs zs, Ex' F1 F ∧ Abs X.K X.mg G Z F (L2.wipe σ ns) H ρ ∧ H D = some (.lst acc) ∧ F D = none ∧ Lone (L2.wipe σ ns) ρ D ∧ Reps X.K X.mg F acc vs ∧ acc.length ≤ i ∧ ys = vs ++ zs ∧ lcLoop (lcF T cal mkc co ea) t ns (xs.drop i) ρ = some (.ok zs ρe),
        ⟨xs.length, rfl, Nat.zero_le _, F1, _, [], [], ys, Ex'.refl F1, A2, upd_same, hFD, hl2, .nil, Nat.le_refl _, rfl, by rw [List.drop_zero]; exact hm⟩, ?_⟩
      rintro i m H ⟨rfl, hi, F2, ρ2, acc, vs, zs, e2, A2, hH2, hF2, hL2, rv, hal, hys, hlp⟩
      by_cases hlt : i < xs.length
      · refine .inr ⟨hJ.goes i H hlt (e2.trans A2.sub), fun H => ∃ F ρ acc vs zs, Ex' F1 F ∧ Abs X.K X.mg G Z F (L2.wipe σ ns) H ρ ∧ H D = some (.lst acc) ∧ F D = none ∧ Lone (L2.wipe σ ns) ρ D ∧ Reps X.K X.mg F acc vs ∧ acc.length ≤ i + 1 ∧ ys = vs ++ zs ∧ lcLoop (lcF T cal mkc co ea) t ns (xs.drop (i + 1)) ρ = some (.ok zs ρe), fun H' z => ⟨xs.length - (i + 1), by omega, rfl, hlt, z⟩, fun x H' y => ?_⟩
        have hv : xs[i]? = some xs[i] := List.getElem?_eq_getElem hlt
        have n := hJ.yields i F2 H x H' _ hv e2 A2.sub y
        rw [List.drop_eq_getElem_cons hlt] at hlp
        simp only [lcLoop] at hlp
        split at hlp
        case h_2 => cases hlp
        rename_i ρ3 hρ3
        have A2' := A2.hold hH2 hF2 hL2
        refine A2'.new (Q := fun x H' => gT X.K X.mg t x (L2.wipe σ ns) H' _) n fun F3 H3 A3 e3 x rx => ?_
        refine ⟨upd G D (.lst acc), Z, F3, ρ2, _, ρ3, A3, rx, hρ3, fun σ4 A4 k4 => ?_⟩
        · have hw := wipe_same ht A3.len A4.len (assn_len hρ3) k4
          refine ⟨hw, ?_⟩
          cases hf : lcF T cal mkc co ea ρ3 with
          | none => rw [hf] at hlp; cases hlp
          | some o =>
            rw [hf] at hlp
            cases o with
            | ex e ρ' => cases hlp
            | ok y0 ρ5 =>
              simp only [bnd_ok] at hlp
              cases hr : lcLoop (lcF T cal mkc co ea) t ns (xs.drop (i + 1)) (wipeR ρ5 ns) with
              | none => rw [hr] at hlp; cases hlp
              | some o =>
                rw [hr] at hlp
                cases o with
                | ex e ρ' => cases hlp
                | ok zs' ρe' =>
                  simp only [bnd_ok, EV.pur] at hlp
                  have hf' : Aft X.K X.mg W0 (upd G D (.lst acc)) Z F3 σ4 (lcF T cal mkc co ea ρ3) fun _ _ ρ' y' => y' = y0 ∧ ρ' = ρ5 := by
                    rw [hf]; exact fun _ _ _ _ => ⟨rfl, rfl⟩
                  refine ⟨upd G D (.lst acc), Z, F3, ρ3, A4, (Aft.bnd hf').imp fun F5 H5 ρ5' d A5 e5 q5 => ?_⟩
                  cases d with
                  | false =>
                    rw [if_neg Bool.false_ne_true] at q5 ⊢
                    obtain ⟨hy, hρ⟩ := Aft.pur q5 A5
                    subst hy; subst hρ
                    have A5w := A5.wipe (ns := ns)
                    rw [hw] at A5w
                    obtain ⟨A6, h1, h2, h3⟩ := A5w.free hGD hZD (fun _ z => by cases z)
                    cases hlp
                    exact ⟨F5, _, acc, vs, zs', (e2.trans e3).trans e5, A6, h1, h2, h3, rv.mono (e3.trans e5), by omega, hys, hr⟩
                  | true =>
                    rw [if_pos rfl] at q5 ⊢
                    have q5 : Aft X.K X.mg W0 (upd G D (.lst acc)) Z F5 σ4 (EV.bnd (EV.bnd (evE T cal mkc ea ρ5') fixv) fun v ρ3 => EV.pur (some v) ρ3) (fun _ _ ρ' y' => y' = y0 ∧ ρ' = ρ5) := by rw [bnd_assoc]; exact q5
                    refine ⟨upd G D (.lst acc), Z, F5, ρ5', A5, (Aft.bnd q5).imp fun F6 H6 ρ6 v A6 e6 q6 y ry => ?_⟩
                    obtain ⟨hy, hρ⟩ := Aft.pur q6 A6
                    subst hy; subst hρ
                    have A6w := A6.wipe (ns := ns)
                    rw [hw] at A6w
                    obtain ⟨A7, h1, h2, h3⟩ := A6w.free hGD hZD (fun _ z => by cases z)
                    cases hlp
                    have hsz : acc.length < sizeLine := by
                      have : sizeLine = 16777216 := rfl
                      unfold cap at hcap
                      omega
                    exact ⟨acc, h1, hsz, F6, _, acc ++ [y], vs ++ [v], zs', ((e2.trans e3).trans e5).trans e6, A7.wr h2 hGD h3 ⟨_, h1, by nofun, by nofun⟩, upd_same, h2, h3, (rv.mono ((e3.trans e5).trans e6)).app (.cons ry .nil), by simp; omega, by rw [hys]; simp, hr⟩
      · have hi : i = xs.length := by omega
        subst hi
        rw [List.drop_length] at hlp
        simp only [lcLoop, EV.pur] at hlp
        cases hlp
        obtain ⟨A3, l3⟩ := A1.back hcl e2 A2
        refine .inl ⟨hJ.stops H (e2.trans A2.sub), ?_⟩
        rw [List.append_nil] at hys
        subst hys
        exact (Aft.up q1 e2) F2 H A3 (Ex'.refl F2) (.ref D) ⟨D, rfl, hGD, .lst hF2 hH2 rv, l3 D hL2⟩
theorem sE_lc {elt iter : Expr} {ifs : List Expr} {scope : Scope} {own : List (Str × Nat)} {ns : List Nat} {t : Tg} {it : Iter} {co : Option Ex} (hc : X.calm = true) (hN : X.N.Nodup) (hi : PI X tg iter (tIt X W T cal mkc it)) (ok : BlkOk X.N X.env.scope scope own) (hns : own.map (·.2) = ns) (ht : ∀ i ∈ tgn t, i ∈ ns)
    (hg : ∀ (s : Shared) (H : Hp) (C : Addr) (cl : List (Str × Addr)) (fp : List Addr), PG (X.blk s H scope (compEnvC scope cl C X.env) fp) tg (gT X.K X.mg t)) (hco : ∀ (s : Shared) (H : Hp) (C : Addr) (cl : List (Str × Addr)) (fp : List Addr), PTs (X.blk s H scope (compEnvC scope cl C X.env) fp) ifs (tCo X W0 T cal mkc co))
    (he : ∀ (s : Shared) (H : Hp) (C : Addr) (cl : List (Str × Addr)) (fp : List Addr), PE (X.blk s H scope (compEnvC scope cl C X.env) fp) elt (tE X.K X.mg W0 T cal mkc ea)) (hs : ∀ x, foldedSetIterable iter X.env x = pure x := by intro _; rfl) :
    PE X (.ListComp elt [⟨tg, iter, ifs, 0⟩] scope pos) (tE X.K X.mg W T cal mkc (.lc ns t it co ea)) := by
  subst hns
  exact (pe_lc hc hN hi ok hg hco (fun s H C cl fp => pe_fix (he s H C cl fp)) hs).imp fun _ _ _ q => lc_red ht q
theorem sS_setLc {i : Nat} {y : Str} {py : Pos} {spos : Pos} {elt iter : Expr} {ifs : List Expr} {scope : Scope} {own : List (Str × Nat)} {ns : List Nat} {t : Tg} {it : Iter} {co : Option Ex} (hp : i ∉ pr) (hc : X.calm = true) (hN : X.N.Nodup) (hy : X.N[i]? = some y) (hyl : X.env.scope.names.lookup y = some .local)
    (hsw : swapsWith (.ListComp elt [⟨tg, iter, ifs, 0⟩] scope pos) (some (.Name y py)) spos.line X.env = pure true) (hi : PI X tg iter (tIt X W T cal mkc it)) (ok : BlkOk X.N X.env.scope scope own) (hns : own.map (·.2) = ns) (ht : ∀ i ∈ tgn t, i ∈ ns)
    (hg : ∀ (s : Shared) (H : Hp) (C : Addr) (cl : List (Str × Addr)) (fp : List Addr), PG (X.blk s H scope (compEnvC scope cl C X.env) fp) tg (gT X.K X.mg t)) (hco : ∀ (s : Shared) (H : Hp) (C : Addr) (cl : List (Str × Addr)) (fp : List Addr), PTs (X.blk s H scope (compEnvC scope cl C X.env) fp) ifs (tCo X W0 T cal mkc co))
    (he : ∀ (s : Shared) (H : Hp) (C : Addr) (cl : List (Str × Addr)) (fp : List Addr), PE (X.blk s H scope (compEnvC scope cl C X.env) fp) elt (tE X.K X.mg W0 T cal mkc ea)) (hs : ∀ x, foldedSetIterable iter X.env x = pure x := by intro _; rfl) :
    PS X (.Assign [.Name y py] (.ListComp elt [⟨tg, iter, ifs, 0⟩] scope pos) spos) (tS X W T cal mkc pr (.asg (.nm i) (.lc ns t it co ea))) := by
  subst hns
  exact (ps_setLc hc hN hy hyl hsw hi ok hg hco (fun s H C cl fp => pe_fix (he s H C cl fp)) hs).imp fun _ _ _ q => asgN_red hp (fun _ z => lc_red ht z) q
end
end EV
namespace EV
open PySem PySem.Spec PyProof.Rows L2
section
variable {pr : List Nat} {X : Cx} {W : WX} {T : Tab} {cal mkc : Cal} {a b c e tg : Expr} {ea eb ec ek : Ex} {pos p : Pos} {kr : Nat}
theorem key_repX {F : Hp} {x : V} {v : Val} (r : Rep X.K X.mg F x v) (h : keyOk v = true) : ∃ k : Key, x = kV k ∧ v = keyV k := by
  cases r with
  | int i => exact ⟨.inl i, rfl, rfl⟩
  | str l => exact ⟨.inr (toS l), rfl, by simp [keyV, toS]⟩
  | _ => simp [keyOk] at h
def dcF (T : Tab) (cal mkc : Cal) (k e : Ex) : Ro → Res (Val × Val) := fun ρ => bnd (evE T cal mkc k ρ) fun r ρ2 => bnd (fixv r ρ2) fun a ρ3 => bnd (evE T cal mkc e ρ3) fun q ρ4 => bnd (fixv q ρ4) fun v ρ5 => pur (a, v) ρ5
end
end EV
namespace EV
open PySem PySem.Spec PyProof.Rows L2
section
variable {pr : List Nat} {X : Cx} {W : WX} {T : Tab} {cal mkc : Cal} {a b c e tg : Expr} {ea eb ec ek : Ex} {pos p : Pos} {kr : Nat}
structure ResL (K : PySem.W.Frag) (mg : Str → Option Value) (G F : Hp) (σ : L2.St) (H : Hp) (ρ : Ro) (xs : List V) (rs : List Slot) : Prop where
  all : Paired (ResR K mg G F σ H ρ) xs rs
  ap : (ioOf xs rs).Nodup
def tSl (X : Cx) (W : WX) (T : Tab) (cal mkc : Cal) (es : List Ex) : TA := fun σ H Q => ∃ G Z F ρ, Abs X.K X.mg G Z F σ H ρ ∧ Aft X.K X.mg W G Z F σ (evSl T cal mkc es ρ) fun F' H' ρ' rs => ∀ xs, ResL X.K X.mg G F' σ H' ρ' xs rs → Q xs H'
theorem sL_nil : PA X [] (tSl X W T cal mkc []) := by
  refine pa_nil.imp fun σ H Q q => ?_
  obtain ⟨G, Z, F, ρ, A, q⟩ := q
  exact Aft.pur q A [] ⟨.nil, by simp [ioOf]⟩
theorem Aft.hold {α : Type} {G Z F : Hp} {σ : L2.St} {m : Res α} {C : Hp → Hp → Ro → α → Prop} {q : Addr} {o : HO} (h : Aft X.K X.mg W G Z F σ m C) (hG : G q = none) (hZ : Z q = none) (ho : ∀ xs, o ≠ .tup xs) :
    Aft X.K X.mg W (upd G q o) Z F σ m fun F' H' ρ' a => C F' H' ρ' a ∧ H' q = some o ∧ F' q = none ∧ Lone σ ρ' q := by
  match m, h with
  | some (.ok a ρ'), h =>
    intro F' H' A e
    obtain ⟨A1, h1, h2, h3⟩ := A.free hG hZ ho
    exact ⟨h F' H' A1 e, h1, h2, h3⟩
  | some (.ex e ρ'), h => exact fun F' H' d A e' r => h F' H' d (A.free hG hZ ho).1 e' r
  | none, h => exact h
theorem ResR.unhold {G F : Hp} {σ : L2.St} {H : Hp} {ρ : Ro} {q : Addr} {o : HO} {x : V} {r : Slot} (h : ResR X.K X.mg (upd G q o) F σ H ρ x r) : ResR X.K X.mg G F σ H ρ x r ∧ (∀ v, r = .ow v → x ≠ .ref q) := by
  cases r with
  | un => exact h.elim
  | fz v => exact ⟨h, fun _ z => by cases z⟩
  | ow v =>
    obtain ⟨a, e, g, ow, l⟩ := h
    have ha : a ≠ q := fun z => by rw [z, upd_same] at g; cases g
    rw [upd_ne ha] at g
    exact ⟨⟨a, e, g, ow, l⟩, fun _ _ z => by rw [e] at z; cases z; exact ha rfl⟩
theorem ioOf_no {xs : List V} {rs : List Slot} {q : Addr} (h : Paired (fun x r => ∀ v, r = Slot.ow v → x ≠ .ref q) xs rs) : q ∉ ioOf xs rs := fun z => by
  obtain ⟨i, v, h1, h2⟩ := ioOf_mem z
  exact paired_at h h1 h2 v rfl rfl
theorem paired_imp {α β : Type} {R S : α → β → Prop} (k : ∀ x y, R x y → S x y) : ∀ {xs : List α} {ys : List β}, Paired R xs ys → Paired S xs ys
  | _, _, .nil => .nil
  | _, _, .cons a r => .cons (k _ _ a) (paired_imp k r)
theorem sL_cons {es : List Expr} {xs : List Ex} (ha : PE X e (tE X.K X.mg W T cal mkc ea)) (hr : PA X es (tSl X W T cal mkc xs)) (hs : starEach (e :: es) X.env = (false, eval e X.env) :: starEach es X.env) : PA X (e :: es) (tSl X W T cal mkc (ea :: xs)) := by
  refine (pa_cons ha hr hs).imp fun σ H Q q => ?_
  obtain ⟨G, Z, F, ρ, A, q⟩ := q
  have q : Aft X.K X.mg W G Z F σ (EV.bnd (evE T cal mkc ea ρ) fun q ρ1 => EV.bnd (evSl T cal mkc xs ρ1) fun qs ρ2 => EV.pur (q :: qs) ρ2) _ := q
  refine ⟨G, Z, F, ρ, A, (Aft.bnd q).imp fun F1 H1 ρ1 r A1 e1 q1 x rx => ?_⟩
  cases r with
  | un => exact rx.elim
  | fz v =>
    refine ⟨G, Z, F1, ρ1, A1, (Aft.bnd q1).imp fun F2 H2 ρ2 rs A2 e2 q2 ys rys => Aft.pur q2 A2 _ ⟨.cons (Rep.mono e2 rx) rys.all, ?_⟩⟩
    cases x <;> exact rys.ap
  | ow v =>
    obtain ⟨p, rfl, g, o, l⟩ := rx
    obtain ⟨u, hu, hn⟩ := o.at
    have hth : ∀ ps, u ≠ .tbl ps := by
      obtain ⟨u', hu', ht', _⟩ := o.th
      rw [hu] at hu'; cases hu'; exact ht'
    have hZ : Z p = none := by
      cases z : Z p with
      | none => rfl
      | some w => have := A1.f0 p w z; rw [o.no] at this; cases this
    refine ⟨upd G p u, Z, F1, ρ1, A1.hold hu o.no l hth, ((Aft.bnd q1).hold g hZ hn).imp fun F2 H2 ρ2 rs A2 e2 q2 ys rys => ?_⟩
    obtain ⟨q2, h1, h2, h3⟩ := q2
    have A3 := (A2.free g hZ hn).1
    refine Aft.pur q2 A3 _ ⟨.cons ⟨p, rfl, g, o.keep e2 h2 (h1.trans hu.symm), h3⟩ (paired_imp (fun x r h => (ResR.unhold (X := X) h).1) rys.all), ?_⟩
    show (p :: ioOf ys rs).Nodup
    exact List.nodup_cons.mpr ⟨ioOf_no (paired_imp (fun x r h => (ResR.unhold (X := X) h).2) rys.all), rys.ap⟩
theorem ResR.set {G Z F : Hp} {σ : L2.St} {H : Hp} {ρ : Ro} {i : Nat} {x y : V} {r s : Slot} (A : Abs X.K X.mg G Z F σ H ρ) (hi : i < ρ.length) (h : ResR X.K X.mg G F σ H ρ x r) (hd : ∀ v w a, r = .ow v → s = .ow w → x = .ref a → y ≠ .ref a) : ResR X.K X.mg G F (σ.set i (some y)) H (ρ.set i s) x r := by
  have his : i < σ.length := by rw [← A.len]; exact hi
  cases r with
  | un => exact h.elim
  | fz v => exact h
  | ow v =>
    obtain ⟨a, e, g, o, l⟩ := h
    refine ⟨a, e, g, o, fun j w q z => ?_⟩
    rw [set_get hi] at q; rw [set_get his] at z
    by_cases hj : j = i
    · rw [if_pos hj] at q z
      cases q; cases z
      exact hd v w a rfl rfl e rfl
    · rw [if_neg hj] at q z
      exact l j w q z
def setV : List Nat → List V → L2.St → L2.St
  | i :: is, x :: xs, σ => setV is xs (σ.set i (some x))
  | _, _, σ => σ
theorem abs_setAll {G Z F : Hp} {H : Hp} : ∀ {is : List Nat} {xs : List V} {rs : List Slot} {σ : L2.St} {ρ ρ' : Ro}, Abs X.K X.mg G Z F σ H ρ → Paired (ResR X.K X.mg G F σ H ρ) xs rs → (ioOf xs rs).Nodup → setAll is rs ρ = some ρ' → Abs X.K X.mg G Z F (setV is xs σ) H ρ'
  | [], _, _, σ, ρ, ρ', A, .nil, _, h => by simp only [setAll] at h; cases h; exact A
  | [], _, _, σ, ρ, ρ', A, .cons _ _, _, h => by simp only [setAll] at h; cases h
  | i :: is, _, _, σ, ρ, ρ', A, .nil, _, h => by simp only [setAll] at h; cases h
  | i :: is, _, _, σ, ρ, ρ', A, .cons (a := x) (b := r) (l₁ := xs) (l₂ := rs) rx rr, nd, h => by
    simp only [setAll] at h
    split at h
    · rename_i hi
      have nd2 : (ioOf xs rs).Nodup ∧ ∀ v a, r = .ow v → x = .ref a → a ∉ ioOf xs rs := by
        cases r with
        | ow v =>
          obtain ⟨p, rfl, _⟩ := rx
          have nd : (p :: ioOf xs rs).Nodup := nd
          exact ⟨(List.nodup_cons.mp nd).2, fun _ a _ z => by cases z; exact (List.nodup_cons.mp nd).1⟩
        | fz v => exact ⟨by cases x <;> exact nd, fun _ _ z => by cases z⟩
        | un => exact rx.elim
      show Abs X.K X.mg G Z F (setV is xs (σ.set i (some x))) H ρ'
      refine abs_setAll (A.set rx hi) ?_ nd2.1 h
      refine paired_mem rr fun j y s hy hs ry => ResR.set A hi ry fun v w a hr hs' ey ex => ?_
      subst hr; subst ey
      exact nd2.2 w a hs' ex (ioOf_at hy hs)
    · cases h
  where
    paired_mem {α β : Type} {R S : α → β → Prop} : ∀ {xs : List α} {ys : List β}, Paired R xs ys → (∀ (j : Nat) x y, xs[j]? = some x → ys[j]? = some y → R x y → S x y) → Paired S xs ys
      | _, _, .nil, _ => .nil
      | _, _, .cons a r, k => .cons (k 0 _ _ rfl rfl a) (paired_mem r fun j x y h1 h2 => k (j + 1) x y (by simpa using h1) (by simpa using h2))
    ioOf_at : ∀ {xs : List V} {rs : List Slot} {j : Nat} {a : Addr} {v : Val}, xs[j]? = some (.ref a) → rs[j]? = some (.ow v) → a ∈ ioOf xs rs
      | [], _, _, _, _, h, _ => by simp at h
      | _ :: _, [], _, _, _, _, h => by simp at h
      | x :: xs, s :: ss, 0, a, v, h1, h2 => by
        simp at h1 h2; subst h1; subst h2
        exact List.mem_cons_self
      | x :: xs, s :: ss, j + 1, a, v, h1, h2 => by
        have ih : a ∈ ioOf xs ss := ioOf_at (j := j) (v := v) (by simpa using h1) (by simpa using h2)
        cases x with
        | ref b =>
          cases s with
          | ow w => exact List.mem_cons_of_mem _ ih
          | fz w => exact ih
          | un => exact ih
        | _ => cases s <;> exact ih
theorem kp_setV {is : List Nat} : ∀ {xs : List V} {σ : L2.St}, (∀ i ∈ is, i ∉ pr) → Kp pr σ (setV is xs σ) := by
  induction is with
  | nil => intro xs σ _; exact Kp.refl pr σ
  | cons i is ih =>
    intro xs σ h
    cases xs with
    | nil => exact Kp.refl pr σ
    | cons x xs => exact (kp_set (h i List.mem_cons_self)).trans (ih fun j hj => h j (List.mem_cons_of_mem _ hj))
theorem par_red {is : List Nat} {es : List Ex} {D : Ends} {σ : L2.St} {H : Hp} (hp : ∀ i ∈ is, i ∉ pr) (q : tS X W T cal mkc pr (.par is es) D σ H) : tSl X W T cal mkc es σ H fun vs H1 => vs.length = is.length ∧ D.nx (setV is vs σ) H1 := by
  obtain ⟨G, Z, F, ρ, A, q⟩ := q
  refine ⟨G, Z, F, ρ, A, (AftS.bnd q).imp fun F1 H1 ρ1 rs A1 e1 q1 xs rx => ?_⟩
  cases hm : setAll is rs ρ1 with
  | none => rw [hm] at q1; exact q1.elim
  | some ρ2 =>
    rw [hm] at q1
    refine ⟨?_, AftS.nxK q1 (abs_setAll A1 rx.all rx.ap hm) (kp_setV hp)⟩
    have l1 := rx.all.length
    have l2 : ∀ (is : List Nat) (rs : List Slot) (ρ ρ2 : Ro), setAll is rs ρ = some ρ2 → rs.length = is.length := by
      intro is
      induction is with
      | nil => intro rs ρ ρ2 h; cases rs <;> simp [setAll] at h ⊢
      | cons i is ih =>
        intro rs ρ ρ2 h
        cases rs with
        | nil => simp [setAll] at h
        | cons r rs =>
          simp only [setAll] at h
          split at h
          · simp [ih _ _ _ h]
          · cases h
    rw [l1]; exact l2 _ _ _ _ hm
theorem sS_par {i j : Nat} {x y : Str} {xs : List Ex} {px py pt pt2 : Pos} {kt k2} (hp : ∀ l ∈ [i, j], l ∉ pr) (hc : X.calm = true) (hN : X.N.Nodup) (hi : X.N[i]? = some x) (hj : X.N[j]? = some y) (hij : i ≠ j) (hx : X.env.scope.names.lookup x = some .local) (hy : X.env.scope.names.lookup y = some .local) (ha : PA X [a, b] (tSl X W T cal mkc xs))
    (hw : swappedStores [.Tuple [.Name x px, .Name y py] kt pt] (.Tuple [a, b] k2 pt2) X.env = pure (some [x, y])) (hs : swapsWithSole [.Tuple [.Name x px, .Name y py] kt pt] (.Tuple [a, b] k2 pt2) pos.line X.env = pure false := by rfl) :
    PS X (.Assign [.Tuple [.Name x px, .Name y py] kt pt] (.Tuple [a, b] k2 pt2) pos) (tS X W T cal mkc pr (.par [i, j] xs)) := by
  refine (ps_par hc hN hi hj hij hx hy ha hw hs).imp fun D σ H q => ?_
  obtain ⟨G, Z, F, ρ, A, q⟩ := par_red hp q
  refine ⟨G, Z, F, ρ, A, q.imp fun F1 H1 ρ1 rs A1 e1 q1 xs rx => ?_⟩
  obtain ⟨hl, q1⟩ := q1 xs rx
  match xs, hl, q1 with
  | [v, w], _, q1 => exact ⟨v, w, rfl, q1⟩
end
end EV
namespace EV
open PySem PySem.Spec PyProof.Rows L2
section
variable {pr : List Nat} {X : Cx} {W : WX} {T : Tab} {cal mkc : Cal} {a b c e tg : Expr} {ea eb ec ek : Ex} {pos p : Pos} {kr : Nat}
theorem Abs.wrO {G Z F : Hp} {σ : L2.St} {H : Hp} {ρ : Ro} {i : Nat} {q : Addr} {v r : Val} {ob : HO} (A : Abs X.K X.mg G Z F σ H ρ) (hρ : ρ[i]? = some (.ow v)) (hσ : σ[i]? = some (some (.ref q))) (o : Own X.K X.mg F (upd H q ob) q r) : Abs X.K X.mg G Z F σ (upd H q ob) (ρ.set i (.ow r)) := by
  have hi : i < ρ.length := (List.getElem?_eq_some_iff.mp hρ).1
  obtain ⟨q', h1, hG, o0⟩ := A.ow i v hρ
  rw [hσ] at h1; cases h1
  have hF := o0.no
  refine ⟨fun a u z => ?_, fun a u z => ?_, A.f0, A.nw, by rw [List.length_set]; exact A.len, fun j w z => ?_, fun j w z => ?_, fun j k b w w' hjk z z' s s' => ?_, A.x.tb.wr o0.th, A.x.nf, A.x.ng⟩
  · rw [upd_ne (fun y => by rw [y, hF] at z; cases z)]; exact A.sub a u z
  · rw [upd_ne (fun y => by rw [y, hG] at z; cases z)]; exact A.bg a u z
  · rw [set_get hi] at z
    by_cases hj : j = i
    · rw [if_pos hj] at z; cases z
    · rw [if_neg hj] at z; exact A.fz j w z
  · rw [set_get hi] at z
    by_cases hj : j = i
    · rw [if_pos hj] at z; cases z
      rw [hj]; exact ⟨q, hσ, hG, o⟩
    · rw [if_neg hj] at z
      obtain ⟨b, h1, h2, h3⟩ := A.ow j w z
      have hb : b ≠ q := fun y => A.ap i j q v w (Ne.symm hj) hρ z hσ (by rw [← y]; exact h1)
      exact ⟨b, h1, h2, h3.keep (Ex'.refl F) h3.no (upd_ne hb)⟩
  · have old : ∀ {j : Nat} {w : Val}, (ρ.set i (.ow r))[j]? = some (.ow w) → ∃ w, ρ[j]? = some (.ow w) := fun {j w} z => by
      rw [set_get hi] at z
      by_cases hj : j = i
      · rw [hj]; exact ⟨v, hρ⟩
      · rw [if_neg hj] at z; exact ⟨w, z⟩
    obtain ⟨w1, z1⟩ := old z
    obtain ⟨w2, z2⟩ := old z'
    exact A.ap j k b w1 w2 hjk z1 z2 s s'
theorem own_at {ρ : Ro} {i : Nat} {v : Val} (h : ownAt i ρ = some v) : ρ[i]? = some (.ow v) := by
  unfold ownAt at h
  split at h
  · rename_i w hw; cases h; exact hw
  · cases h
theorem own_is {ρ : Ro} {i : Nat} (h : ¬ (!(ownAt i ρ).isSome) = true) : ∃ v, ρ[i]? = some (.ow v) := by
  cases q : ownAt i ρ with
  | none => rw [q] at h; exact absurd rfl h
  | some v => exact ⟨v, own_at q⟩
theorem sub_red {G Z F : Hp} {σ : L2.St} {H : Hp} {ρ : Ro} {i : Nat} {x : Val} {y : V} {Q : L2.St → Hp → Prop} {k : Res Fl} {D : Ends} (A : Abs X.K X.mg G Z F σ H ρ) (rx : Rep X.K X.mg F y x) {f : Val → Ro → Res Fl}
    (h : AftS X W pr σ G Z F (if !(ownAt i ρ).isSome then none else EV.bnd (opnd ek (evE T cal mkc ek) ρ) fun z ρ3 => match (ownAt i ρ3).bind fun u => (z.val ρ3).bind fun w => setF u w x with
      | some v => f v ρ3
      | none => none) D)
    (hk : ∀ F' H' ρ3 v (ob : Addr × HO), Abs X.K X.mg G Z F' σ (upd H' ob.1 ob.2) (ρ3.set i (.ow v)) → Ex' F F' → AftS X W pr σ G Z F' (f v ρ3) D → Q σ (upd H' ob.1 ob.2)) : gSub (tVar i) (tO X.K X.mg W T cal mkc ek) (rSetV X.K X.mg) y σ H Q := by
  split at h
  · exact h.elim
  · rename_i hs
    obtain ⟨v0, hv0⟩ := own_is hs
    obtain ⟨q, hq, hG, o⟩ := A.ow i v0 hv0
    refine ⟨.ref q, hq, G, Z, F, ρ, A, (AftS.bnd h).imp fun F1 H1 ρ1 z A1 e1 h1 vz rz => ?_⟩
    cases hm : ((ownAt i ρ1).bind fun u => (z.val ρ1).bind fun w => setF u w x) with
    | none => rw [hm] at h1; exact h1.elim
    | some r =>
      rw [hm] at h1
      obtain ⟨u, hu, hm⟩ := Option.bind_eq_some_iff.mp hm
      obtain ⟨w, hw, hm⟩ := Option.bind_eq_some_iff.mp hm
      have hu := own_at hu
      obtain ⟨q', hq', _, o1⟩ := A1.ow i u hu
      rw [hq] at hq'; cases hq'
      exact ⟨F1, q, u, w, x, r, rfl, A1.sub, o1, OpdR.read A1 rz hw, rx.mono e1, hm, fun ob o2 => hk F1 H1 ρ1 r (q, ob) (A1.wrO hu hq o2) e1 h1⟩
theorem sS_sub {o i : Expr} {j : Nat} {p2 : Pos} (hr : Room kr X.A) (ho : PE X o (tVar j)) (hi : PE X i (tO X.K X.mg W T cal mkc ek)) (he : PE X e (tE X.K X.mg W T cal mkc ea))
    (ha : ∀ v, assign (.Subscript o i p2) X.env v = (do
      let ov ← holding [v] (eval o X.env)
      let iv ← holding [v, ov] (eval i X.env)
      standAt p2
      holding [v, ov, iv] (setItem ov iv v)
      release [v, ov, iv] []) := by intro _; rfl)
    (hs : swapsWithSole [.Subscript o i p2] e pos.line X.env = pure false := by rfl) (hw : swappedStores [.Subscript o i p2] e X.env = pure none := by rfl) (h1 : (assignEach [.Subscript o i p2] X.env).map (·.2) = [assign (.Subscript o i p2) X.env] := by rfl) :
    PS X (.Assign [.Subscript o i p2] e pos) (tS X W T cal mkc pr (.sub j ek ea)) := by
  refine (ps_asg (pe_fix he) (pg_sub ho hi (set_val hr) ha) hs hw h1).imp fun D σ H q => ?_
  obtain ⟨G, Z, F, ρ, A, q⟩ := q
  have e1 : evS T cal mkc (.sub j ek ea) ρ = EV.bnd (EV.bnd (evE T cal mkc ea ρ) fixv) fun x ρ2 => if !(ownAt j ρ2).isSome then none else EV.bnd (opnd ek (evE T cal mkc ek) ρ2) fun y ρ3 => match (ownAt j ρ3).bind fun u => (y.val ρ3).bind fun w => setF u w x with
      | some v => EV.pur .nx (ρ3.set j (.ow v))
      | none => none := by rw [bnd_assoc]; rfl
  rw [e1] at q
  refine ⟨G, Z, F, ρ, A, (AftS.bnd q).imp fun F1 H1 ρ1 x A1 e1 q1 y ry => ?_⟩
  exact sub_red (k := none) (f := fun v ρ3 => EV.pur .nx (ρ3.set j (.ow v))) A1 ry q1 fun F' H' ρ3 v ob A' e' q' => AftS.nx q' A'
theorem sS_subp {o i : Expr} {j l : Nat} {x : Str} {p2 px pt : Pos} {kt : Nat} (hp : l ∉ pr) (hc : X.calm = true) (hN : X.N.Nodup) (hl : X.N[l]? = some x) (hx : Loc X.env.scope x) (hr : Room kr X.A) (ho : PE X o (tVar j)) (hi : PE X i (tO X.K X.mg W T cal mkc ek)) (he : PE X e (tE X.K X.mg W T cal mkc ea))
    (ha : ∀ v, assign (.Subscript o i p2) X.env v = (do
      let ov ← holding [v] (eval o X.env)
      let iv ← holding [v, ov] (eval i X.env)
      standAt p2
      holding [v, ov, iv] (setItem ov iv v)
      release [v, ov, iv] []) := by intro _; rfl)
    (hf : X.fn x = true ∨ X.env.scope.names.lookup x = some .local := by first | exact .inl rfl | exact .inr rfl | assumption)
    (ht1 : (assignEach [.Subscript o i p2, .Name x px] X.env).map (·.2) = assign (.Subscript o i p2) X.env :: (assignEach [.Name x px] X.env).map (·.2) := by rfl) (ht2 : (assignEach [.Name x px] X.env).map (·.2) = assign (.Name x px) X.env :: (assignEach [] X.env).map (·.2) := by rfl)
    (hn : (assignEach [.Subscript o i p2, .Name x px] X.env).length = 2 := by rfl) (hst : (assignEach [.Subscript o i p2, .Name x px] X.env).findIdx? (·.1) = none := by rfl)
    (hs : swapsWithSole [.Tuple [.Subscript o i p2, .Name x px] kt pt] e pos.line X.env = pure false := by rfl) (hw : swappedStores [.Tuple [.Subscript o i p2, .Name x px] kt pt] e X.env = pure none := by rfl) (h1 : (assignEach [.Tuple [.Subscript o i p2, .Name x px] kt pt] X.env).map (·.2) = [assign (.Tuple [.Subscript o i p2, .Name x px] kt pt) X.env] := by rfl) :
    PS X (.Assign [.Tuple [.Subscript o i p2, .Name x px] kt pt] e pos) (tS X W T cal mkc pr (.subp j ek l ea)) := by
  refine (ps_asg he (pg_tup hc (pgs_cons (pg_sub ho hi (set_val hr) ha) (pgs_cons (pg_name hN hl hx hf) pgs_nil ht2) ht1) hn hst) hs hw h1).imp fun D σ H q => ?_
  obtain ⟨G, Z, F, ρ, A, q⟩ := q
  refine ⟨G, Z, F, ρ, A, (AftS.bnd q).imp fun F1 H1 ρ1 r A1 e1 q1 y ry => ?_⟩
  split at q1
  · rename_i u w
    have ry : Rep X.K X.mg F1 y (.tup [u, w]) := ry
    cases ry with
    | @tup ad xs _ s1 r1 =>
      cases r1 with
      | @cons x1 xs1 _ _ ra r1 =>
        cases r1 with
        | @cons x2 xs2 _ _ rb r1 =>
          cases r1
          refine ⟨ad, _, rfl, .inl (.inl (A1.sub _ _ s1)), rfl, x1, [x2], rfl, ?_⟩
          refine sub_red (k := none) (f := fun v ρ3 => if l < ρ3.length ∧ j ≠ l then EV.pur .nx ((ρ3.set j (.ow v)).set l (.fz w)) else none) A1 ra q1 fun F' H' ρ3 v ob A' e' q' => ?_
          refine ⟨x2, [], rfl, ?_⟩
          split at q'
          · rename_i hc
            exact ⟨rfl, AftS.nxK q' (A'.set (x := x2) (r := .fz w) (rb.mono e') (by rw [List.length_set]; exact hc.1)) (kp_set hp)⟩
          · exact q'.elim
  · exact q1.elim
end
end EV
namespace EV
open PySem PySem.Spec PyProof.Rows L2
section
variable {pr : List Nat} {X : Cx} {W : WX} {T : Tab} {cal mkc : Cal} {a b c e tg : Expr} {ea eb ec ek : Ex} {pos p : Pos} {kr : Nat}
def rAug (K : PySem.W.Frag) (mg : Str → Option Value) : TIp := fun x y H Q => ∃ F u w, Ex' F H ∧ RepB K mg F H x u ∧ RepB K mg F H y w ∧ ((∃ n, binF .add u w = some (.fz (.int n)) ∧ Q (.int n) H) ∨ ∃ l, binF .add u w = some (.fz (.str l)) ∧ Q (.str (toS l)) H)
theorem RepF.put {K : PySem.W.Frag} {mg : Str → Option Value} {F : Hp} {f : String} {y : V} {v : Val} (ry : Rep K mg F y v) : ∀ {xs : List (Str × V)} {fs : List (String × Val)}, RepF K mg F xs fs → RepF K mg F (putF (Str.ofString f) y xs) (putFs f v fs)
  | _, _, .nil => .cons ry .nil
  | _, _, .cons (f := g) a r => by
    simp only [putF, putFs]
    by_cases h : g = f
    · subst h; rw [if_pos rfl, if_pos rfl]; exact .cons ry r
    · rw [if_neg h, if_neg (fun z => h (ofString_inj z))]; exact .cons a (RepF.put ry r)
theorem RepF.length {K : PySem.W.Frag} {mg : Str → Option Value} {F : Hp} : ∀ {xs : List (Str × V)} {fs : List (String × Val)}, RepF K mg F xs fs → xs.length = fs.length
  | _, _, .nil => rfl
  | _, _, .cons a r => by simp [RepF.length r]
theorem sS_setf {o : Expr} {i : Nat} {f : String} {p2 : Pos} (ho : PE X o (tVar i)) (he : PE X e (tE X.K X.mg W T cal mkc ea)) (hf : ∀ c, T.fld c f = true → Cls X.K (GH.clsA X.mg (Str.ofString c)) ∧ NoAttr X.K (GH.clsA X.mg (Str.ofString c)) (Str.ofString f)) (hs : swapsWith e (some (.Attribute o (Str.ofString f) p2)) pos.line X.env = pure false) :
    PS X (.Assign [.Attribute o (Str.ofString f) p2] e pos) (tS X W T cal mkc pr (.setf i f ea)) := by
  refine (ps_fld ho (pe_fix he) hs).imp fun D σ H q => ?_
  obtain ⟨G, Z, F, ρ, A, q⟩ := q
  have e1 : evS T cal mkc (.setf i f ea) ρ = EV.bnd (EV.bnd (evE T cal mkc ea ρ) fixv) fun x ρ2 => match ownAt i ρ2 with
    | some (.obj c fs) => if fs.length < 20 ∧ T.fld c f = true then EV.pur .nx (ρ2.set i (.ow (.obj c (putFs f x fs)))) else none
    | _ => none := by rw [bnd_assoc]; rfl
  rw [e1] at q
  refine ⟨G, Z, F, ρ, A, (AftS.bnd q).imp fun F1 H1 ρ1 x A1 e1 q1 y ry => ?_⟩
  cases hm : ownAt i ρ1 with
  | none => rw [hm] at q1; exact q1.elim
  | some u =>
    rw [hm] at q1
    cases u with
    | obj c fs =>
      have hρ := own_at hm
      obtain ⟨q, hq, hG, o⟩ := A1.ow i _ hρ
      have q1 : AftS X W pr σ G Z F1 (if fs.length < 20 ∧ T.fld c f = true then EV.pur .nx (ρ1.set i (.ow (.obj c (putFs f x fs)))) else none) D := q1
      split at q1
      · rename_i hc
        obtain ⟨c1, c2⟩ := hf c hc.2
        cases o with
        | @obj dx _ xs _ n h r =>
          refine ⟨_, hq, q, _, dx, xs, rfl, h, c1, c2, by rw [r.length]; omega, ?_⟩
          exact AftS.nx q1 (A1.wrO hρ hq (.obj n upd_same (RepF.put ry r)))
      · exact q1.elim
    | _ => exact q1.elim
theorem sS_try {body : List Stmt} {h₀ : ExceptHandler} {hs : List ExceptHandler} {xa xb : List Sx} {cs : List String} {n : Option Nat} (hb : PSs X.nox body (tSs X W0 T cal mkc pr xa)) : PS X (.Try body (h₀ :: hs) [] [] pos) (tS X W T cal mkc pr (.tri xa cs n xb)) := by
  refine (ps_try_thru0 hb).imp fun D σ H q => ?_
  obtain ⟨G, Z, F, ρ, A, q⟩ := q
  refine ⟨G, Z, F, ρ, A, ?_⟩
  have q : AftS X W pr σ G Z F (quiet (evSs T cal mkc xa ρ)) D := q
  cases hm : evSs T cal mkc xa ρ with
  | none => rw [hm] at q; exact q.elim
  | some o =>
    rw [hm] at q
    cases o with
    | ex e ρ' => exact q.elim
    | ok f ρ' =>
      cases f with
      | nx => exact q
      | rt r => exact q
end
end EV
namespace EV
open PySem PySem.Spec PyProof.Rows L2
section
variable {X : Cx} {pins : List (Addr × Obj)} {σ : L2.St} {H : Hp} {s : Shared} {D b : Addr} {kvs : List (List Key × V)} {k : List Key} {v : V} {r : Value}
end
def tDcT (wi : TI) (g : TG) (tt : TT) (tk tv : TE) (vs : List Nat) : TE := fun σ H Q => wi σ H fun J H1 => ∀ D, H1 D = none → ∃ W : Nat → Nat → Hp → Prop, (∃ m, W 0 m (upd H1 D (.dT []))) ∧ ∀ i m H, W i m H →
  (J.stop i H ∧ Q (.ref D) H) ∨ (J.go i H ∧ ∃ Nx : Hp → Prop, (∀ H', Nx H' → ∃ m', m' < m ∧ W (i + 1) m' H') ∧ ∀ x H', J.yld i H x H' → g x (L2.wipe σ vs) H' fun σ2 H2 => L2.wipe σ2 vs = L2.wipe σ vs ∧ tt σ2 H2 fun b H3 =>
    if b = true then tk σ2 H3 fun y H4 => tv σ2 H4 fun z H5 => ∃ kvs k p, y = .ref p ∧ H5 p = some (.tup (k.map kV)) ∧ H5 D = some (.dT kvs) ∧ kvs.length < sizeLine ∧ Nx (upd H5 D (.dT (putK kvs k z))) else Nx H3)
section
variable {X : Cx}
end
def tDispT (tk tv : TE) : TE := fun σ H Q => ∀ p, H p = none → tk σ (upd H p (.dT [])) fun x H1 => tv σ H1 fun y H2 => H2 p = some (.dT []) ∧ ∃ (k : List Key) (b : Addr), x = .ref b ∧ H2 b = some (.tup (k.map kV)) ∧ Q (.ref p) (upd H2 p (.dT [(k, y)]))
def hashL (w : World) (k : List Key) : Int := reduceHash (Builtin.Tuple.tupleHashOf (k.map (keyH w)))
def mergeT (kvs more : List (List Key × V)) : List (List Key × V) := more.foldl (fun acc kv => putK acc kv.1 kv.2) kvs
def rUpdT : V → List V → Hp → VK → Prop := fun x xs H Q => ∃ (d o : Addr) (kvs more : List (List Key × V)), x = .ref d ∧ xs = [.ref o] ∧ H d = some (.dT kvs) ∧ Rd H o (.dT more) ∧ d ≠ o ∧ kvs.length + more.length ≤ 1000 ∧
  (kvs ≠ [] ∨ ∀ w, (more.map fun p => hashL w p.1).Nodup) ∧ Q .non (upd H d (.dT (mergeT kvs more)))
end EV
namespace EV
open PySem PySem.Spec PyProof.Rows L2
section
variable {pr : List Nat} {X : Cx} {W : WX} {T : Tab} {cal mkc : Cal} {a b c e o tg : Expr} {ea eb ec ek : Ex} {pos p : Pos} {kr : Nat}
def rMut (K : PySem.W.Frag) (mg : Str → Option Value) (m : Mu) : V → List V → Hp → VK → Prop := fun x xs H Q => ∃ F q u ws r, x = .ref q ∧ Ex' F H ∧ Own K mg F H q u ∧ Reps K mg F xs ws ∧ mutF m u ws = some r ∧ ∀ ob, Own K mg F (upd H q ob) q r → Q .non (upd H q ob)
theorem mv_append : MtM X "list.append" (rMut X.K X.mg .append) := by
  intro pins s σ H x vs v us Q I rx rv h
  obtain ⟨F, q, u, ws, r, rfl, e, ow, rws, hm, k⟩ := h
  refine mt_append pins s σ H _ vs v us Q I rx rv ?_
  cases ow with
  | @lst xs zs n h1 r1 =>
    cases rws with
    | nil => simp [mutF] at hm
    | @cons y ys w ws ry rws =>
      cases rws with
      | nil =>
        simp only [mutF] at hm
        split at hm
        · rename_i hc
          cases hm
          refine ⟨q, xs, y, rfl, rfl, h1, ?_, k _ (.lst n upd_same (r1.app (.cons ry .nil)))⟩
          have : sizeLine = 16777216 := rfl
          have := r1.length
          unfold cap at hc
          omega
        · cases hm
      | cons _ _ => simp [mutF] at hm
  | dk n h1 r1 => simp [mutF] at hm
  | dt n h1 r1 => simp [mutF] at hm
  | obj n h1 r1 => simp [mutF] at hm
def rUpdR : V → List V → Hp → VK → Prop := fun x xs H Q => ∃ (d o : Addr) (kvs more : List (Key × V)), x = .ref d ∧ xs = [.ref o] ∧ H d = some (.dK kvs) ∧ (Rd H o (.dK more) ∨ (more = [] ∧ Rd H o (.dT []))) ∧ d ≠ o ∧ kvs.length + more.length ≤ 1000 ∧ Q .non (upd H d (.dK (mergeK kvs more)))
theorem mut_red {TN : String} {m : Mu} {i : Nat} {es : List Ex} {D : Ends} {σ : L2.St} {H : Hp} (hT : ∀ F q u, Own X.K X.mg F H q u → mutK m u = true → tyV X.K TN (.ref q) H) (q : tS X W T cal mkc pr (.mut i m es) D σ H) :
    tDrop (tBM X.K TN (rMut X.K X.mg m) (tVar i) (tAs X.K X.mg W T cal mkc es)) D σ H := by
  obtain ⟨G, Z, F, ρ, A, q⟩ := q
  have q : AftS X W pr σ G Z F (if !((ownAt i ρ).map (mutK m)).getD false then none else EV.bnd (evEs T cal mkc es ρ) fun vs ρ1 => match (ownAt i ρ1).bind fun u => mutF m u vs with
    | some v => EV.pur .nx (ρ1.set i (.ow v))
    | none => none) D := q
  split at q
  · exact q.elim
  · rename_i hs
    cases hm : ownAt i ρ with
    | none => rw [hm] at hs; exact absurd rfl hs
    | some u0 =>
      rw [hm] at hs
      have hs : mutK m u0 = true := by
        cases z : mutK m u0 with
        | true => rfl
        | false => exact absurd (by simp [z]) hs
      obtain ⟨q0, hq, hG, o0⟩ := A.ow i u0 (own_at hm)
      refine ⟨.ref q0, hq, hT F q0 u0 o0 hs, G, Z, F, ρ, A, (AftS.bnd q).imp fun F1 H1 ρ1 vs A1 e1 q1 xs rxs => ?_⟩
      cases hm : ((ownAt i ρ1).bind fun u => mutF m u vs) with
      | none => rw [hm] at q1; exact q1.elim
      | some r =>
        rw [hm] at q1
        obtain ⟨u, hu, hm⟩ := Option.bind_eq_some_iff.mp hm
        have hu := own_at hu
        obtain ⟨q', hq', _, o1⟩ := A1.ow i u hu
        rw [hq] at hq'; cases hq'
        exact ⟨F1, q0, u, vs, r, rfl, A1.sub, o1, rxs, hm, fun ob o2 => AftS.nx q1 (A1.wrO hu hq o2)⟩
theorem ty_lst {m : Mu} {F H : Hp} {q : Addr} {u : Val} (o : Own X.K X.mg F H q u) (h : mutK m u = true) (hm : m = .append ∨ m = .extend ∨ m = .insert) : tyV X.K "list" (.ref q) H := by
  cases o with
  | lst n h1 r => exact .inl ⟨rfl, _, .inl (.inl h1)⟩
  | dk n h1 r => rcases hm with rfl | rfl | rfl <;> simp [mutK] at h
  | dt n h1 r => rcases hm with rfl | rfl | rfl <;> simp [mutK] at h
  | obj n h1 r => rcases hm with rfl | rfl | rfl <;> simp [mutK] at h
section
variable {i : Nat} {es : List Expr} {xs : List Ex} {apos cpos : Pos}
theorem sS_append (ho : PE X o (tVar i)) (ha : PA X (e :: es) (tAs X.K X.mg W T cal mkc xs)) (hbase : attributeBase o "append" X.env (eval o X.env) = eval o X.env := by rfl)
    (hfew : ((backTo cpos (starEach (e :: es) X.env)).all (fun x => !x.1) && (backToKw cpos (keywordEach [] X.env)).all (fun x => x.1.isSome) && decide ((e :: es).length + ([] : List Keyword).length + (if ([] : List Keyword).isEmpty then 0 else 1) < 30)) = true := by rfl)
    (hline : (apos.endLine == cpos.line) = true := by rfl) (hs : starEach (e :: es) X.env = (false, eval e X.env) :: starEach es X.env := by rfl) (hplain : (backTo cpos (starEach es X.env)).any (·.1) = false := by rfl) (hsw : swapsWith (.Call (.Attribute o "append" apos) (e :: es) [] cpos) none pos.line X.env = pure false := by rfl) :
    PS X (.Expr (.Call (.Attribute o "append" apos) (e :: es) [] cpos) pos) (tS X W T cal mkc pr (.mut i .append xs)) :=
  (ps_expr (pe_bm PySem.F.plainAttrs_list PySem.F.slot_list_append PySem.F.type_list_append mv_append ho ha hbase hfew hline hs hplain) hsw).imp fun _ _ _ q => mut_red (fun _ _ _ o h => ty_lst o h (.inl rfl)) q
end
end
end EV
namespace EV
open PySem PySem.Spec PyProof.Rows L2
def ioIx (io : List Bool) : List Nat := (List.range io.length).filter fun i => io.getD i false
theorem sameKind_get : ∀ {as : List Slot} {io : List Bool} {i : Nat}, sameKind as io = true → (∀ v, as[i]? = some (.ow v) → io.getD i false = true) ∧ as[i]? ≠ some .un
  | [], io, i, _ => ⟨fun v h => by simp at h, by simp⟩
  | .un :: r, io, i, h => by simp [sameKind] at h
  | .fz w :: r, io, 0, h => ⟨fun v z => by simp at z, by simp⟩
  | .ow w :: r, io, 0, h => by
    simp only [sameKind, Bool.and_eq_true] at h
    exact ⟨fun v z => by simpa using h.1, by simp⟩
  | .fz w :: r, io, i + 1, h => by
    simp only [sameKind, Bool.and_eq_true] at h
    have ih := sameKind_get (i := i) h.2
    refine ⟨fun v z => ?_, by simpa using ih.2⟩
    have := ih.1 v (by simpa using z)
    simpa [List.getD, Nat.add_comm] using this
  | .ow w :: r, io, i + 1, h => by
    simp only [sameKind, Bool.and_eq_true] at h
    have ih := sameKind_get (i := i) h.2
    refine ⟨fun v z => ?_, by simpa using ih.2⟩
    have := ih.1 v (by simpa using z)
    simpa [List.getD, Nat.add_comm] using this
theorem ioIx_mem {io : List Bool} {i : Nat} (h : io.getD i false = true) : i ∈ ioIx io := by
  unfold ioIx
  refine List.mem_filter.mpr ⟨List.mem_range.mpr ?_, h⟩
  by_cases hl : i < io.length
  · exact hl
  · simp [List.getD, List.getElem?_eq_none (show io.length ≤ i by omega)] at h
theorem nodup_io : ∀ {vs : List V} {as : List Slot} {i j : Nat} {a : Addr} {v w : Val}, (ioOf vs as).Nodup → i < j → vs[i]? = some (.ref a) → as[i]? = some (.ow v) → as[j]? = some (.ow w) → vs[j]? ≠ some (.ref a)
  | [], _, _, _, _, _, _, _, _, h, _, _ => by simp at h
  | _ :: _, [], _, _, _, _, _, _, _, _, h, _ => by simp at h
  | x :: xs, s :: ss, 0, j + 1, a, v, w, nd, _, h1, h2, h3 => by
    simp at h1 h2
    subst h1; subst h2
    have nd : (a :: ioOf xs ss).Nodup := nd
    intro z
    have : a ∈ ioOf xs ss := abs_setAll.ioOf_at (j := j) (v := w) (by simpa using z) (by simpa using h3)
    exact (List.nodup_cons.mp nd).1 this
  | x :: xs, s :: ss, i + 1, j + 1, a, v, w, nd, hij, h1, h2, h3 => by
    have nd2 : (ioOf xs ss).Nodup := by
      cases x with
      | ref b =>
        cases s with
        | ow u => exact (List.nodup_cons.mp (show (b :: ioOf xs ss).Nodup from nd)).2
        | fz u => exact nd
        | un => exact nd
      | _ => cases s <;> exact nd
    intro z
    exact nodup_io (i := i) (j := j) (v := v) (w := w) nd2 (by omega) (by simpa using h1) (by simpa using h2) (by simpa using h3) (by simpa using z)
section
variable {P : Program} {w : World} {K : PySem.W.Frag} {mg : Str → Option Value} {base : Heap} {T : Tab} {cal mkc : Cal} {N ps : List Str}
def gnd (vs : List V) (as : List Slot) (H : Hp) : Hp := fun a => if a ∈ ioOf vs as then none else match H a with
  | some (.tbl _) => none
  | o => o
theorem gnd_some {vs : List V} {as : List Slot} {H : Hp} {a : Addr} {o : HO} (h : gnd vs as H a = some o) : a ∉ ioOf vs as ∧ H a = some o ∧ ∀ ps, o ≠ .tbl ps := by
  unfold gnd at h
  split at h
  · cases h
  · rename_i hm
    split at h
    · cases h
    · rename_i hn
      exact ⟨hm, h, fun ps z => hn ps (by rw [h, z])⟩
theorem gnd_at {vs : List V} {as : List Slot} {H : Hp} {a : Addr} {o : HO} (hm : a ∉ ioOf vs as) (h : H a = some o) (ht : ∀ ps, o ≠ .tbl ps) : gnd vs as H a = some o := by
  unfold gnd
  rw [if_neg hm, h]
  cases o <;> first | rfl | exact absurd rfl (ht _)
theorem gnd_none {vs : List V} {as : List Slot} {H : Hp} {a : Addr} (h : gnd vs as H a = none) : a ∈ ioOf vs as ∨ Nw H a := by
  by_cases hm : a ∈ ioOf vs as
  · exact .inl hm
  · refine .inr ?_
    cases z : H a with
    | none => exact .inl z
    | some o =>
      by_cases ht : ∃ ps, o = .tbl ps
      · obtain ⟨ps, rfl⟩ := ht
        exact .inr ⟨ps, z⟩
      · rw [gnd_at hm z fun ps y => ht ⟨ps, y⟩] at h
        cases h
theorem abs_start {F H : Hp} {vs : List V} {as : List Slot} {n : Nat} (e : Ex' F H) (pr : Paired (ArgR K mg F H) vs as) (nd : (ioOf vs as).Nodup) (hx : NoT F ∧ TBs K mg H) (hl : N.length - vs.length = n) :
    Abs K mg (gnd vs as H) F F (L2.start N vs) H (as ++ List.replicate n .un) := by
  have len := pr.length
  have get : ∀ {i : Nat} {s : Slot}, (as ++ List.replicate n .un)[i]? = some s → s ≠ .un → as[i]? = some s := fun {i s} h hs => by
    by_cases hi : i < as.length
    · rwa [List.getElem?_append_left hi] at h
    · rw [List.getElem?_append_right (by omega)] at h
      have := (List.getElem?_eq_some_iff.mp h)
      obtain ⟨h1, h2⟩ := this
      rw [List.getElem_replicate] at h2
      exact absurd h2.symm hs
  have st : ∀ {i : Nat} {x : V}, vs[i]? = some x → (L2.start N vs)[i]? = some (some x) := fun {i x} h => by
    unfold L2.start
    have hi := (List.getElem?_eq_some_iff.mp h).1
    rw [List.getElem?_append_left (by rw [List.length_map]; exact hi), List.getElem?_map, h]; rfl
  have at_ : ∀ {i : Nat} {s : Slot}, as[i]? = some s → ∃ x, vs[i]? = some x ∧ ArgR K mg F H x s := fun {i s} h => by
    have hi := (List.getElem?_eq_some_iff.mp h).1
    have hv : vs[i]? = some vs[i] := List.getElem?_eq_getElem (by omega)
    exact ⟨_, hv, paired_at pr hv h⟩
  refine ⟨e, fun a o h => (gnd_some h).2.1, Ex'.refl F, fun a o h => .inl h, ?_, fun i v h => ?_, fun i v h => ?_, fun i j a v v' hij h1 h2 s1 s2 => ?_, hx.2, hx.1, fun a ps h => (gnd_some h).2.2 ps rfl⟩
  · unfold L2.start; simp only [List.length_append, List.length_map, List.length_replicate]; omega
  · obtain ⟨x, h1, h2⟩ := at_ (get h (by intro z; cases z))
    exact ⟨x, st h1, h2⟩
  · have h := get h (by intro z; cases z)
    obtain ⟨x, h1, a, rfl, o⟩ := at_ h
    refine ⟨a, st h1, ?_, o⟩
    unfold gnd
    rw [if_pos (abs_setAll.ioOf_at h1 h)]
  · have h1 := get h1 (by intro z; cases z)
    have h2 := get h2 (by intro z; cases z)
    obtain ⟨x, x1, b, rfl, _⟩ := at_ h1
    obtain ⟨y, y1, c, rfl, _⟩ := at_ h2
    rw [st x1] at s1; cases s1
    rw [st y1] at s2; cases s2
    rcases Nat.lt_or_ge i j with h | h
    · exact nodup_io nd h x1 h1 h2 y1
    · exact nodup_io nd (by omega) y1 h2 h1 x1
theorem end_of {F F' H H' : Hp} {σ' : L2.St} {ρ' : Ro} {vs : List V} {as : List Slot} {io : List Bool} (pr : Paired (ArgR K mg F H) vs as) (sk : sameKind as io = true) (A : Abs K mg (gnd vs as H) F F' σ' H' ρ') (e : Ex' F F') (k : Kp (ioIx io) (L2.start N vs) σ') :
    EndR K mg F H vs as F' H' (ρ'.take as.length) := by
  have st : ∀ {i : Nat} {x : V}, vs[i]? = some x → (L2.start N vs)[i]? = some (some x) := fun {i x} h => by
    unfold L2.start
    have hi := (List.getElem?_eq_some_iff.mp h).1
    rw [List.getElem?_append_left (by rw [List.length_map]; exact hi), List.getElem?_map, h]; rfl
  refine ⟨e, A.sub, fun a o h hn ht => A.bg a o (gnd_at hn h ht), fun a o h => ?_, fun i a v v' h1 h2 h3 => ?_, A.x.tb, A.x.nf⟩
  · rcases A.nw a o h with q | q | q
    · exact .inl q
    · rcases gnd_none q with q | q
      · exact .inr (.inr (.inl q))
      · exact .inr (.inl q)
    · exact .inr (.inr (.inr q))
  · have hi : i < as.length := (List.getElem?_eq_some_iff.mp h1).1
    rw [List.getElem?_take_of_lt hi] at h3
    obtain ⟨b, hb, _, o⟩ := A.ow i v' h3
    rw [k i (ioIx_mem ((sameKind_get sk).1 v h1)), st h2] at hb
    cases hb
    exact o
theorem kept_get : ∀ {as fin : List Slot} {i : Nat} {v : Val}, keptIo as fin = true → as[i]? = some (.ow v) → ∃ v', fin[i]? = some (.ow v')
  | [], _, _, _, _, h => by simp at h
  | .un :: r, fin, i, v, h, _ => by simp [keptIo] at h
  | .ow w :: r, [], i, v, h, _ => by simp [keptIo] at h
  | .fz w :: r, [], i, v, h, _ => by simp [keptIo] at h
  | .ow w :: r, .un :: s, i, v, h, _ => by simp [keptIo] at h
  | .ow w :: r, .fz _ :: s, i, v, h, _ => by simp [keptIo] at h
  | .ow w :: r, .ow z :: s, 0, v, h, _ => ⟨z, rfl⟩
  | .fz w :: r, q :: s, 0, v, h, z => by simp at z
  | .ow w :: r, .ow z :: s, i + 1, v, h, q => by
    simp only [keptIo] at h
    simpa using kept_get (i := i) (v := v) h (by simpa using q)
  | .fz w :: r, q :: s, i + 1, v, h, z => by
    simp only [keptIo] at h
    simpa using kept_get (i := i) (v := v) h (by simpa using z)
def LkC (K : PySem.W.Frag) (f : Addr) (cdv : Value) : Prop := ∃ oc od fd osl, K.lookup f = some ⟨oc, od, .func fd, osl⟩ ∧ fd.code = cdv
theorem fnE_of {x qual : Str} {st : Stmt} {f : Addr} {fd : FuncData} {k : Nat} {nm : String} {d : Def} (F1 : Fun K x qual st f fd) (S : FnScope N ps (defScope st)) (hd : T.fn nm = some d) (hx : T.ext nm = none) (hps : d.ps.length = ps.length) (hN : d.n = N.length)
    (body : ∀ (cdv : Value), LkC K f cdv → ∀ (A : Around) (outer : List Env) (s : Shared) (H : Hp) (E : XK), A.guards = some [] → Room k (A.deeper (envOfC qual (defScope st) s.heap.objs.size f cdv)) →
      PSs (cxOf (L2.CX P w) P w K mg base N qual (defScope st) f cdv A outer s H E) (defBody st) (tSs (cxOf (L2.CX P w) P w K mg base N qual (defScope st) f cdv A outer s H E) (fun c d _ H' => E c d H') T cal mkc (ioIx d.io) d.body)) :
    FnE P w K mg base (k + 1) f fd ps (spF K mg (evB T cal mkc) ps.length nm) := by
  obtain ⟨oc, od, kV, doc, pm, an, cdv, ct, osl, rfl, lk, hcd⟩ := F1.ex
  have len : ∀ vs H Q E, spF K mg (evB T cal mkc) ps.length nm vs H Q E → vs.length = ps.length := fun vs H Q E h => by
    obtain ⟨F, as, h1, _, h2, _⟩ := h
    rw [h2.length, h1]
  refine ⟨len, fun A ou s H args us vs Q E gd hr ev bt rl hs => ?_⟩
  have hv := len _ _ _ _ hs
  have inH : K.In s.heap := ev.mod.kin.keeps fun b o e => (ev.bs b o e).1
  have nlm : s.heap.NoLimit := ev.mod.nolimit.keeps fun b o e => (ev.bs b o e).1
  have knd : ∀ y ∈ ps.zip us, (defScope st).names.lookup y.1 = some .local ∨ ((defScope st).names.lookup y.1 = some .cell ∧ ((cellsFrom (s.heap.objs.size + 1) (defScope st).names []).lookup y.1).isSome = true) := fun ⟨n, v⟩ hy => by
    rcases S.par n (List.of_mem_zip hy).1 with z | z
    · exact .inl z
    · exact .inr ⟨z, PySem.W.cellsFrom_some _ _ _ (.inl z)⟩
  refine codeAny_call_function hr.depth (inH _ _ lk) rfl S.co S.gen rfl (PySem.W.codeRec_of inH hcd) (bt _ _ _ _ ?_)
  refine wpAny_newFunctionEnv_cells S.kind knd fun env he s1 fr => ?_
  subst he
  refine ⟨nlm.keeps fr.toInCall.keep, codeAny_func ?_⟩
  have ht := body cdv ⟨oc, od, _, osl, lk, rfl⟩ A ou s H E gd (hr.deeper _)
  have I : Inv (cxOf (L2.CX P w) P w K mg base N qual (defScope st) f cdv A ou s H E) [] (L2.start N vs) H s1 := inv_start S hr.hd ev hv rl fr
  obtain ⟨F, as, ha, e, pr, nd, hnt, hq⟩ := hs
  have key : tSs (cxOf (L2.CX P w) P w K mg base N qual (defScope st) f cdv A ou s H E) (fun c d _ H' => E c d H') T cal mkc (ioIx d.io) d.body { nx := fun _ H' => Q .non H', rt := Q } (L2.start N vs) H := by
    simp only [evB, hx, hd] at hq
    split at hq
    · rename_i hc
      obtain ⟨c1, c2, c3⟩ := hc
      refine ⟨_, F, F, _, abs_start (n := d.n - d.ps.length) e pr nd hnt (by rw [hN, hps, hv]), ?_⟩
      cases hm : evSs T cal mkc d.body (as ++ List.replicate (d.n - d.ps.length) .un) with
      | none => rw [hm] at hq; exact hq.elim
      | some o =>
        rw [hm] at hq
        have hl : d.ps.length = as.length := by rw [hps, ha]
        rw [hl] at hq
        cases o with
        | ex x ρ' =>
          intro F' σ' H' dd A' e' k' rd
          simp only [endF] at hq
          split at hq
          · exact hq F' H' dd (end_of pr c3 A' e' k') rd
          · exact hq.elim
        | ok fl ρ' =>
          cases fl with
          | nx =>
            intro F' σ' H' A' e' k'
            simp only [endF] at hq
            split at hq
            · exact hq F' H' .non (end_of pr c3 A' e' k') Rep.non
            · exact hq.elim
          | rt r =>
            intro F' σ' H' y A' e' k' ry
            simp only [endF] at hq
            split at hq
            · rename_i hkp
              refine hq F' H' y (end_of pr c3 A' e' k') ?_
              cases r with
              | un => exact ry.elim
              | fz v => exact ry
              | ow v =>
                obtain ⟨q, rfl, g, o, l⟩ := ry
                refine ⟨q, rfl, ?_, o⟩
                by_cases hq' : q ∈ ioOf vs as
                · obtain ⟨i, v0, h1, h2⟩ := ioOf_mem hq'
                  obtain ⟨v1, h3⟩ := kept_get hkp h2
                  have hi : i < as.length := (List.getElem?_eq_some_iff.mp h2).1
                  rw [List.getElem?_take_of_lt hi] at h3
                  refine absurd ?_ (l i v1 h3)
                  rw [k' i (ioIx_mem ((sameKind_get c3).1 v0 h2))]
                  unfold L2.start
                  have hi := (List.getElem?_eq_some_iff.mp h1).1
                  rw [List.getElem?_append_left (by rw [List.length_map]; exact hi), List.getElem?_map, h1]; rfl
                · exact (gnd_none g).resolve_left hq'
            · exact hq.elim
    · exact hq.elim
  refine wpAny_mono (ht.run [] s1 (L2.start N vs) H _ I key) (fun fl s' hz => ?_) fun e s' hz => hz
  cases fl with
  | ret u =>
    obtain ⟨v, σ', H', J, rv, q⟩ := hz
    exact ⟨v, H', J.os, J.bare, J.base, J.hok, rv, q⟩
  | next =>
    obtain ⟨σ', H', J, q⟩ := hz
    exact ⟨.non, H', J.os, J.bare, J.base, J.hok, rfl, q⟩
  | brk => obtain ⟨_, _, _, q⟩ := hz; exact False.elim q
  | cont => obtain ⟨_, _, _, q⟩ := hz; exact False.elim q
end
end EV
namespace EV
open PySem PySem.Spec PyProof.Rows L2
structure OkE (P : Program) (w : World) (K : PySem.W.Frag) (mg : Str → Option Value) (base : Heap) (k : Nat) (x : Str) (nm : String) (ps : List Str) (cal : Cal) : Prop where
  ex : ∃ f fd, FnE P w K mg base k f fd ps (spF K mg cal ps.length nm) ∧ (∀ (s : Shared) (us : List Value), us.length = ps.length → BindsTo s fd ⟨us, []⟩ (ps.zip us)) ∧ mg x = some (.ref f) ∧ PySem.W.keepIn K (.ref f) = true ∧ ∃ oc od osl, K.lookup f = some ⟨oc, od, .func fd, osl⟩
  ln : ∀ ss o, cal nm ss = some o → ss.length = ps.length
structure OkME (P : Program) (w : World) (K : PySem.W.Frag) (mg : Str → Option Value) (base : Heap) (k : Nat) (c m nm : String) (ps : List Str) (cal : Cal) : Prop where
  ex : ∃ f fd, FnE P w K mg base k f fd ps (spF K mg cal ps.length nm) ∧ (∀ (s : Shared) (us : List Value), us.length = ps.length → BindsTo s fd ⟨us, []⟩ (ps.zip us)) ∧ Cls K (GH.clsA mg (Str.ofString c)) ∧ Meth K (GH.clsA mg (Str.ofString c)) (Str.ofString m) f
  ln : ∀ ss o, cal nm ss = some o → ss.length = ps.length
structure OkNE (P : Program) (w : World) (K : PySem.W.Frag) (mg : Str → Option Value) (base : Heap) (k : Nat) (c nm : String) (ps : List Str) (cal : Cal) : Prop where
  ex : ∃ f fd, FnE P w K mg base k f fd ps (spF K mg cal ps.length nm) ∧ (∀ (s : Shared) (us : List Value), us.length = ps.length → BindsTo s fd ⟨us, []⟩ (ps.zip us)) ∧ mg (Str.ofString c) = some (.ref (GH.clsA mg (Str.ofString c))) ∧ Mk K (GH.clsA mg (Str.ofString c)) f ∧ ∃ oc od osl, K.lookup f = some ⟨oc, od, .func fd, osl⟩
  ln : ∀ ss o, cal nm ss = some o → ss.length = ps.length
theorem evB_len {T : Tab} {cal mkc : Cal} {nm : String} {d : Def} (hd : T.fn nm = some d) (hx : T.ext nm = none) (ss : List Slot) (o : Out Slot) (h : evB T cal mkc nm ss = some o) : ss.length = d.ps.length := by
  simp only [evB, hx, hd] at h
  split at h
  · rename_i hc; exact hc.1
  · cases h
def none2 : Cal := fun _ _ => none
theorem fnE_none {P : Program} {w : World} {K : PySem.W.Frag} {mg : Str → Option Value} {base : Heap} {k n : Nat} {f : Addr} {fd : FuncData} {ps : List Str} {nm : String} : FnE P w K mg base k f fd ps (spF K mg none2 n nm) :=
  ⟨fun vs H Q E h => by obtain ⟨F, as, _, _, _, _, _, h⟩ := h; exact h.elim, fun A ou s H args us vs Q E _ _ _ _ _ h => by obtain ⟨F, as, _, _, _, _, _, h⟩ := h; exact h.elim⟩
section
variable {P : Program} {w : World} {K : PySem.W.Frag} {mg : Str → Option Value} {base : Heap} {T : Tab} {cal mkc : Cal} {N ps : List Str} {k : Nat} {nm : String} {d : Def} {st : Stmt}
def LkX (K : PySem.W.Frag) (mg : Str → Option Value) (x : Str) (f : Addr) (cdv : Value) : Prop := LkC K f cdv ∧ mg x = some (.ref f)
theorem okE_def {x : Str} (D : GH.Def K mg x st) (S : FnScope N ps (defScope st)) (hd : T.fn nm = some d) (hx : T.ext nm = none) (hps : d.ps.length = ps.length) (hN : d.n = N.length)
    (hb : ∀ (kV doc pm : Value) (an : Option Addr) (cdv ct : Value) (us : List Value), us.length = ps.length → bindArgs (PySem.W.fnOf x x (defArgs st) (defBody st) (defScope st) .none kV doc pm an cdv ct) ⟨us, []⟩ = pure (ps.zip us))
    (body : ∀ (f : Addr) (cdv : Value), LkX K mg x f cdv → ∀ (A : Around) (outer : List Env) (s : Shared) (H : Hp) (E : XK), A.guards = some [] → Room k (A.deeper (envOfC x (defScope st) s.heap.objs.size f cdv)) →
      PSs (cxOf (L2.CX P w) P w K mg base N x (defScope st) f cdv A outer s H E) (defBody st) (tSs (cxOf (L2.CX P w) P w K mg base N x (defScope st) f cdv A outer s H E) (fun c d _ H' => E c d H') T cal mkc (ioIx d.io) d.body)) :
    OkE P w K mg base (k + 1) x nm ps (evB T cal mkc) := by
  obtain ⟨f, fd, F1, m⟩ := D
  have F2 := fnE_of (T := T) (cal := cal) (mkc := mkc) (P := P) (w := w) (base := base) (mg := mg) (k := k) F1 S hd hx hps hN (fun cdv lk => body f cdv ⟨lk, m⟩)
  have kp := F1.kp
  obtain ⟨oc, od, kV, doc, pm, an, cdv, ct, osl, rfl, lk, hcd⟩ := F1.ex
  exact ⟨⟨f, _, F2, fun s us hl => .of_eq (hb kV doc pm an cdv ct us hl), m, kp, oc, od, osl, lk⟩, fun ss o h => by rw [evB_len hd hx ss o h, hps]⟩
theorem okE_none {x : Str} (D : GH.Def K mg x st) (hb : ∀ (kV doc pm : Value) (an : Option Addr) (cdv ct : Value) (us : List Value), us.length = ps.length → bindArgs (PySem.W.fnOf x x (defArgs st) (defBody st) (defScope st) .none kV doc pm an cdv ct) ⟨us, []⟩ = pure (ps.zip us)) : OkE P w K mg base k x nm ps none2 := by
  obtain ⟨f, fd, F1, m⟩ := D
  have kp := F1.kp
  obtain ⟨oc, od, kV, doc, pm, an, cdv, ct, osl, rfl, lk, hcd⟩ := F1.ex
  exact ⟨⟨f, _, fnE_none, fun s us hl => .of_eq (hb kV doc pm an cdv ct us hl), m, kp, oc, od, osl, lk⟩, fun ss o h => by cases h⟩
theorem okME_def {c m : String} {qual : Str} (D : GH.MethAt K mg (Str.ofString c) (Str.ofString m) qual st) (S : FnScope N ps (defScope st)) (hd : T.fn nm = some d) (hx : T.ext nm = none) (hps : d.ps.length = ps.length) (hN : d.n = N.length)
    (hb : ∀ (kV doc pm : Value) (an : Option Addr) (cdv ct : Value) (us : List Value), us.length = ps.length → bindArgs (PySem.W.fnOf (Str.ofString m) qual (defArgs st) (defBody st) (defScope st) .none kV doc pm an cdv ct) ⟨us, []⟩ = pure (ps.zip us))
    (body : ∀ (f : Addr) (cdv : Value) (A : Around) (outer : List Env) (s : Shared) (H : Hp) (E : XK), A.guards = some [] → Room k (A.deeper (envOfC qual (defScope st) s.heap.objs.size f cdv)) →
      PSs (cxOf (L2.CX P w) P w K mg base N qual (defScope st) f cdv A outer s H E) (defBody st) (tSs (cxOf (L2.CX P w) P w K mg base N qual (defScope st) f cdv A outer s H E) (fun c d _ H' => E c d H') T cal mkc (ioIx d.io) d.body)) :
    OkME P w K mg base (k + 1) c m nm ps (evB T cal mkc) := by
  obtain ⟨f, fd, cl, me, F1⟩ := D.ex
  have F2 := fnE_of (T := T) (cal := cal) (mkc := mkc) (P := P) (w := w) (base := base) (mg := mg) (k := k) F1 S hd hx hps hN (fun cdv _ => body f cdv)
  obtain ⟨oc, od, kV, doc, pm, an, cdv, ct, osl, rfl, lk, hcd⟩ := F1.ex
  exact ⟨⟨f, _, F2, fun s us hl => .of_eq (hb kV doc pm an cdv ct us hl), cl, me⟩, fun ss o h => by rw [evB_len hd hx ss o h, hps]⟩
theorem okME_none {c m : String} {qual : Str} (D : GH.MethAt K mg (Str.ofString c) (Str.ofString m) qual st) (hb : ∀ (kV doc pm : Value) (an : Option Addr) (cdv ct : Value) (us : List Value), us.length = ps.length → bindArgs (PySem.W.fnOf (Str.ofString m) qual (defArgs st) (defBody st) (defScope st) .none kV doc pm an cdv ct) ⟨us, []⟩ = pure (ps.zip us)) : OkME P w K mg base k c m nm ps none2 := by
  obtain ⟨f, fd, cl, me, F1⟩ := D.ex
  obtain ⟨oc, od, kV, doc, pm, an, cdv, ct, osl, rfl, lk, hcd⟩ := F1.ex
  exact ⟨⟨f, _, fnE_none, fun s us hl => .of_eq (hb kV doc pm an cdv ct us hl), cl, me⟩, fun ss o h => by cases h⟩
theorem okNE_def {c : String} {qual : Str} (D : GH.NewAt K mg (Str.ofString c) qual st) (S : FnScope N ps (defScope st)) (hd : T.fn nm = some d) (hx : T.ext nm = none) (hps : d.ps.length = ps.length) (hN : d.n = N.length)
    (hb : ∀ (kV doc pm : Value) (an : Option Addr) (cdv ct : Value) (us : List Value), us.length = ps.length → bindArgs (PySem.W.fnOf "__init__" qual (defArgs st) (defBody st) (defScope st) .none kV doc pm an cdv ct) ⟨us, []⟩ = pure (ps.zip us))
    (body : ∀ (f : Addr) (cdv : Value) (A : Around) (outer : List Env) (s : Shared) (H : Hp) (E : XK), A.guards = some [] → Room k (A.deeper (envOfC qual (defScope st) s.heap.objs.size f cdv)) →
      PSs (cxOf (L2.CX P w) P w K mg base N qual (defScope st) f cdv A outer s H E) (defBody st) (tSs (cxOf (L2.CX P w) P w K mg base N qual (defScope st) f cdv A outer s H E) (fun c d _ H' => E c d H') T cal mkc (ioIx d.io) d.body)) :
    OkNE P w K mg base (k + 1) c nm ps (evB T cal mkc) := by
  obtain ⟨f, fd, hg, cl, me, F1⟩ := D.ex
  have F2 := fnE_of (T := T) (cal := cal) (mkc := mkc) (P := P) (w := w) (base := base) (mg := mg) (k := k) F1 S hd hx hps hN (fun cdv _ => body f cdv)
  obtain ⟨oc, od, kV, doc, pm, an, cdv, ct, osl, rfl, lk, hcd⟩ := F1.ex
  exact ⟨⟨f, _, F2, fun s us hl => .of_eq (hb kV doc pm an cdv ct us hl), hg, me, oc, od, osl, lk⟩, fun ss o h => by rw [evB_len hd hx ss o h, hps]⟩
theorem okNE_none {c : String} {qual : Str} (D : GH.NewAt K mg (Str.ofString c) qual st) (hb : ∀ (kV doc pm : Value) (an : Option Addr) (cdv ct : Value) (us : List Value), us.length = ps.length → bindArgs (PySem.W.fnOf "__init__" qual (defArgs st) (defBody st) (defScope st) .none kV doc pm an cdv ct) ⟨us, []⟩ = pure (ps.zip us)) : OkNE P w K mg base k c nm ps none2 := by
  obtain ⟨f, fd, hg, cl, me, F1⟩ := D.ex
  obtain ⟨oc, od, kV, doc, pm, an, cdv, ct, osl, rfl, lk, hcd⟩ := F1.ex
  exact ⟨⟨f, _, fnE_none, fun s us hl => .of_eq (hb kV doc pm an cdv ct us hl), hg, me, oc, od, osl, lk⟩, fun ss o h => by cases h⟩
end
section
variable {X : Cx} {W : WX} {T : Tab} {cal mkc : Cal} {a b c e o : Expr} {ea eb ec : Ex} {pos p : Pos} {k : Nat}
theorem takesW0 : Takes X W0 := fun _ _ ⟨_, _, _, _, _, _, _, _, _, _, _, _, _, _, _, _, w⟩ => w.elim
theorem oE (h : PE X e (tE X.K X.mg W T cal mkc ea)) (hn : ∀ i, ea ≠ .v i := by nofun) : PE X e (tO X.K X.mg W T cal mkc ea) := pe_opd h hn
theorem aV {io : Bool} {i : Nat} (h : PE X e (tVar i)) : PE X e (tArg X W T cal mkc io (.v i)) := sArg (pe_name h) fun j z => by cases z; exact h
theorem aE {io : Bool} (h : PE X e (tE X.K X.mg W T cal mkc ea)) (hn : ∀ i, ea ≠ .v i := by nofun) : PE X e (tArg X W T cal mkc io ea) := sArg h fun j z => absurd z (hn j)
theorem cI {i : Int} {j : Nat} : PE X (.Constant (.int i) j pos) (tE X.K X.mg W T cal mkc (.int i)) := sE_const pe_int (fun F => .int i) fun _ => rfl
theorem cB {i : Bool} {j : Nat} : PE X (.Constant (.bool i) j pos) (tE X.K X.mg W T cal mkc (.bl i)) := sE_const pe_bl (fun F => .bl i) fun _ => rfl
theorem cN {j : Nat} : PE X (.Constant .none j pos) (tE X.K X.mg W T cal mkc .non) := sE_const pe_non (fun F => .non) fun _ => rfl
theorem toS_as (s : String) : toS (asStr s) = Str.ofString s := by unfold toS asStr; simp
theorem cS {s : String} {j : Nat} : PE X (.Constant (.str (Str.ofString s)) j pos) (tE X.K X.mg W T cal mkc (.str s)) := sE_const pe_str (fun F => by rw [← toS_as]; exact .str (asStr s)) fun _ => rfl
theorem cG {x : Str} {s : String} {v : V} {w : Val} (h : GH.Cst X.mg x v) (r : ∀ F, Rep X.K X.mg F v w) (hT : T.cst s = some w) (hg : Gl X x := by rfl) (hd : (x == ("__debug__" : Str)) = false := by decide) : PE X (.Name x pos) (tE X.K X.mg W T cal mkc (.g s)) :=
  sE_const (GH.pe_cst h hg hd) r fun ρ => by simp only [evE, hT]
theorem sS_never {pr : List Nat} {st : Stmt} (h : T.cst "?" = none) : PS X st (tS X W T cal mkc pr (.expr (.g "?"))) := ⟨fun pins s σ H D I q => by
  obtain ⟨G, Z, F, ρ, A, q⟩ := q
  have e1 : evS T cal mkc (.expr (.g "?")) ρ = none := by simp only [evS, evE, h, bnd_none]
  rw [e1] at q
  exact q.elim⟩
theorem b1 {x : Str} {id : String} {bl : Bl} (hc : CallR X (.builtin id) (rBlt X.K X.mg bl)) (hm : X.mg x = none) (hv : bootBuiltins x = some (.builtin id)) (ha : PE X a (tO X.K X.mg W T cal mkc ea)) (hg : Gl X x := by rfl) (hn : x ≠ "__name__" := by decide) (hdb : (x == ("__debug__" : Str)) = false := by decide)
    (he : starEach [a] X.env = (false, eval a X.env) :: starEach [] X.env := by rfl) (hpl : (backTo pos (starEach [] X.env)).any (·.1) = false := by rfl) : PE X (.Call (.Name x p) [a] [] pos) (tE X.K X.mg W T cal mkc (.blt bl [ea])) :=
  (pe_callB hc hg hm hv (pa_cons ha pa_nil he) hn hdb he hpl).imp fun _ _ _ q => blt1 q
theorem t1 {x : Str} {id : String} {bl : Bl} (hc : CallR X (.type id) (rBlt X.K X.mg bl)) (hm : X.mg x = none) (hv : bootBuiltins x = some (.type id)) (ha : PE X a (tO X.K X.mg W T cal mkc ea)) (hg : Gl X x := by rfl) (hn : x ≠ "__name__" := by decide) (hdb : (x == ("__debug__" : Str)) = false := by decide)
    (he : starEach [a] X.env = (false, eval a X.env) :: starEach [] X.env := by rfl) (hpl : (backTo pos (starEach [] X.env)).any (·.1) = false := by rfl) : PE X (.Call (.Name x p) [a] [] pos) (tE X.K X.mg W T cal mkc (.blt bl [ea])) :=
  (pe_callTy hc hg hm hv (pa_cons ha pa_nil he) hn hdb he hpl).imp fun _ _ _ q => blt1 q
theorem b2 {x : Str} {id : String} {bl : Bl} {es : List Expr} {xs : List Ex} (hc : CallR X (.builtin id) (rBlt X.K X.mg bl)) (hm : X.mg x = none) (hv : bootBuiltins x = some (.builtin id)) (ha : PA X (a :: es) (tAs X.K X.mg W T cal mkc xs)) (hx : ∀ z, xs ≠ [z] := by nofun) (hg : Gl X x := by rfl) (hn : x ≠ "__name__" := by decide) (hdb : (x == ("__debug__" : Str)) = false := by decide)
    (he : starEach (a :: es) X.env = (false, eval a X.env) :: starEach es X.env := by rfl) (hpl : (backTo pos (starEach es X.env)).any (·.1) = false := by rfl) : PE X (.Call (.Name x p) (a :: es) [] pos) (tE X.K X.mg W T cal mkc (.blt bl xs)) :=
  (pe_callB hc hg hm hv ha hn hdb he hpl).imp fun _ _ _ q => blt2 hx q
theorem cE {d : Def} {x : Str} {nm : String} {ps : List Str} {es : List Expr} {xs : List Ex} (O : OkE X.prog X.w X.K X.mg X.base k x nm ps cal) (gd : X.A.guards = some []) (hr : Room k X.A) (tk : Takes X W) (hd : T.fn nm = some d) (ha : PA X (e :: es) (tArgs X W T cal mkc d.io xs)) (hg : Gl X x := by rfl) (hdb : (x == ("__debug__" : Str)) = false := by decide)
    (he : starEach (e :: es) X.env = (false, eval e X.env) :: starEach es X.env := by rfl) (hpl : (backTo pos (starEach es X.env)).any (·.1) = false := by rfl) : PE X (.Call (.Name x p) (e :: es) [] pos) (tE X.K X.mg W T cal mkc (.call nm xs [])) := by
  obtain ⟨f, fd, F, hb, hm, hk, _⟩ := O.ex
  exact sE_call F gd hr tk hb hg hm hk hd O.ln ha hdb he hpl
theorem mE {d : Def} {c m nm : String} {ps : List Str} {apos : Pos} {es : List Expr} {eo : Ex} {xs : List Ex} {pl : Sem Bool} (O : OkME X.prog X.w X.K X.mg X.base k c m nm ps cal) (gd : X.A.guards = some []) (hr : Room k X.A) (tk : Takes X W) (hd : T.fn nm = some d) (ho : PE X o (tArg X W T cal mkc (d.io.getD 0 false) eo)) (ha : PA X (e :: es) (tArgs X W T cal mkc (d.io.drop 1) xs))
    (hst : starEach (e :: es) X.env = (false, eval e X.env) :: starEach es X.env := by rfl) (hpl : (backTo pos (starEach es X.env)).any (·.1) = false := by rfl)
    (ht : eval (.Call (.Attribute o (Str.ofString m) apos) (e :: es) [] pos) X.env = (do
      let ov ← eval o X.env
      standAt apos.atName
      let (f, first) ← holding [ov] (getMethod ov (Str.ofString m) pl)
      callWith pos f first (backTo pos (starEach (e :: es) X.env)) (backToKw pos (keywordEach [] X.env))) := by rfl) :
    PE X (.Call (.Attribute o (Str.ofString m) apos) (e :: es) [] pos) (tE X.K X.mg W T cal mkc (.mth nm c m eo xs)) := by
  obtain ⟨f, fd, F, hb, cl, hme⟩ := O.ex
  exact sE_mth F gd hr tk hb cl hme hd O.ln ho ha hst hpl ht
theorem nE {d : Def} {c nm : String} {ps : List Str} {es : List Expr} {xs : List Ex} (O : OkNE X.prog X.w X.K X.mg X.base k c nm ps mkc) (hf : nm = c ++ ".__init__") (gd : X.A.guards = some []) (hr : Room (k + 1) X.A) (tk : Takes X W) (hd : T.fn nm = some d) (ha : PA X (e :: es) (tAs X.K X.mg W T cal mkc xs)) (hg : Gl X (Str.ofString c) := by rfl)
    (hdb : (Str.ofString c == ("__debug__" : Str)) = false := by decide +kernel) (he : starEach (e :: es) X.env = (false, eval e X.env) :: starEach es X.env := by rfl) (hpl : (backTo pos (starEach es X.env)).any (·.1) = false := by rfl) : PE X (.Call (.Name (Str.ofString c) p) (e :: es) [] pos) (tE X.K X.mg W T cal mkc (.mk c xs [])) := by
  obtain ⟨f, fd, F, hb, hm, M, _⟩ := O.ex
  exact sE_mk M F gd hr tk hf hb hg hm hd O.ln ha hdb he hpl
end
end EV
namespace EV
open PySem PySem.Spec PyProof.Rows L2
section
variable {K : PySem.W.Frag} {mg : Str → Option Value} {sI sL sS : Stmt}
theorem mach_new (M : GH.MachCls K mg sI sL sS) : GH.NewAt K mg (Str.ofString "Machine") "Machine.__init__" sI := by
  obtain ⟨fI, pL, gL, pS, gS, fdI, fdL, fdS, m, h1, h2, h3, h4, h5, _⟩ := M.c
  exact ⟨fI, fdI, m, h1, h2, h5⟩
theorem mach_prop (M : GH.MachCls K mg sI sL sS) (s1 : FnScope ["self"] ["self"] (defScope sL)) (b1 : ∃ p1 p2 p3, defBody sL = [.Return (some (.Attribute (.Name "self" p1) "held_letters" p2)) p3]) (s2 : FnScope ["self"] ["self"] (defScope sS)) (b2 : ∃ p1 p2 p3, defBody sS = [.Return (some (.Attribute (.Name "self" p1) "held_states" p2)) p3])
    (hb : ∀ (st : Stmt) (fa : Addr) (fd : FuncData) (nm : Str) (q : Str), Fun K nm q st fa fd → (st = sL ∨ st = sS) → Binds K fd ["self"] []) : PropAt K mg "Machine" "letters" "held_letters" ∧ PropAt K mg "Machine" "states" "held_states" := by
  obtain ⟨fI, pL, gL, pS, gS, fdI, fdL, fdS, m, h1, h2, h3, h4, h5, h6, h7, h8, h9⟩ := M.c
  exact ⟨⟨pL, gL, fdL, h1, h6, fun P w base => GH.fn_get h7 s1 b1 h1 h3, hb _ _ _ _ _ h7 (.inl rfl)⟩, ⟨pS, gS, fdS, h1, h8, fun P w base => GH.fn_get h9 s2 b2 h1 h4, hb _ _ _ _ _ h9 (.inr rfl)⟩⟩
theorem mach_isc (M : GH.MachCls K mg sI sL sS) : (∀ (H : Hp) (a dx : Addr) (fs : List (Str × V)), H a = some (.ins (GH.clsA mg (Str.ofString "Machine")) dx fs) → TyX K H (.ref a) (.ref (GH.clsA mg (Str.ofString "Machine"))) ∧ PySem.W.kitOne K (.ref (GH.clsA mg (Str.ofString "Machine"))) (.ref (GH.clsA mg (Str.ofString "Machine"))) = some true) ∧ GH.KitNo K (GH.clsA mg (Str.ofString "Machine")) :=
  ⟨fun H a dx fs h => let ⟨h1, h2, _⟩ := M.ty h; ⟨h1, h2⟩, M.no⟩
theorem binds_of {st : Stmt} {fa : Addr} {fd : FuncData} {nm q : Str} (F : Fun K nm q st fa fd) (hb : ∀ (kV doc pm : Value) (an : Option Addr) (cdv ct : Value) (us : List Value), us.length = 1 → bindArgs (PySem.W.fnOf nm q (defArgs st) (defBody st) (defScope st) .none kV doc pm an cdv ct) ⟨us, []⟩ = pure ((["self"] : List Str).zip us)) : Binds K fd ["self"] [] := F.binds hb
end
end EV
namespace EV
open PySem PySem.Spec PyProof.Rows L2
section
variable {X : Cx} {W : WX} {T : Tab} {cal mkc : Cal} {a b c e o : Expr} {ea eb ec ek : Ex} {pos p p2 : Pos} {k : Nat}
theorem kit_tab (a t : String) (ha : a ∈ ["NoneType", "bool", "int", "str", "list", "tuple", "dict"]) (ht : t ∈ ["bool", "int", "str", "tuple", "list"]) : kitB a t = some (a == t || (t == "int" && a == "bool")) := by
  simp only [List.mem_cons, List.not_mem_nil, or_false] at ha ht
  rcases ha with rfl | rfl | rfl | rfl | rfl | rfl | rfl <;> rcases ht with rfl | rfl | rfl | rfl | rfl <;> decide +kernel
def KitV (X : Cx) (H : Hp) (x : V) (t : Value) : Prop := ∀ (pins : List (Addr × Obj)) (σ : L2.St) (s : Shared) (u : Value), L2.Inv X pins σ H s → RelV x u → ∃ P : Heap → Prop, PySem.W.KitX X.K u t P ∧ P s.heap ∧ u ≠ .builtin "__main__.__loader__#opaque"
theorem kitV_of {H : Hp} {x : V} {t : Value} (h : TyX X.K H x t) : KitV X H x t := fun _ _ _ _ I r => kit_of I r h
theorem kitV_fT {H : Hp} {a : Addr} {ob : Obj} {kvs : List (List Key × V)} (ea : H a = some (.frz ob (.dT kvs))) : KitV X H (.ref a) (.type "dict") := fun pins σ s u I rx => by
  cases (show u = Value.ref a from rx)
  obtain ⟨_, _, _, vs, _, o, es, ep, h1, h2, _⟩ := (show ObjOk X.prog X.w H s.heap a (.frz ob (.dT kvs)) from I.hok a _ ea)
  exact ⟨_, PySem.W.kitx_dict, ⟨o, h1, h2.1⟩, fun z => nomatch z⟩
def rIsV (X : Cx) : List V → Hp → VK → Prop := fun xs H Q => ∃ (x c : V) (t u : Value) (b : Bool), xs = [x, c] ∧ ClsV c u ∧ KitV X H x t ∧ PySem.W.kitOne X.K t u = some b ∧ Q (.bl b) H
theorem call_isV : CallR X (.builtin "isinstance") (rIsV X) := by
  intro pins s σ H xs us Q I r h
  obtain ⟨x, c, t, u, b, rfl, k, ty, e, q⟩ := h
  obtain ⟨u1, u2, rfl, r1, r2⟩ := vals2 r
  have e2 := k.eq r2
  subst e2
  obtain ⟨P, Z, p, hx⟩ := ty pins σ s u1 I r1
  exact PySem.W.kia_one Z I.kIn p e hx fun tk => ⟨.bl b, H, I.tok tk, rfl, q⟩
theorem ty_of {F H : Hp} {x : V} {v : Val} (e : Ex' F H) (r : RepB X.K X.mg F H x v) (hn : typ v ∈ ["NoneType", "bool", "int", "str", "list", "tuple", "dict"]) (hs : ∀ ns, v ≠ .scr ns) (ho : ∀ c fs, v ≠ .obj c fs) : KitV X H x (.type (typ v)) := by
  cases r with
  | non => exact kitV_of (.base .non)
  | bl b => exact kitV_of (.base (.bl b))
  | int i => exact kitV_of (.base (.int i))
  | str l => exact kitV_of (.base (.str _))
  | lst h r => exact kitV_of (.base (.lst h))
  | scr s => exact absurd rfl (hs _)
  | tup h r => exact kitV_of (.base (.tup (e _ _ h)))
  | wtp s => exact kitV_of (GH.ty_tup (s.sqT _))
  | cls c => simp [typ] at hn
  | dk h r =>
    rcases h with h | ⟨o, h⟩
    · exact kitV_of (.base (.dK h))
    · exact kitV_of (.fDict h)
  | dt h r =>
    rcases h with h | ⟨o, h⟩
    · exact kitV_of (.base (.dT h))
    · exact kitV_fT h
  | obj h r => exact absurd rfl (ho _ _)
def IsC (K : PySem.W.Frag) (mg : Str → Option Value) (t : String) : Prop := ∀ (H : Hp) (a dx : Addr) (fs : List (Str × V)), H a = some (.ins (GH.clsA mg (Str.ofString t)) dx fs) → TyX K H (.ref a) (.ref (GH.clsA mg (Str.ofString t))) ∧ PySem.W.kitOne K (.ref (GH.clsA mg (Str.ofString t))) (.ref (GH.clsA mg (Str.ofString t))) = some true
theorem sE_isi {t : String} {cv : V} {ct : Value} (hcl : (cv = .ty t ∧ ct = .type t) ∨ (cv = .ref (GH.clsA X.mg (Str.ofString t)) ∧ ct = .ref (GH.clsA X.mg (Str.ofString t)) ∧ (IsC X.K X.mg t ∧ GH.KitNo X.K (GH.clsA X.mg (Str.ofString t))) ∧ ["bool", "int", "str", "tuple", "list"].contains t = false)) (hno : ct = .type t → T.isc t = false) (hm : X.mg "isinstance" = none) (ha : PE X a (tO X.K X.mg W T cal mkc ea)) (hb : PE X b (tC cv))
    (hg : Gl X "isinstance" := by rfl) (he : starEach [a, b] X.env = (false, eval a X.env) :: starEach [b] X.env := by rfl) (he2 : starEach [b] X.env = (false, eval b X.env) :: starEach [] X.env := by rfl) (hpl : (backTo pos (starEach [b] X.env)).any (·.1) = false := by rfl) :
    PE X (.Call (.Name "isinstance" p) [a, b] [] pos) (tE X.K X.mg W T cal mkc (.isi ea t)) := by
  refine (pe_callB call_isV hg hm PyProof.Rows.boot_isinstance (pa_cons ha (pa_cons hb pa_nil he2) he) (by decide) (by decide) he hpl).imp fun σ H Q q => ?_
  obtain ⟨G, Z, F, ρ, A, q⟩ := q
  refine ⟨G, Z, F, ρ, A, q.bnd.imp fun F1 H1 ρ1 x A1 e1 q1 vx rx => ?_⟩
  obtain ⟨r, hr, q3⟩ := q1.lift
  obtain ⟨d, hr1, rfl⟩ := Option.map_eq_some_iff.mp hr
  obtain ⟨u, hu, hr2⟩ := Option.bind_eq_some_iff.mp hr1
  have rb := OpdR.read A1 rx hu
  have fin := Aft.pur q3 A1 _ (Rep.bl d)
  have plain : (∀ ns, u ≠ .scr ns) → (∀ c fs, u ≠ .obj c fs) → typ u ∈ ["NoneType", "bool", "int", "str", "list", "tuple", "dict"] → (if ["bool", "int", "str", "tuple", "list"].contains t then some (isiF u t) else if T.isc t then some false else none) = some d → rIsV X [vx, cv] H1 Q := fun h1 h2 h3 h4 => by
    split at h4
    · rename_i hc
      cases h4
      have ht : t ∈ ["bool", "int", "str", "tuple", "list"] := by simpa using hc
      rcases hcl with ⟨rfl, rfl⟩ | ⟨rfl, rfl, _, hz⟩
      · exact ⟨vx, _, _, _, _, rfl, .ty t, ty_of A1.sub rb h3 h1 h2, kit_ty (kit_tab _ _ h3 ht), fin⟩
      · rw [hc] at hz; cases hz
    · split at h4
      · rename_i hc2
        cases h4
        rcases hcl with ⟨rfl, rfl⟩ | ⟨rfl, rfl, ⟨_, hN⟩, hz⟩
        · rw [hno rfl] at hc2; cases hc2
        · exact ⟨vx, _, _, _, _, rfl, .own _, ty_of A1.sub rb h3 h1 h2, hN _ h3, fin⟩
      · cases h4
  cases u with
  | dct kvs => exact plain nofun nofun (by simp [typ]) hr2
  | cls c => cases hr2
  | scr ns => cases hr2
  | obj c' fs =>
    simp only [isiV] at hr2
    split at hr2
    · rename_i hc
      cases hr2
      obtain ⟨h1, h2⟩ := Bool.and_eq_true_iff.mp hc
      have h1 : c' = t := by simpa using h1
      subst h1
      cases rb with
      | obj s1 r1 =>
        rcases hcl with ⟨rfl, rfl⟩ | ⟨rfl, rfl, ⟨hI, _⟩, _⟩
        · rw [hno rfl] at h2; cases h2
        · obtain ⟨t1, t2⟩ := hI H1 _ _ _ s1
          exact ⟨_, _, _, _, _, rfl, .own _, kitV_of t1, t2, fin⟩
    · cases hr2
  | non => exact plain nofun nofun (by simp [typ]) hr2
  | bl z => exact plain nofun nofun (by simp [typ]) hr2
  | int z => exact plain nofun nofun (by simp [typ]) hr2
  | str z => exact plain nofun nofun (by simp [typ]) hr2
  | lst z => exact plain nofun nofun (by simp [typ]) hr2
  | tup z => exact plain nofun nofun (by simp [typ]) hr2
  | wtp z => exact plain nofun nofun (by simp [typ]) hr2
theorem sE_dnew : PE X (.Dict [] [] pos) (tE X.K X.mg W T cal mkc (.dct [] [])) := by
  refine pe_dnewK.imp fun σ H Q q p hp => ?_
  obtain ⟨G, Z, F, ρ, A, q⟩ := q
  obtain ⟨A1, hF, hG, hl⟩ := A.newO (o := .dK []) hp
  exact q F _ A1 (Ex'.refl F) _ ⟨p, rfl, hG, .dk hF upd_same .nil, hl⟩
theorem Aft.impE {α : Type} {G Z F : Hp} {σ : L2.St} {m : Res α} {C C' : Hp → Hp → Ro → α → Prop} (h : Aft X.K X.mg W G Z F σ m C) (k : ∀ F' H' ρ' a, m = some (.ok a ρ') → Abs X.K X.mg G Z F' σ H' ρ' → Ex' F F' → C F' H' ρ' a → C' F' H' ρ' a) : Aft X.K X.mg W G Z F σ m C' := by
  match m, h with
  | some (.ok a ρ'), h => exact fun F' H' A e => k F' H' ρ' a rfl A e (h F' H' A e)
  | some (.ex e ρ'), h => exact h
  | none, h => exact h
end
end EV
namespace GH
open PySem PySem.Spec PyProof.Rows L2
structure FnG (P : Program) (w : World) (K : PySem.W.Frag) (mg : Str → Option Value) (base : Heap) (k : Nat) (f : Addr) (fd : FuncData) (ps : List Str) (sp : Sp) : Prop where
  ln : ∀ vs H Q E, sp vs H Q E → vs.length = ps.length
  go : ∀ (A : Around) (ou : List Env) (s : Shared) (H : Hp) (args : Args) (us : List Value) (vs : List V) (Q : VK) (E : XK), A.guards = some [] → Room k A → Env0 P w K mg base A ou s H → BindsTo s fd args (ps.zip us) → Vals vs us → sp vs H Q E →
    codeAny (model P w) A (.call (.ref f) args) (CR CX0 ou P w H s Q E) s
section
variable {X : Cx} {k : Nat} {f : Addr} {fd : FuncData} {ps : List Str} {sp : Sp} {x : Str} {p pos : Pos} {e : Expr} {es : List Expr} {t : TA}
end
structure OkG (P : Program) (w : World) (K : PySem.W.Frag) (mg : Str → Option Value) (base : Heap) (n : Nat) (x : Str) (ps : List Str) (sp : Sp) : Prop where
  ex : ∃ f fd, FnG P w K mg base n f fd ps sp ∧ Binds K fd ps [] ∧ mg x = some (.ref f) ∧ PySem.W.keepIn K (.ref f) = true ∧ (∀ (s : Shared) (us : List Value), us.length = ps.length → BindsTo s fd ⟨us, []⟩ (ps.zip us)) ∧ ∃ oc od osl, K.lookup f = some ⟨oc, od, .func fd, osl⟩
theorem OkG.every {P : Program} {w : World} {K : PySem.W.Frag} {mg : Str → Option Value} {n : Nat} {x p : Str} {sp : Sp} {f : Addr} (O : ∀ base : Heap, OkG P w K mg base n x [p] sp) (m : mg x = some (.ref f)) :
    ∃ fd : FuncData, (∀ (s : Shared) (u : Value), BindsTo s fd ⟨[u], []⟩ [(p, u)]) ∧ ∀ base : Heap, FnG P w K mg base n f fd [p] sp := by
  obtain ⟨f0, fd, F, b, m0, k, bt, oc, od, osl, lk⟩ := (O default).ex
  rw [m] at m0
  cases m0
  refine ⟨fd, fun s u => bt s [u] rfl, fun base => ?_⟩
  obtain ⟨f1, fd1, F1, _, m1, _, _, oc1, od1, osl1, lk1⟩ := (O base).ex
  rw [m] at m1
  cases m1
  rw [lk] at lk1
  cases lk1
  exact F1
theorem go_law {P : Program} {w : World} {K : PySem.W.Frag} {mg mb : Str → Option Value} {k : Nat} {fa a : Addr} {fd : FuncData} {x : Str} {sp : Sp} {s1 : Shared} {vs : List Value} {ns : List Int}
    (KX : K.In s1.heap) (hns : s1.heap.Ns mainGlobals mg) (hb : s1.heap.Ns builtinsNs mb) (hbb : ∀ x : Str, x ≠ "__name__" → mb x = bootBuiltins x) (lim : s1.heap.NoLimit) (gn : s1.gens = #[])
    (ha : s1.heap.get? a = some { cls := .type "list", data := .seq vs.toArray }) (hi : IntsAre vs ns) (hl : ns.length ≤ sizeLine) (hr : Room k callerA)
    (F : ∀ base : Heap, FnG P w K mg base k fa fd [x] sp) (hbind : ∀ (s : Shared) (u : Value), BindsTo s fd ⟨[u], []⟩ [(x, u)])
    (hsp : ∀ H : Hp, SqL K H a (ns.map V.int) → sp [.ref a] H (fun v _ => v = .bl true) fun _ _ _ => False) :
    codeAny (model P w) callerA (.call (.ref fa) ⟨[.ref a], []⟩) (fun r s' => r = .ok (.ret (.bool true)) ∧ OldK s1.heap s'.heap ∧ s'.os = s1.os ∧ AllBare s'.gens) s1 := by
  have rv := vals_ints hi
  have hlen := hi.length
  have mid : ∀ H : Hp, Only H → SqL K H a (ns.map V.int) → HOk P w H s1.heap → (∀ b, H b ≠ none → b = a) → (H a ≠ none → K.lookup a = none) →
      codeAny (model P w) callerA (.call (.ref fa) ⟨[.ref a], []⟩) (fun r s' => r = .ok (.ret (.bool true)) ∧ OldK s1.heap s'.heap ∧ s'.os = s1.os ∧ AllBare s'.gens) s1 := by
    intro H only sq hok one out
    have bare : ∀ {b : Addr} {o : Obj} {es : Array DictEntry} {ep : Nat}, s1.heap.get? b = some o → o.data = .dict es ep → H b = none := fun {b o es ep} e d => by
      cases q : H b with
      | none => rfl
      | some u =>
        obtain rfl : b = a := one b (by rw [q]; exact Option.some_ne_none u)
        rw [ha] at e; cases e
        exact nomatch (show Data.seq vs.toArray _ = Data.dict es ep from d)
    have space : ∀ {b : Addr} {m : Str → Option Value}, s1.heap.Ns b m → (hidT s1.heap H).Ns b m := fun {b m} ⟨o, es, ep, e, d, r⟩ => ⟨o, es, ep, hidT_get e (bare e d), d, r⟩
    have part : K.In (hidT s1.heap H) := fun b o e => hidT_get (KX b o e) (by
      cases q : H b with
      | none => rfl
      | some u =>
        obtain rfl : b = a := one b (by rw [q]; exact Option.some_ne_none u)
        rw [out (by rw [q]; exact Option.some_ne_none u)] at e; cases e)
    have md : Mod K mg (hidT s1.heap H) := ⟨part, space hns, ⟨mb, space hb, hbb⟩, let ⟨mc, h1, h2⟩ := lim; ⟨mc, space h1, h2⟩⟩
    have ev : Env0 P w K mg (hidT s1.heap H) callerA [] s1 H := ⟨rfl, md, fun b o e => of_hidT e, Nat.le_of_eq (hidT_size _ _), trivial, fun b hb => (nomatch (show b ∈ ([] : List Addr) from hb)), hok, .of_eq gn⟩
    refine codeAny_mono ((F _).go callerA [] s1 H ⟨[.ref a], []⟩ [.ref a] [.ref a] _ _ rfl hr ev (hbind s1 (.ref a)) (.cons rfl .nil) (hsp H sq)) fun o s' h => ?_
    cases o with
    | error e => exact False.elim h
    | ok fl => cases fl with
      | next => exact False.elim h
      | brk => exact False.elim h
      | cont => exact False.elim h
      | ret u =>
        obtain ⟨v, H', os, br, un, hok', r', q⟩ := h
        obtain rfl : v = .bl true := q
        obtain rfl : u = Value.bool true := r'
        refine ⟨rfl, OldK.of_keep fun b o e => ?_, os, br⟩
        cases q : H b with
        | none => exact un.keep b o e q (fun z => nomatch (show b ∈ ([] : List Addr) from z)) (fun z => nomatch (show b ∈ ([] : List Addr) from z))
        | some u =>
          rcases only b with z | ⟨ob, xs, z⟩
          · rw [q] at z; cases z
          · obtain ⟨i1, _⟩ := hok b _ z
            obtain ⟨i2, _⟩ := hok' b _ (un.frzs b ob _ z)
            rw [e] at i1; cases i1
            exact i2
  cases hk : K.lookup a with
  | some o =>
    have e := KX a o hk
    rw [ha] at e
    cases e
    refine mid (fun _ => none) (fun _ => .inl rfl) (.inr ⟨_, vs.toArray, _, hk, rfl, rfl, rfl, ?_, by simpa using rv⟩) (fun b u z => nomatch (show (none : Option HO) = some u from z)) (fun b z => absurd rfl z) fun z => absurd rfl z
    rw [List.size_toArray, hlen]; exact hl
  | none =>
    let H0 : Hp := fun b => if b = a then some (.frz { cls := .type "list", data := .seq vs.toArray } (.lst (ns.map V.int))) else none
    have at_ : H0 a = some (.frz { cls := .type "list", data := .seq vs.toArray } (.lst (ns.map V.int))) := if_pos rfl
    have off : ∀ b, b ≠ a → H0 b = none := fun b n => if_neg n
    refine mid H0 (fun b => ?_) (.inl (.inr ⟨_, at_⟩)) (fun b u z => ?_) (fun b z => ?_) fun _ => hk
    · by_cases q : b = a
      · subst q; exact .inr ⟨_, _, at_⟩
      · exact .inl (off b q)
    · by_cases q : b = a
      · subst q
        rw [at_] at z; cases z
        exact ⟨ha, by rw [List.length_map]; exact hl, vs, _, rv, ha⟩
      · rw [off b q] at z; cases z
    · by_cases q : b = a
      · exact q
      · exact absurd (off b q) z
theorem go_walk {l : PySem.W.OpenLaw} {n k : Nat} {q : Program} {loose : List Str} {XP : (Str → Option Value) → Heap → Prop} {YP : World → Heap → Prop} {d : DefRec} {x : Str}
    (hn : l.most = some n) (hn2 : n ≤ sizeLine) (hdf : d.params.defaults = []) (hr : Room k callerA)
    (F : ∀ (w : World) (mg : Str → Option Value) (fa : Addr) (h : Heap), YP w h → h.Ns mainGlobals mg → mg d.name = some (.ref fa) →
      ∃ (K : PySem.W.Frag) (fd : FuncData) (sp : Sp), K.In h ∧ (∀ (s : Shared) (u : Value), BindsTo s fd ⟨[u], []⟩ [(x, u)]) ∧
        (∀ (H : Hp) (a : Addr) (ns : List Int), ns.length ≤ n → SqL K H a (ns.map V.int) → sp [.ref a] H (fun v _ => v = .bl true) fun _ _ _ => False) ∧
        ∀ base : Heap, FnG l.prog w K mg base k fa fd [x] sp) : PySem.W.WalkO q loose XP YP l.row.toRowW d [] (fun f vs => PySem.call f vs) := by
  refine Att.attach_call hn hdf fun w s0 s1 mg mb fa o pm cd doc a vs ns G Y _ _ _ hmg hob hin hle hgn => ?_
  obtain ⟨K, fd, sp, KX, hb, hs, hF⟩ := F w mg fa _ Y G.T.g hmg
  exact go_law KX G.T.g G.T.b G.T.builtins G.T.nolimit hgn hob hin (Nat.le_trans hle hn2) hr hF hb fun H hS => hs H a ns hle hS
end GH
namespace GH
open PySem PySem.Spec PyProof.Rows L2
def swp {α : Type} : List α → List α
  | [a, b] => [b, a]
  | _ => []
def tKw (sp : Sp) (g : List V → List V) (tk : TA) : TE := fun σ H Q => tk σ H fun zs H1 => sp (g zs) H1 Q E0
section
variable {X : Cx} {n : Nat} {x : Str} {ps ks : List Str} {sp : Sp} {p pos : Pos} {kws : List Keyword} {tk : TA} {st : Stmt} {g : {α : Type} → List α → List α}
end
end GH
namespace EV
open PySem PySem.Spec PyProof.Rows L2
section
variable {X : Cx} {W : WX} {T : Tab} {cal mkc : Cal} {a b c e o : Expr} {ea eb ec ek : Ex} {pos p p2 : Pos} {k : Nat}
mutual
theorem okB_ok : ∀ {d : PyData}, okB d = true → GH.okD d
  | .none, _ => trivial
  | .bool _, _ => trivial
  | .int i, h => by simp only [okB] at h; simp only [GH.okD]; simpa using h
  | .str x, h => by
    simp only [okB] at h; simp only [GH.okD]
    intro c hc
    have := List.all_eq_true.mp h c hc
    simpa using this
  | .list xs, h => by simp only [okB] at h; simp only [GH.okD]; exact okBs_ok h
  | .tuple xs, h => by simp only [okB] at h; simp only [GH.okD]; exact okBs_ok h
  | .dict _, h => by simp [okB] at h
theorem okBs_ok : ∀ {xs : List PyData}, okBs xs = true → GH.okAll xs
  | [], _ => trivial
  | x :: xs, h => by
    simp only [okBs, Bool.and_eq_true] at h
    simp only [GH.okAll]
    exact ⟨okB_ok h.1, okBs_ok h.2⟩
end
theorem cr_reprF (gd : X.A.guards = some []) (hr : Room k X.A) : CallR X (.builtin "repr") (rBlt X.K X.mg .repr) := by
  intro pins s σ H xs us Q I r h
  obtain ⟨F, ws, q, e, rs, hb, k⟩ := h
  refine GH.call_reprD gd hr pins s σ H xs us Q I r ?_
  cases rs with
  | nil => simp only [bltF] at hb; cases hb
  | @cons x v xs vs rx t =>
    cases t with
    | nil =>
      simp only [bltF] at hb
      split at hb
      · rename_i d hd
        split at hb
        · rename_i hc
          cases hb
          simp only [reprOk, Bool.and_eq_true, decide_eq_true_eq] at hc
          refine ⟨x, d, rfl, rx.dp e hd, okB_ok hc.1.1, hc.1.2, hc.2, ?_⟩
          have := k (.str d.shown) H ?_
          · exact this
          · have z := newS (K := X.K) (mg := X.mg) (F := F) (H := H) d.shown.cps.toList
            have e2 : toS d.shown.cps.toList = d.shown := by simp [toS]
            rw [e2] at z
            exact z
        · cases hb
      · cases hb
    | cons _ _ => simp only [bltF] at hb; cases hb
theorem kw_at {G Z F : Hp} {σ : L2.St} {H : Hp} {ρ : Ro} {xs : List V} {vs : List Val} {n : Nat} {f : String} {Q : VK} {C : Hp → Hp → Ro → Slot → Prop} (A : Abs X.K X.mg G Z F σ H ρ) (P : Reps X.K X.mg F xs vs) (hC : ∀ F' H' ρ' r, C F' H' ρ' r → ∀ x, ResR X.K X.mg G F' σ H' ρ' x r → Q x H') (hn : ∀ ss o, cal f ss = some o → ss.length = n)
    (h : Aft X.K X.mg W G Z F σ (kwEnd (cal f (vs.map .fz)) ρ) C) : spF X.K X.mg cal n f xs H Q fun c d H' => W c d σ H' := by
  obtain ⟨q1, q2⟩ := args_fz (H := H) P
  cases hm : cal f (vs.map .fz) with
  | none => rw [hm] at h; exact h.elim
  | some o =>
    refine ⟨F, vs.map .fz, hn _ _ hm, A.sub, q1, by rw [q2]; simp, ⟨A.x.nf, A.x.tb⟩, ?_⟩
    rw [hm] at h ⊢
    have gr : ∀ {F' H' : Hp} {fin : List Slot}, EndR X.K X.mg F H xs (vs.map .fz) F' H' fin → Abs X.K X.mg G Z F' σ H' ρ := fun {F' H' fin} E => by
      refine A.grow E.up E.sub (fun a o h ht => E.kp a o h (by rw [q2]; simp) ht) (fun a o h => ?_) E.tb E.nf
      rcases E.nw a o h with q | q | q | q
      · exact .inl q
      · exact .inr (.inl q)
      · rw [q2] at q; simp at q
      · exact .inr (.inr q)
    cases o with
    | ex e fin =>
      intro F' H' d E rd
      exact h F' H' d (gr E) E.up rd
    | ok r fin =>
      intro F' H' y E ry
      refine hC F' H' ρ r (h F' H' (gr E) E.up) y ?_
      cases r with
      | un => exact ry.elim
      | fz v => exact ry
      | ow v =>
        obtain ⟨q, rfl, hq, o⟩ := ry
        obtain ⟨_, g, l⟩ := A.freshN hq
        exact ⟨q, rfl, g, o, l⟩
def gI {α : Type} (l : List α) : List α := l
end
end EV
namespace EV
open PySem PySem.Spec PyProof.Rows L2
section
variable {pr : List Nat} {X : Cx} {W : WX} {T : Tab} {cal mkc : Cal} {a b c e o : Expr} {ea eb ec ek : Ex} {pos p p2 : Pos} {k : Nat}
def gNs : List Nat → TGs
  | [] => gNil
  | i :: is => gCons (gName i) (gNs is)
theorem gNs_of : ∀ {is : List Nat} {xs : List V} {σ : L2.St} {H : Hp} {Q : L2.St → Hp → Prop}, xs.length = is.length → Q (setV is xs σ) H → gNs is xs σ H Q
  | [], [], σ, H, Q, _, q => ⟨rfl, q⟩
  | [], _ :: _, _, _, _, h, _ => nomatch h
  | _ :: _, [], _, _, _, h, _ => nomatch h
  | i :: is, x :: xs, σ, H, Q, h, q => ⟨x, xs, rfl, gNs_of (is := is) (xs := xs) (by simpa using h) q⟩
theorem sN_nil : PGs X [] (gNs []) := pgs_nil
theorem sN_cons {es : List Expr} {is : List Nat} {i : Nat} {x : Str} {px : Pos} (hN : X.N.Nodup) (hi : X.N[i]? = some x) (hx : Loc X.env.scope x) (h : PGs X es (gNs is)) (hf : X.fn x = true ∨ X.env.scope.names.lookup x = some .local := by first | exact .inl rfl | exact .inr rfl | assumption)
    (hs : (assignEach (.Name x px :: es) X.env).map (·.2) = assign (.Name x px) X.env :: (assignEach es X.env).map (·.2) := by rfl) : PGs X (.Name x px :: es) (gNs (i :: is)) := pgs_cons (pg_name hN hi hx hf) h hs
theorem sS_parT {is : List Nat} {xs : List Ex} {ts es : List Expr} {pt pt2 : Pos} {kt k2} (hp : ∀ n ∈ is, n ∉ pr) (hc : X.calm = true) (ha : PA X es (tSl X W T cal mkc xs)) (hg : PGs X ts (gNs is)) (hcap : is.length ≤ 100)
    (hn : (assignEach ts X.env).length = is.length := by rfl) (hst : (assignEach ts X.env).findIdx? (·.1) = none := by rfl)
    (hs : swapsWithSole [.Tuple ts kt pt] (.Tuple es k2 pt2) pos.line X.env = pure false := by rfl) (hw : swappedStores [.Tuple ts kt pt] (.Tuple es k2 pt2) X.env = pure none := by rfl) (h1 : (assignEach [.Tuple ts kt pt] X.env).map (·.2) = [assign (.Tuple ts kt pt) X.env] := by rfl) :
    PS X (.Assign [.Tuple ts kt pt] (.Tuple es k2 pt2) pos) (tS X W T cal mkc pr (.par is xs)) := by
  refine (ps_asg (pe_tup ha) (pg_tup hc hg hn hst) hs hw h1).imp fun D σ H q => ?_
  obtain ⟨G, Z, F, ρ, A, q⟩ := q
  refine ⟨G, Z, F, ρ, A, (AftS.bnd q).imp fun F1 H1 ρ1 rs A1 e1 q1 ys ry => ?_⟩
  cases hm : setAll is rs ρ1 with
  | none => rw [hm] at q1; exact q1.elim
  | some ρ2 =>
    rw [hm] at q1
    have l1 := ry.all.length
    have l2 := setAll_len hm
    refine ⟨?_, fun p hp2 => ?_⟩
    · rw [sizeLine_eq]; omega
    · obtain ⟨A2, hF, hG, hl⟩ := A1.newO (o := .tup ys) hp2
      refine ⟨p, ys, rfl, .inl (.inl upd_same), by omega, gNs_of (by omega) ?_⟩
      refine AftS.nxK q1 (abs_setAll A2 (paired_imp (fun x r h => ?_) ry.all) ry.ap hm) (kp_setV hp)
      cases r with
      | un => exact h.elim
      | fz v => exact h
      | ow v =>
        obtain ⟨q, rfl, g, o, l⟩ := h
        obtain ⟨u, hu, _⟩ := o.at
        have hne : q ≠ p := fun z => by rw [z, hp2] at hu; cases hu
        exact ⟨q, rfl, g, o.keep (Ex'.refl _) o.no (upd_ne hne), l⟩
  where
    setAll_len : ∀ {is : List Nat} {rs : List Slot} {ρ ρ2 : Ro}, setAll is rs ρ = some ρ2 → rs.length = is.length := by
      intro is
      induction is with
      | nil => intro rs ρ ρ2 h; cases rs <;> simp [setAll] at h ⊢
      | cons i is ih =>
        intro rs ρ ρ2 h
        cases rs with
        | nil => simp [setAll] at h
        | cons r rs =>
          simp only [setAll] at h
          split at h
          · simp [ih h]
          · cases h
end
end EV
namespace EV
open PySem PySem.Spec PyProof.Rows L2
section
variable {X : Cx} {W : WX} {k : Nat} {f : Addr} {fd : FuncData} {ps : List Str} {sp : Sp}
theorem run_fnE1 {pins : List (Addr × Obj)} {σ : L2.St} {H : Hp} {s : Shared} {Q : VK} {us : List Value} {vs : List V} {args : Args} (F : FnE X.prog X.w X.K X.mg X.base k f fd ps sp) (gd : X.A.guards = some []) (hr : Room (k + 1) X.A) (tk : Takes X W)
    (hb : us.length = ps.length → BindsTo s fd args (ps.zip us)) (I : Inv X pins σ H s) (r : Vals vs us) (h : sp vs H Q fun c d H' => W c d σ H') : wpAny (model X.prog X.w) X.A.in1 (call (.ref f) args.pos args.kw) (EP X pins σ Q) X.xe s := by
  have hl : us.length = ps.length := by rw [← r.length]; exact F.ln _ _ _ _ h
  have e0 : Env0 X.prog X.w X.K X.mg X.base X.A.in1 X.stack s H := by
    have e := I.env0
    exact ⟨e.frames, e.mod, e.bs, e.bsz, e.funs, e.frf, e.hok, e.bare⟩
  refine wpAny_call (codeAny_mono (F.go X.A.in1 X.stack s H args us vs Q _ gd hr.in1 e0 (hb hl) r h) fun o s' hq => ?_)
  cases o with
  | error e => exact tk e s' (XE.of_call I (fun _ _ _ h => h) hq)
  | ok fl => cases fl with
    | ret u => exact I.after hq
    | next => exact False.elim hq
    | brk => exact False.elim hq
    | cont => exact False.elim hq
end
section
variable {X : Cx} {W : WX} {T : Tab} {cal mkc : Cal} {a b c e o : Expr} {ea eb ec ek : Ex} {pos p p2 : Pos} {k : Nat}
end
end EV
namespace EV
open PySem PySem.Spec PyProof.Rows L2
theorem joinS_L (sep : List Nat) : ∀ ls : List (List Nat), joinS sep ls = TL.joinL sep ls
  | [] => rfl
  | [_] => rfl
  | a :: b :: r => by
    have ih := joinS_L sep (b :: r)
    show a ++ sep ++ joinS sep (b :: r) = a ++ (sep ++ TL.joinL sep (b :: r))
    rw [ih, List.append_assoc]
section
variable {X : Cx} {W : WX} {T : Tab} {cal mkc : Cal} {a b c e o : Expr} {ea eb ec ek : Ex} {pos p p2 : Pos} {k kr : Nat}
def rBmt (K : PySem.W.Frag) (mg : Str → Option Value) (m : Bm) : V → List V → Hp → VK → Prop := fun x ys H Q => ∃ F u vs w, Ex' F H ∧ RepB K mg F H x u ∧ Reps K mg F ys vs ∧ bmtF u m vs = some (.fz w) ∧ ∀ z, Rep K mg F z w → Q z H
theorem join_inv {u : Val} {vs : List Val} {w : Slot} (h : bmtF u .join vs = some w) : ∃ sep xs ls, u = .str sep ∧ (vs = [.lst xs] ∨ vs = [.tup xs]) ∧ allS xs = some ls ∧ (ls.map (·.length)).sum + ls.length * sep.length ≤ cap ∧ w = .fz (.str (joinS sep ls)) := by
  cases u with
  | str sep =>
    rcases vs with _ | ⟨y, _ | ⟨z, r⟩⟩
    · exact nomatch (show (none : Option Slot) = some w from h)
    · cases y with
      | lst xs =>
        have h : (match allS xs with
          | some ls => if (ls.map (·.length)).sum + ls.length * sep.length ≤ cap then some (Slot.fz (.str (joinS sep ls))) else none
          | none => none) = some w := h
        split at h
        · rename_i ls hl
          split at h
          · rename_i hc
            exact ⟨sep, xs, ls, rfl, .inl rfl, hl, hc, (Option.some.inj h).symm⟩
          · cases h
        · cases h
      | tup xs =>
        have h : (match allS xs with
          | some ls => if (ls.map (·.length)).sum + ls.length * sep.length ≤ cap then some (Slot.fz (.str (joinS sep ls))) else none
          | none => none) = some w := h
        split at h
        · rename_i ls hl
          split at h
          · rename_i hc
            exact ⟨sep, xs, ls, rfl, .inr rfl, hl, hc, (Option.some.inj h).symm⟩
          · cases h
        · cases h
      | _ => exact nomatch (show (none : Option Slot) = some w from h)
    · cases y <;> exact nomatch (show (none : Option Slot) = some w from h)
  | _ => exact nomatch (show (none : Option Slot) = some w from h)
theorem reps_strsB {K : PySem.W.Frag} {mg : Str → Option Value} {F : Hp} : ∀ {xs : List V} {vs : List Val} {ls : List (List Nat)}, Reps K mg F xs vs → allS vs = some ls → xs = (ls.map toS).map V.str
  | _, _, ls, .nil, h => by simp only [allS] at h; cases h; rfl
  | _, _, ls, .cons (v := v) (vs := vs) a r, h => by
    cases v with
    | str l =>
      simp only [allS, Option.map_eq_some_iff] at h
      obtain ⟨ls', h, rfl⟩ := h
      cases a
      rw [reps_strsB r h]; rfl
    | _ => simp [allS] at h
theorem mv_join : MtR X "str.join" (rBmt X.K X.mg .join) := by
  intro pins s σ H x xs v us Q I rx rs h
  obtain ⟨F, u, vs, w, e, ru, rv, hb, k⟩ := h
  obtain ⟨sep, ys, ls, rfl, hvs, h1, h2, hw⟩ := join_inv hb
  cases hw
  cases ru
  have hsz : ((ls.map toS).map (·.length)).sum + (ls.map toS).length * (toS sep).length ≤ 16777216 := by
    have e1 : ((ls.map toS).map (·.length)) = ls.map (·.length) := by
      rw [List.map_map]
      exact List.map_congr_left fun l _ => by simp [toS, Str.length]
    have e2 : (toS sep).length = sep.length := by simp [toS, Str.length]
    rw [e1, e2, List.length_map]
    unfold cap at h2
    omega
  have hq : Q (.str (Txt.join (toS sep) (ls.map toS))) H := by
    have hj : Txt.join (toS sep) (ls.map toS) = toS (TL.joinL sep ls) := SX.join_S sep ls
    rw [hj, ← joinS_L]
    exact k _ (.str _)
  rcases hvs with rfl | rfl
  · cases rv with
    | cons ry rt =>
      cases rt
      cases ry with
      | lst sa ra =>
        have hx := reps_strsB ra h1
        exact mt_join pins s σ H _ _ v us Q I rx rs ⟨toS sep, _, ls.map toS, rfl, rfl, .inl (.inl (.inl (by rw [← hx]; exact e _ _ sa))), hsz, hq⟩
  · cases rv with
    | cons ry rt =>
      cases rt
      cases ry with
      | tup sa ra =>
        have hx := reps_strsB ra h1
        exact mt_join pins s σ H _ _ v us Q I rx rs ⟨toS sep, _, ls.map toS, rfl, rfl, .inr (.inl (.inl (by rw [← hx]; exact e _ _ sa))), hsz, hq⟩
theorem bm_red {TN : String} {m : Bm} {xs : List Ex} {σ : L2.St} {H : Hp} {Q : VK} (hT : ∀ F H x u, Ex' F H → RepB X.K X.mg F H x u → bmtK m u = true → tyV X.K TN x H) (hF : ∀ u vs s, bmtF u m vs = some s → ∃ w, s = .fz w) (h : tE X.K X.mg W T cal mkc (.bmt ea m xs) σ H Q) : tBM X.K TN (rBmt X.K X.mg m) (tO X.K X.mg W T cal mkc ea) (tAs X.K X.mg W T cal mkc xs) σ H Q := by
  obtain ⟨G, Z, F, ρ, A, q⟩ := h
  have e1 : evE T cal mkc (.bmt ea m xs) ρ = EV.bnd (opnd ea (evE T cal mkc ea) ρ) fun x ρ1 => if !((x.val ρ1).map (bmtK m)).getD false then none else EV.bnd (evEs T cal mkc xs ρ1) fun vs ρ2 => EV.lift ((x.val ρ2).bind fun u => bmtF u m vs) ρ2 := by
    simp only [evE]
  rw [e1] at q
  refine ⟨G, Z, F, ρ, A, q.bnd.imp fun F1 H1 ρ1 o A1 e1 q1 x rx => ?_⟩
  split at q1
  · exact q1.elim
  · rename_i hc
    cases hv : o.val ρ1 with
    | none => rw [hv] at hc; simp at hc
    | some u0 =>
      rw [hv] at hc
      have hk : bmtK m u0 = true := by simpa using hc
      refine ⟨hT F1 H1 x u0 A1.sub (OpdR.read A1 rx hv) hk, G, Z, F1, ρ1, A1, q1.bnd.imp fun F2 H2 ρ2 vs A2 e2 q2 ys rys => ?_⟩
      obtain ⟨s, hs, q3⟩ := q2.lift
      obtain ⟨u, hu, hs⟩ := Option.bind_eq_some_iff.mp hs
      obtain ⟨w, rfl⟩ := hF _ _ _ hs
      exact ⟨F2, u, vs, w, A2.sub, OpdR.read A2 (rx.mono e2) hu, rys, hs, fun z rz => q3.pur A2 z rz⟩
theorem ty_strB {F H : Hp} {x : V} {u : Val} (r : RepB X.K X.mg F H x u) {m : Bm} (hm : m = .sindex ∨ m = .join) (h : bmtK m u = true) : tyV X.K "str" x H := by
  cases r with
  | str l => rfl
  | _ => rcases hm with rfl | rfl <;> cases h
section
variable {es : List Expr} {xs : List Ex} {apos cpos : Pos}
theorem sE_join (ho : PE X o (tO X.K X.mg W T cal mkc ea)) (ha : PA X (e :: es) (tAs X.K X.mg W T cal mkc xs)) (hbase : attributeBase o "join" X.env (eval o X.env) = eval o X.env := by rfl)
    (hfew : ((backTo cpos (starEach (e :: es) X.env)).all (fun x => !x.1) && (backToKw cpos (keywordEach [] X.env)).all (fun x => x.1.isSome) && decide ((e :: es).length + ([] : List Keyword).length + (if ([] : List Keyword).isEmpty then 0 else 1) < 30)) = true := by rfl)
    (hline : (apos.endLine == cpos.line) = true := by rfl) (hs : starEach (e :: es) X.env = (false, eval e X.env) :: starEach es X.env := by rfl) (hplain : (backTo cpos (starEach es X.env)).any (·.1) = false := by rfl) :
    PE X (.Call (.Attribute o "join" apos) (e :: es) [] cpos) (tE X.K X.mg W T cal mkc (.bmt ea .join xs)) :=
  (pe_bm PySem.F.plainAttrs_str PySem.F.slot_str_join PySem.F.type_str_join mv_join ho ha hbase hfew hline hs hplain).imp fun _ _ _ q => bm_red (fun _ _ _ _ _ r h => ty_strB r (.inr rfl) h) (fun _ _ _ h => by obtain ⟨_, _, _, _, _, _, _, h⟩ := join_inv h; exact ⟨_, h⟩) q
end
end
end EV
namespace EV
open PySem PySem.Spec PyProof.Rows L2
section
variable {K : PySem.W.Frag} {mg : Str → Option Value} {F H : Hp}
end
section
variable {X : Cx} {kr : Nat}
end
end EV
namespace EV
open PySem PySem.Spec PyProof.Rows L2
section
variable {X : Cx} {W : WX} {T : Tab} {cal mkc : Cal} {pos : Pos}
end
end EV
namespace EZ
open PySem PySem.Spec PyProof.Rows L2 RZ
section
variable {prog : Program} {w : World} {A : Around} {E : Value → Shared → Prop} {s : Shared} {z TI TO T i1 i2 l1 l2 : Addr} {f : Bool} {oT : Obj} {k1 k2 : Nat} {xs ys : Array Value} {x y : Value}
end
structure ZSt (z TI TO i1 i2 l1 l2 : Addr) (xs ys : Array Value) (S : Addr) (i : Nat) (h : Heap) : Prop where
  p : IsPair h TI (.ref i1) (.ref i2)
  a1 : h.IsTupleIter i1 l1 i
  a2 : h.IsTupleIter i2 l2 i
  b1 : h.IsTuple l1 xs
  b2 : h.IsTuple l2 ys
  o : ∃ u, h.get? TO = some u
  z : (IsZip h z TI TO .none ∧ ∃ a b, IsPair h TO a b) ∨ ∃ T f oT, IsZipHeld h z TI TO T f ∧ h.get? T = some oT ∧ T ≠ z ∧ T ≠ i1 ∧ T ≠ i2 ∧ T ≠ S
def Prs (xs ys : Array Value) (bad : List Addr) (N : Nat) (h : Heap) (i : Nat) (acc : Array Value) : Prop :=
  ∃ as : List Addr, acc = (as.map Value.ref).toArray ∧ as.length = i ∧ as.Nodup ∧ ∀ (j : Nat) a, as[j]? = some a → N ≤ a ∧ a ∉ bad ∧ ∃ x y, xs[j]? = some x ∧ ys[j]? = some y ∧ IsPair h a x y
theorem Prs.size {xs ys : Array Value} {bad : List Addr} {N : Nat} {h : Heap} {i : Nat} {acc : Array Value} (p : Prs xs ys bad N h i acc) : acc.size = i := by
  obtain ⟨as, rfl, rfl, _⟩ := p
  simp
theorem Prs.push {xs ys : Array Value} {bad : List Addr} {N : Nat} {h h0 : Heap} {i : Nat} {acc : Array Value} {a : Addr} {x y : Value} (p : Prs xs ys bad N h i acc) (p0 : ∀ as : List Addr, (∀ b ∈ as, ∃ o, h0.get? b = some o) → a ∉ as) (k0 : Prs xs ys bad N h0 i acc)
    (hN : N ≤ a) (n : a ∉ bad) (ex : xs[i]? = some x) (ey : ys[i]? = some y) (q : IsPair h a x y) : Prs xs ys bad N h (i + 1) (acc.push (.ref a)) := by
  obtain ⟨as, rfl, rfl, nd, r⟩ := p
  obtain ⟨as0, e0, l0, _, r0⟩ := k0
  have es : as0 = as := by
    have : (as0.map Value.ref) = as.map Value.ref := by simpa using e0.symm
    exact (List.map_inj_right (f := Value.ref) fun _ _ z => Value.ref.inj z).mp this
  subst es
  refine ⟨as0 ++ [a], by simp, by simp, ?_, fun j b hb => ?_⟩
  · rw [List.nodup_append]
    refine ⟨nd, by simp, fun b hb c hc z => ?_⟩
    have hc : c = a := by simpa using hc
    subst hc; subst z
    refine p0 as0 (fun b hb => ?_) hb
    obtain ⟨j, hj⟩ := List.getElem?_of_mem hb
    obtain ⟨_, _, x, y, _, _, q⟩ := r0 j b hj
    exact ⟨_, q⟩
  · rcases Nat.lt_or_ge j as0.length with hj | hj
    · rw [List.getElem?_append_left hj] at hb
      exact r j b hb
    · rw [List.getElem?_append_right hj] at hb
      have e : j - as0.length = 0 := by
        rcases Nat.eq_zero_or_pos (j - as0.length) with h | h
        · exact h
        · rw [List.getElem?_eq_none (by simp; omega)] at hb; cases hb
      rw [e] at hb
      have ej : j = as0.length := by omega
      subst ej
      cases hb
      exact ⟨hN, n, x, y, ex, ey, q⟩
section
variable {prog : Program} {w : World} {A : Around} {R : Result → Shared → Prop} {z TI TO i1 i2 l1 l2 S : Addr} {xs ys : Array Value}
end
end EZ
namespace EZ
open PySem PySem.Spec PyProof.Rows L2 RZ
section
variable {prog : Program} {w : World} {A : Around} {z TI TO i1 i2 l1 l2 S : Addr} {xs ys : Array Value}
theorem ZSt.up {i : Nat} {h h' : Heap} (st : ZSt z TI TO i1 i2 l1 l2 xs ys S i h) (n : S ∉ [z, TI, TO, i1, i2, l1, l2]) (k : ∀ b o, b ≠ S → h.get? b = some o → h'.get? b = some o) : ZSt z TI TO i1 i2 l1 l2 xs ys S i h' := by
  simp only [List.mem_cons, List.not_mem_nil, or_false, not_or] at n
  obtain ⟨n0, n1, n2, n3, n4, n5, n6⟩ := n
  refine ⟨k _ _ (Ne.symm n1) st.p, st.a1.at fun o e => k _ o (Ne.symm n3) e, st.a2.at fun o e => k _ o (Ne.symm n4) e, st.b1.at fun o e => k _ o (Ne.symm n5) e, st.b2.at fun o e => k _ o (Ne.symm n6) e, let ⟨u, e⟩ := st.o; ⟨u, k _ _ (Ne.symm n2) e⟩, ?_⟩
  rcases st.z with ⟨hz, a, b, hTO⟩ | ⟨T, f, oT, hz, hT, r1, r2, r3, r4⟩
  · exact .inl ⟨k _ _ (Ne.symm n0) hz, a, b, k _ _ (Ne.symm n2) hTO⟩
  · exact .inr ⟨T, f, oT, k _ _ (Ne.symm n0) hz, k _ _ r4 hT, r1, r2, r3, r4⟩
theorem ZSt.ty {i : Nat} {s : Shared} (st : ZSt z TI TO i1 i2 l1 l2 xs ys S i s.heap) : s.TypeIs (.ref z) "zip" := by
  rcases st.z with ⟨hz, _⟩ | ⟨T, f, oT, hz, _⟩
  · exact ⟨_, hz, rfl⟩
  · exact ⟨_, hz, rfl⟩
end
end EZ
namespace EZ
open PySem PySem.Spec PyProof.Rows L2 RZ
def updL (H : Hp) : List (Addr × HO) → Hp
  | [] => H
  | p :: r => updL (upd H p.1 p.2) r
def prL : List Addr → List V → List V → List (Addr × HO)
  | a :: as, x :: xs, y :: ys => (a, .tup [x, y]) :: prL as xs ys
  | _, _, _ => []
section
variable {X : Cx} {e e2 : Expr} {ta : TA} {p p2 p3 pos : Pos}
def tTz (K : PySem.W.Frag) (ta : TA) : TE := fun σ H Q => ta σ H fun vs H1 => ∃ a b xs ys, vs = [.ref a, .ref b] ∧ SqT K H1 a xs ∧ SqT K H1 b ys ∧ min xs.length ys.length ≤ 1000 ∧
  ∀ (as : List Addr) (t : Addr), as.length = min xs.length ys.length → (∀ c ∈ as ++ [t], H1 c = none) → (as ++ [t]).Nodup → Q (.ref t) (updL H1 (prL as xs ys ++ [(t, .tup (as.map V.ref))]))
structure Made (X : Cx) (pins : List (Addr × Obj)) (σ : L2.St) (Q : VK) (v : Value) (s' : Shared) (s1 : Shared) (H1 : Hp) (a b : Addr) (xs ys : List V) (h1 : Heap) : Prop where
  v : v = .ref (s1.heap.objs.size + 4)
  s : s' = { s1 with heap := h1 }
  I : Inv X pins σ H1 s1
  x : SqT X.K H1 a xs
  y : SqT X.K H1 b ys
  n : min xs.length ys.length ≤ 1000
  q : ∀ (as : List Addr) (t : Addr), as.length = min xs.length ys.length → (∀ c ∈ as ++ [t], H1 c = none) → (as ++ [t]).Nodup → Q (.ref t) (updL H1 (prL as xs ys ++ [(t, .tup (as.map V.ref))]))
  z : IsZip h1 (s1.heap.objs.size + 4) (s1.heap.objs.size + 2) (s1.heap.objs.size + 3) .none
  p : IsPair h1 (s1.heap.objs.size + 2) (.ref s1.heap.objs.size) (.ref (s1.heap.objs.size + 1))
  o : IsPair h1 (s1.heap.objs.size + 3) .none .none
  i1 : h1.IsTupleIter s1.heap.objs.size a 0
  i2 : h1.IsTupleIter (s1.heap.objs.size + 1) b 0
  l : h1.objs.size = s1.heap.objs.size + 5
  k : ∀ c o, s1.heap.get? c = some o → h1.get? c = some o
end
end EZ
namespace EZ
open PySem PySem.Spec PyProof.Rows L2 HT
theorem rev_pick (xs : Array Value) : ((List.range xs.size).filterMap fun (k : Nat) => xs[(((xs.size : Int) - 1) + (k : Int) * (-1)).toNat]?).toArray = xs.toList.reverse.toArray := by
  have e : (fun (k : Nat) => xs[(((xs.size : Int) - 1) + (k : Int) * (-1)).toNat]?) = (fun i => xs[i]?) ∘ fun k => xs.size - 1 - k := by
    funext k
    show xs[_]? = xs[_]?
    congr 1
    show (((xs.size : Int) - 1) + (k : Int) * (-1)).toNat = xs.size - 1 - k
    omega
  rw [e, ← List.filterMap_map, PySem.W.krv_range, List.filterMap_reverse, PySem.W.krv_all]
section
variable {prog : Program} {w : World} {A : Around} {E : Value → Shared → Prop} {s : Shared}
theorem applied_rev {sl : Addr} {u : Tok} {n : Nat} {vs : Value} {Q : Int × Int × Nat → Shared → Prop} (hs : s.heap.IsSliceOf sl .none .none vs) (hv : vs = .int (-1) u) (h : Q (((n : Int) - 1), -1, n) s) :
    wpAny (model prog w) A (Builtin.Slice.sliceApplied (.ref sl) (pure (n : Int))) Q E s := by
  subst hv
  obtain ⟨os, hos, hcs, hds⟩ := id hs
  unfold Builtin.Slice.sliceApplied Builtin.Slice.sliceFields
  refine wpAny_bind (wpAny_bind (wpAny_field hos hds (x := .none) rfl (wpAny_bind (wpAny_field hos hds (x := .none) rfl (wpAny_bind (wpAny_field hos hds (x := .int (-1) u) rfl (wpAny_pure ?_)))))))
  refine wpAny_bind (slicePart_int ?_); show wpAny _ _ (if ((-1 : Int) == 0) = true then _ else _) _ _ s; rw [if_neg (by decide)]
  refine wpAny_bind (slicePart_none (wpAny_bind (slicePart_none (wpAny_bind (wpAny_pure ?_)))))
  have e : Builtin.Slice.slicePlaces ((n : Int) - 1) (-1) (-1) = n := by
    unfold Builtin.Slice.slicePlaces
    rw [if_neg (by decide)]
    by_cases z : 0 < n
    · rw [if_pos (by omega)]
      have : ((n : Int) - 1 - -1 - 1) / - -1 = (n : Int) - 1 := by rw [show (- -1 : Int) = 1 by decide, Int.ediv_one]; omega
      rw [this]; omega
    · rw [if_neg (by omega)]; omega
  show wpAny _ _ (pure ((n : Int) - 1, (-1 : Int), Builtin.Slice.slicePlaces ((n : Int) - 1) (-1) (-1))) _ _ s
  rw [e]
  exact wpAny_pure h
theorem item_rev {t sl : Addr} {items : Array Value} {u : Tok} {Q : Value → Shared → Prop} (ht : IsTup s.heap t items) (hs : s.heap.IsSliceOf sl .none .none (.int (-1) u))
    (h : Q (.ref s.heap.objs.size) { s with heap := s.heap.push { cls := .type "tuple", data := .seq items.toList.reverse.toArray } }) (hz : items.size ≤ sizeLine) : wpAny (model prog w) A (getItem (.ref t) (.ref sl)) Q E s := by
  have ok : sizeOk (.seq items.toList.reverse.toArray) := by
    show items.toList.reverse.toArray.size ≤ sizeLine
    rw [List.size_toArray, List.length_reverse, Array.length_toList]; exact hz
  obtain ⟨os, hos, hcs, hds⟩ := id hs
  have ts : s.TypeIs (.ref sl) "slice" := ⟨os, hos, hcs⟩
  unfold getItem
  try with_reducible refine wpAny_holding ?_
  first | refine wpAny_bind (wpAny_pure ?_) | skip
  refine wpAny_bind (wpAny_sequenceKey ht.typeIs (by decide) (wpAny_bind (wpAny_callSpecial?_slot (name := Str.ofString "__getitem__") ht.typeIs PyProof.Rows.slot_tuple_getitem (wpAny_call_entry PyProof.Rows.slot_tuple_getitem ht.typeIs entry_tuple_getitem ?_ (args_tuple_getitem _ _)))))
  show wpAny _ _ (Builtin.Tuple.tupleItemsOf (.ref t) >>= fun _ => _) _ _ s; refine wpAny_bind (tupleItemsOf_ ht (wpAny_bind (wpAny_typeOf ts ?_))); rw [if_pos (by decide)]
  refine wpAny_bind (applied_rev hs rfl ?_)
  show wpAny _ _ (if (((items.size : Int) - 1) == 0 && (-1 : Int) == 1 && items.size == items.size) = true then _ else _) _ _ s
  rw [if_neg (by simp), rev_pick]
  first
    | exact wpAny_bind (m := Builtin.Tuple.tupleExact _) (wpAny_newObj_type (wpAny_pure ⟨_, rfl, wpAny_pure h⟩) ok)
    | exact wpAny_bind (m := Builtin.Tuple.tupleExact _) (wpAny_newObj_type (wpAny_bind (wpAny_pure (wpAny_pure ⟨_, rfl, wpAny_pure h⟩))) ok)
    | exact wpAny_bind (wpAny_bind (m := Builtin.Tuple.tupleExact _) (wpAny_newObj_type (wpAny_pure (wpAny_pure ⟨_, rfl, wpAny_pure h⟩)) ok))
    | exact wpAny_bind (wpAny_bind (m := Builtin.Tuple.tupleExact _) (wpAny_newObj_type (wpAny_pure ⟨_, rfl, wpAny_pure h⟩) ok))
end
def tRevT (K : PySem.W.Frag) (te : TE) : TE := fun σ H Q => te σ H fun x H1 => ∃ a xs, x = .ref a ∧ SqT K H1 a xs ∧ ∀ p, H1 p = none → Q (.ref p) (upd H1 p (.tup xs.reverse))
theorem pe_revT {X : Cx} {e : Expr} {te : TE} {k : Nat} {p1 p2 p3 pos : Pos} (he : PE X e te) : PE X (.Subscript e (.Slice none none (some (.UnaryOp .USub (.Constant (.int 1) k p1) p2)) p3) pos) (tRevT X.K te) := by
  refine ⟨fun pins s σ H Q I h => Subscript_ (thn (he.run pins s σ H _ I h) fun v s1 ⟨x, H1, I1, r1, a, xs, ex, hx, q⟩ => ?_)⟩
  subst ex
  cases r1
  have st : PO X (some (.UnaryOp .USub (.Constant (.int 1) k p1) p2)) (tPart (tUn (rU fun i => .int (-i)) (tC (.int 1)))) := po_some (pe_un un_neg pe_int)
  refine wpAny_Slice (thn (po_none.run pins s1 σ H1 (fun o H2 => o = none ∧ H2 = H1) I1 ⟨rfl, rfl⟩) fun vl s2 ⟨l, H2, I2, pl, el, e2⟩ => ?_)
  subst el e2
  refine thn (po_none.run pins s2 σ H2 (fun o H3 => o = none ∧ H3 = H2) I2 ⟨rfl, rfl⟩) fun vu s3 ⟨u, H3, I3, pu, eu, e3⟩ => ?_
  subst eu e3
  refine thn (st.run pins s3 σ H3 (fun o H4 => o = some (-1) ∧ H4 = H3) I3 ⟨1, rfl, -1, rfl, rfl, rfl⟩) fun vs s4 ⟨o, H4, I4, ps, eo, e4⟩ => ?_
  subst eo e4
  have I5 : Inv X pins σ H4 { s4 with heap := s4.heap.push { cls := .type "slice", data := .fields #[vl, vu, vs] } } := I4.kept (t' := s4.toks) fun b ob q => Heap.get?_push_of_some _ q
  obtain ⟨its, r, ht, hz⟩ := I5.tuple hx
  have hl := r.length
  cases pl
  cases pu
  cases ps with
  | int i t =>
  show wpAny (model X.prog X.w) X.A (subscriptTail e (.Slice none none (some (.UnaryOp .USub (.Constant (.int 1) k p1) p2)) p3) (.ref a) (.ref s4.heap.objs.size)) (EP X pins σ Q) X.xe { s4 with heap := s4.heap.push { cls := .type "slice", data := .fields #[.none, .none, .int (-1) t] } }
  refine tail_any (ops := [.ref a, .ref s4.heap.objs.size]) ht.typeIs (PyProof.Rows.slot_tuple_getitem.lookup) (item_rev (u := t) ht (Heap.IsSliceOf.new _ _ _ _) ?_ (by rw [List.size_toArray]; omega)) (by with_unfolding_all rfl)
  exact ⟨.ref _, _, I5.laid (t' := s4.toks) (o := .tup xs.reverse) (fun b ob q => Heap.get?_push_of_some _ q) (Nat.le_refl _) ⟨by rw [List.length_reverse]; exact hz, _, r.reverse, IsTup.new _ _⟩, rfl, q _ (I5.hok.fresh (Nat.le_refl _))⟩
end EZ
namespace EV
open PySem PySem.Spec PyProof.Rows L2
section
variable {X : Cx} {W : WX} {T : Tab} {cal mkc : Cal} {a b c d e o : Expr} {ea eb ec ed ek : Ex} {pos p p2 p3 : Pos} {k kr : Nat}
theorem Reps.rev {K : PySem.W.Frag} {mg : Str → Option Value} {F : Hp} : ∀ {xs : List V} {vs : List Val}, Reps K mg F xs vs → Reps K mg F xs.reverse vs.reverse
  | _, _, .nil => .nil
  | _, _, .cons a r => by
    rw [List.reverse_cons, List.reverse_cons]
    exact (Reps.rev r).app (.cons a .nil)
theorem sE_rev {n : Nat} {q1 q2 q3 : Pos} (ha : PE X a (tO X.K X.mg W T cal mkc ea)) : PE X (.Subscript a (.Slice none none (some (.UnaryOp .USub (.Constant (.int 1) n q1) q2)) q3) pos) (tE X.K X.mg W T cal mkc (.rev ea)) := by
  refine (GH.pe_alt (pe_revL ha) (EZ.pe_revT ha)).imp fun σ H Q q => ?_
  obtain ⟨G, Z, F, ρ, A, q⟩ := q
  have e1 : evE T cal mkc (.rev ea) ρ = EV.bnd (opnd ea (evE T cal mkc ea) ρ) fun x ρ1 => EV.lift ((x.val ρ1).bind revF) ρ1 := rfl
  rw [e1] at q
  have fin : ∀ (L : Bool), (∀ o ρ1 u, opnd ea (evE T cal mkc ea) ρ = some (.ok o ρ1) → o.val ρ1 = some u → isTup u = !L) → (if L = true then tRevL X.K (tO X.K X.mg W T cal mkc ea) σ H Q else EZ.tRevT X.K (tO X.K X.mg W T cal mkc ea) σ H Q) := by
    intro L hL
    cases L with
    | true =>
      refine ⟨G, Z, F, ρ, A, Aft.impE q.bnd fun F1 H1 ρ1 o hm A1 e1 q1 x rx => ?_⟩
      obtain ⟨r, hr, q2⟩ := q1.lift
      obtain ⟨u, hu, hr⟩ := Option.bind_eq_some_iff.mp hr
      have ht := hL _ _ _ hm hu
      have rb := OpdR.read A1 rx hu
      cases rb with
      | @lst a1 xs vs s1 r1 =>
        simp only [revF] at hr
        cases hr
        refine ⟨a1, xs, rfl, .inl (.inl s1), fun p hp => ?_⟩
        obtain ⟨A2, hF, hG, hl⟩ := A1.newO (o := .lst xs.reverse) hp
        exact q2 F1 _ A2 (Ex'.refl F1) _ ⟨p, rfl, hG, .lst hF upd_same r1.rev, hl⟩
      | tup s1 r1 => simp [isTup] at ht
      | _ => simp only [revF] at hr; cases hr
    | false =>
      refine ⟨G, Z, F, ρ, A, Aft.impE q.bnd fun F1 H1 ρ1 o hm A1 e1 q1 x rx => ?_⟩
      obtain ⟨r, hr, q2⟩ := q1.lift
      obtain ⟨u, hu, hr⟩ := Option.bind_eq_some_iff.mp hr
      have ht := hL _ _ _ hm hu
      have rb := OpdR.read A1 rx hu
      cases rb with
      | @tup a1 xs vs s1 r1 =>
        simp only [revF] at hr
        cases hr
        refine ⟨a1, xs, rfl, .inl (.inl (A1.sub _ _ s1)), fun p hp => ?_⟩
        obtain ⟨A2, e2⟩ := A1.newF (o := .tup xs.reverse) hp
        exact q2 _ _ A2 e2 _ (.tup upd_same (r1.rev.mono e2))
      | lst s1 r1 => simp [isTup] at ht
      | _ => simp only [revF] at hr; cases hr
  by_cases h : ∃ o ρ1 u, opnd ea (evE T cal mkc ea) ρ = some (.ok o ρ1) ∧ o.val ρ1 = some u ∧ isTup u = true
  · obtain ⟨o, ρ1, u, h1, h2, h3⟩ := h
    exact .inr (fin false fun o' ρ1' u' h1' h2' => by rw [h1] at h1'; cases h1'; rw [h2] at h2'; cases h2'; exact h3)
  · refine .inl (fin true fun o ρ1 u h1 h2 => ?_)
    cases e : isTup u with
    | false => rfl
    | true => exact absurd ⟨o, ρ1, u, h1, h2, e⟩ h
theorem get_inv {u : Val} {vs : List Val} {w : Slot} (h : bmtF u .get vs = some w) : ∃ kvs k d, u = .dct kvs ∧ vs = [k, d] ∧ keyOk k = true ∧ fits kvs k = true ∧ kvs ≠ [] ∧ w = .fz ((look kvs k).getD d) := by
  cases u with
  | dct kvs =>
    rcases vs with _ | ⟨y, _ | ⟨z, _ | ⟨z2, r⟩⟩⟩
    · exact nomatch (show (none : Option Slot) = some w from h)
    · exact nomatch (show (none : Option Slot) = some w from h)
    · have h : (if keyOk y && fits kvs y && !kvs.isEmpty then some (Slot.fz ((look kvs y).getD z)) else none) = some w := h
      split at h
      · rename_i hc
        obtain ⟨h12, h3⟩ := Bool.and_eq_true_iff.mp hc
        obtain ⟨h1, h2⟩ := Bool.and_eq_true_iff.mp h12
        exact ⟨kvs, y, z, rfl, rfl, h1, h2, by simpa using h3, (Option.some.inj h).symm⟩
      · cases h
    · exact nomatch (show (none : Option Slot) = some w from h)
  | _ => exact nomatch (show (none : Option Slot) = some w from h)
theorem sE_get {apos cpos : Pos} (hr : Room kr X.A) (ho : PE X o (tO X.K X.mg W T cal mkc ea)) (he : PE X b (tE X.K X.mg W T cal mkc eb)) (hf : PE X c (tE X.K X.mg W T cal mkc ec)) (nb : ∀ z, eb ≠ .star z) (nc : ∀ z, ec ≠ .star z) (m : M2 X o "get" apos b c cpos) :
    PE X (.Call (.Attribute o "get" apos) [b, c] [] cpos) (tE X.K X.mg W T cal mkc (.bmt ea .get [eb, ec])) := by
  have hu : X.A.units + 1 < cLine := by have := hr.un; omega
  refine (pe_dget2 hu ho (pe_fix he) (pe_fix hf) m).imp fun σ H Q q => ?_
  obtain ⟨G, Z, F, ρ, A, q⟩ := q
  have es : ∀ ρ, evEs T cal mkc [eb, ec] ρ = EV.bnd (EV.bnd (evE T cal mkc eb ρ) fixv) fun u ρ2 => EV.bnd (EV.bnd (evE T cal mkc ec ρ2) fixv) fun w ρ4 => EV.pur [u, w] ρ4 := by
    intro ρ
    have h1 : ∀ ρ, evEs T cal mkc [ec] ρ = EV.bnd (evE T cal mkc ec ρ) fun q ρ1 => EV.bnd (fixv q ρ1) fun v ρ2 => EV.pur [v] ρ2 := by
      intro ρ
      cases ec with
      | star z => exact absurd rfl (nc z)
      | _ => rfl
    have h2 : evEs T cal mkc [eb, ec] ρ = EV.bnd (evE T cal mkc eb ρ) fun q ρ1 => EV.bnd (fixv q ρ1) fun v ρ2 => EV.bnd (evEs T cal mkc [ec] ρ2) fun vs ρ3 => EV.pur (v :: vs) ρ3 := by
      cases eb with
      | star z => exact absurd rfl (nb z)
      | _ => rfl
    rw [h2]
    simp only [h1, bnd_assoc, bnd_pur]
  have e1 : evE T cal mkc (.bmt ea .get [eb, ec]) ρ = EV.bnd (opnd ea (evE T cal mkc ea) ρ) fun x ρ1 => if !((x.val ρ1).map (bmtK .get)).getD false then none else EV.bnd (evEs T cal mkc [eb, ec] ρ1) fun vs ρ2 => EV.lift ((x.val ρ2).bind fun u => bmtF u .get vs) ρ2 := by
    simp only [evE]
  rw [e1] at q
  refine ⟨G, Z, F, ρ, A, q.bnd.imp fun F1 H1 ρ1 o A1 e1 q1 x rx => ?_⟩
  split at q1
  · exact q1.elim
  · rename_i hc
    cases hv : o.val ρ1 with
    | none => rw [hv] at hc; simp at hc
    | some u0 =>
      rw [hv] at hc
      have hk : bmtK .get u0 = true := by simpa using hc
      have rb0 := OpdR.read A1 rx hv
      have isd : ∃ a, x = .ref a ∧ IsD H1 a := by
        cases rb0 with
        | dk r1 _ => exact ⟨_, rfl, .inl ⟨_, r1⟩⟩
        | dt r1 _ => exact ⟨_, rfl, .inr ⟨_, r1⟩⟩
        | _ => simp [bmtK] at hk
      obtain ⟨ad, rfl, hd⟩ := isd
      rw [es] at q1
      simp only [bnd_assoc] at q1
      rw [← bnd_assoc] at q1
      refine ⟨ad, rfl, hd, G, Z, F1, ρ1, A1, q1.bnd.imp fun F2 H2 ρ2 kk A2 e2 q2 y ry => ?_⟩
      rw [← bnd_assoc] at q2
      refine ⟨G, Z, F2, ρ2, A2, q2.bnd.imp fun F3 H3 ρ3 dd A3 e3 q3 z rz => ?_⟩
      simp only [bnd_pur] at q3
      obtain ⟨s, hs, q4⟩ := q3.lift
      obtain ⟨u, hu2, hs⟩ := Option.bind_eq_some_iff.mp hs
      obtain ⟨kvs, k', d', rfl, hvs, hko, hfi, hne, rfl⟩ := get_inv hs
      cases hvs
      have rb := OpdR.read A3 ((rx.mono e2).mono e3) hu2
      have ry := ry.mono e3
      obtain ⟨j, rfl, rfl⟩ := key_repX ry hko
      have q5 := q4.pur A3
      cases rb with
      | dk r1 rk =>
        rcases RepK.look j rk with ⟨h1, h2⟩ | ⟨v, x, h1, h2, h3⟩
        · refine ⟨none, .inl ⟨_, j, r1, rfl, h2.symm⟩, ?_⟩
          rw [h1] at q5
          exact q5 z rz
        · refine ⟨some x, .inl ⟨_, j, r1, rfl, h2.symm⟩, ?_⟩
          rw [h1] at q5
          exact q5 x h3
      | dt r1 rk =>
        exact absurd (rk.fits0 hfi).2 hne
end
end EV
namespace EZ
open PySem PySem.Spec PyProof.Rows L2 RZ
section
variable {prog : Program} {w : World} {A : Around} {z TI TO i1 i2 l1 l2 : Addr} {xs ys : Array Value}
end
section
variable {X : Cx} {e e2 : Expr} {ta : TA} {p p2 p3 pos : Pos}
def tLz (K : PySem.W.Frag) (ta : TA) : TE := fun σ H Q => ta σ H fun vs H1 => ∃ a b xs ys, vs = [.ref a, .ref b] ∧ SqT K H1 a xs ∧ SqT K H1 b ys ∧ min xs.length ys.length ≤ 1000 ∧
  ∀ (as : List Addr) (t : Addr), as.length = min xs.length ys.length → (∀ c ∈ as ++ [t], H1 c = none) → (as ++ [t]).Nodup → Q (.ref t) (updL H1 (prL as xs ys ++ [(t, .lst (as.map V.ref))]))
structure MadeL (X : Cx) (pins : List (Addr × Obj)) (σ : L2.St) (Q : VK) (v : Value) (s' : Shared) (s1 : Shared) (H1 : Hp) (a b : Addr) (xs ys : List V) (h1 : Heap) : Prop where
  v : v = .ref (s1.heap.objs.size + 4)
  s : s' = { s1 with heap := h1 }
  I : Inv X pins σ H1 s1
  x : SqT X.K H1 a xs
  y : SqT X.K H1 b ys
  n : min xs.length ys.length ≤ 1000
  q : ∀ (as : List Addr) (t : Addr), as.length = min xs.length ys.length → (∀ c ∈ as ++ [t], H1 c = none) → (as ++ [t]).Nodup → Q (.ref t) (updL H1 (prL as xs ys ++ [(t, .lst (as.map V.ref))]))
  z : IsZip h1 (s1.heap.objs.size + 4) (s1.heap.objs.size + 2) (s1.heap.objs.size + 3) .none
  p : IsPair h1 (s1.heap.objs.size + 2) (.ref s1.heap.objs.size) (.ref (s1.heap.objs.size + 1))
  o : IsPair h1 (s1.heap.objs.size + 3) .none .none
  i1 : h1.IsTupleIter s1.heap.objs.size a 0
  i2 : h1.IsTupleIter (s1.heap.objs.size + 1) b 0
  l : h1.objs.size = s1.heap.objs.size + 5
  k : ∀ c o, s1.heap.get? c = some o → h1.get? c = some o
end
end EZ
namespace EV
open PySem PySem.Spec PyProof.Rows L2
section
variable {X : Cx} {p pos : Pos} {a : Expr} {te : TE}
inductive PrK (H : Hp) : List Addr → List (Key × V) → Prop
  | nil : PrK H [] []
  | cons {t : Addr} {k : Key} {v : V} {ts : List Addr} {r : List (Key × V)} : H t = some (.tup [kV k, v]) → PrK H ts r → PrK H (t :: ts) ((k, v) :: r)
inductive PrT (H : Hp) : List Addr → List (List Key × V) → Prop
  | nil : PrT H [] []
  | cons {t b : Addr} {k : List Key} {v : V} {ts : List Addr} {r : List (List Key × V)} : H t = some (.tup [.ref b, v]) → H b = some (.tup (k.map kV)) → PrT H ts r → PrT H (t :: ts) ((k, v) :: r)
def tDlK (K : PySem.W.Frag) (te : TE) : TE := fun σ H Q => te σ H fun x H1 => ∃ (L : Addr) (ts : List Addr) (more : List (Key × V)), x = .ref L ∧ SqL K H1 L (ts.map V.ref) ∧ PrK H1 ts more ∧ more.length ≤ 1000 ∧ ∀ d, H1 d = none → Q (.ref d) (upd H1 d (.dK (mergeK [] more)))
def tDlT (K : PySem.W.Frag) (te : TE) : TE := fun σ H Q => te σ H fun x H1 => ∃ (L : Addr) (ts : List Addr) (more : List (List Key × V)), x = .ref L ∧ SqL K H1 L (ts.map V.ref) ∧ PrT H1 ts more ∧ more.length ≤ 1000 ∧ ∀ d, H1 d = none → Q (.ref d) (upd H1 d (.dT (mergeT [] more)))
theorem PrK.length {H : Hp} : ∀ {ts : List Addr} {r : List (Key × V)}, PrK H ts r → ts.length = r.length
  | _, _, .nil => rfl
  | _, _, .cons _ h => by rw [List.length_cons, List.length_cons, h.length]
theorem PrT.length {H : Hp} : ∀ {ts : List Addr} {r : List (List Key × V)}, PrT H ts r → ts.length = r.length
  | _, _, .nil => rfl
  | _, _, .cons _ _ h => by rw [List.length_cons, List.length_cons, h.length]
end
end EV
namespace EZ
open PySem L2
end EZ
namespace EV
open PySem PySem.Spec PyProof.Rows L2
section
variable {X : Cx} {W : WX} {T : Tab} {cal mkc : Cal} {a b c d e o : Expr} {ea eb ec ed ek : Ex} {pos p p2 p3 : Pos} {k kr : Nat}
def allK (v : Val) : Bool := match prsL v with
  | some kvs => kvs.all fun p => keyOk p.1
  | none => true
end
end EV
namespace EV
open PySem PySem.Spec PyProof.Rows L2
def Itit (d : Addr) (o : Obj) (kvs : List (List Key × V)) : It :=
  ⟨fun i H => H d = some (.frz o (.dT kvs)) ∧ i < kvs.length, fun i H x H' => ∃ (T : Addr) (k : List Key) (v : V) (q : Addr), kvs[i]? = some (k, v) ∧ x = .ref T ∧ H q = some (.tup (k.map kV)) ∧ H T = none ∧ H' = upd H T (.tup [.ref q, v]), fun i H => H d = some (.frz o (.dT kvs)) ∧ kvs.length ≤ i⟩
section
variable {X : Cx} {pins : List (Addr × Obj)} {σ : L2.St} {H : Hp} {s : Shared} {d : Addr} {o : Obj}
end
section
variable {P : Program} {w : World} {K : PySem.W.Frag} {d : Addr} {o : Obj} {es : Array DictEntry} {ep : Nat}
end
def iItems2 (td : TE) : TI := fun σ H R => td σ H fun x H1 => ∃ d o, x = .ref d ∧ ((∃ kvs, H1 d = some (.frz o (.dK kvs)) ∧ R (Iti d o kvs) H1) ∨ ∃ kvs, H1 d = some (.frz o (.dT kvs)) ∧ R (Itit d o kvs) H1)
section
variable {X : Cx} {e : Expr} {td : TE} {apos cpos : Pos}
end
section
variable {K : PySem.W.Frag} {mg : Str → Option Value} {F : Hp}
end
section
variable {X : Cx} {W : WX} {T : Tab} {cal mkc : Cal} {a b c e tg : Expr} {ea eb ec : Ex} {pos p : Pos} {kr : Nat}
end
end EV
namespace EV
open PySem PySem.Spec PyProof.Rows L2
section
variable {pr : List Nat} {X : Cx} {W : WX} {T : Tab} {cal mkc : Cal} {a b c e tg : Expr} {ea eb ec ek : Ex} {pos p : Pos} {kr : Nat}
def sAlt (t1 t2 : TS) : TS := fun D σ H => t1 D σ H ∨ t2 D σ H
end
end EV
namespace EV
open PySem PySem.Spec PyProof.Rows L2
theorem pre_one (c d : Nat) (r : List Nat) : TL.pre [c] (d :: r) = (d == c) := by
  show ((d :: r).take 1 == [c]) = _
  rw [List.take_succ_cons, List.take_zero, List.cons_beq_cons]
  simp
theorem splS_ne (c : Nat) : ∀ l, splS c l ≠ []
  | [] => by simp [splS]
  | d :: r => by
    by_cases h : d = c
    · simp [splS, h]
    · simp only [splS, if_neg h]
      cases splS c r <;> simp
theorem spl_S (c : Nat) : ∀ (l acc : List Nat), TL.spl [c] 0 acc l = (match splS c l with
    | w :: ws => (acc ++ w) :: ws
    | [] => [acc])
  | [], acc => by simp [TL.spl, splS]
  | d :: r, acc => by
    by_cases h : d = c
    · subst h
      rw [TL.spl_hit (by rw [pre_one]; simp)]
      have ih := spl_S d r []
      show acc :: TL.spl [d] 0 [] r = _
      rw [ih]
      simp only [splS, if_true, List.append_nil]
      cases hs : splS d r with
      | nil => exact absurd hs (splS_ne d r)
      | cons w ws => simp
    · rw [TL.spl_miss (by rw [pre_one]; simpa using h), spl_S c r]
      simp only [splS, if_neg h]
      cases hs : splS c r with
      | nil => exact absurd hs (splS_ne c r)
      | cons w ws => simp
theorem split_S {l : List Nat} {c : Nat} (hc : c < 128) : Txt.split (toS l) (toS [c]) = (splS c l).map toS := by
  have h1 := TL.split_spl (toS l) (toS [c]) (by simp [TL.tl, toS]) (TL.kind_ok (by simp [toS]; omega))
  have e1 : TL.tl (toS [c]) = [c] := by simp [TL.tl, toS]
  have e2 : TL.tl (toS l) = l := by simp [TL.tl, toS]
  rw [e1, e2, spl_S] at h1
  have h2 : (Txt.split (toS l) (toS [c])).map TL.tl = splS c l := by
    rw [h1]
    cases hs : splS c l with
    | nil => exact absurd hs (splS_ne c l)
    | cons w ws => simp
  rw [← h2, List.map_map]
  have : (toS ∘ TL.tl) = id := by
    funext x
    simp [toS, TL.tl]
  rw [this, List.map_id]
section
variable {X : Cx} {W : WX} {T : Tab} {cal mkc : Cal} {a b c e o : Expr} {ea eb ec ek : Ex} {pos p p2 : Pos} {k kr : Nat}
theorem reps_strT {K : PySem.W.Frag} {mg : Str → Option Value} {F : Hp} : ∀ ls : List (List Nat), Reps K mg F ((ls.map toS).map V.str) (ls.map .str)
  | [] => .nil
  | l :: r => .cons (.str l) (reps_strT r)
def rBmtO (K : PySem.W.Frag) (mg : Str → Option Value) (m : Bm) : V → List V → Hp → VK → Prop := fun x ys H Q => ∃ F u vs r, Ex' F H ∧ RepB K mg F H x u ∧ Reps K mg F ys vs ∧ bmtF u m vs = some r ∧ ∀ z H', NewR K mg F H z H' r → Q z H'
theorem split_inv {u : Val} {vs : List Val} {w : Slot} (h : bmtF u .split vs = some w) : ∃ l c, u = .str l ∧ vs = [.str [c]] ∧ l.length ≤ 100000 ∧ c < 128 ∧ w = .ow (.lst ((splS c l).map .str)) := by
  cases u with
  | str l =>
    rcases vs with _ | ⟨y, _ | ⟨z, r⟩⟩
    · exact nomatch (show (none : Option Slot) = some w from h)
    · cases y with
      | str cs =>
        rcases cs with _ | ⟨c, _ | ⟨d, t⟩⟩
        · exact nomatch (show (none : Option Slot) = some w from h)
        · have h : (if l.length ≤ 100000 ∧ c < 128 then some (Slot.ow (.lst ((splS c l).map .str))) else none) = some w := h
          split at h
          · rename_i hc
            exact ⟨l, c, rfl, rfl, hc.1, hc.2, (Option.some.inj h).symm⟩
          · cases h
        · exact nomatch (show (none : Option Slot) = some w from h)
      | _ => exact nomatch (show (none : Option Slot) = some w from h)
    · cases y with
      | str cs =>
        rcases cs with _ | ⟨c, _ | ⟨d, t⟩⟩ <;> exact nomatch (show (none : Option Slot) = some w from h)
      | _ => exact nomatch (show (none : Option Slot) = some w from h)
  | _ => exact nomatch (show (none : Option Slot) = some w from h)
theorem mv_split : MtR X "str.split" (rBmtO X.K X.mg .split) := by
  intro pins s σ H x xs v us Q I rx rs h
  obtain ⟨F, u, vs, w, e, ru, rv, hb, k⟩ := h
  obtain ⟨l, c, rfl, rfl, h1, h2, rfl⟩ := split_inv hb
  cases ru
  cases rv with
  | cons ry rt =>
    cases rt
    cases ry
    refine mt_split pins s σ H _ _ v us Q I rx rs ⟨toS l, toS [c], rfl, rfl, by simp [toS, Str.length], by simp [toS, Str.length, sizeLine_eq]; omega, fun p hp => ?_⟩
    rw [split_S h2]
    exact k _ _ (newL hp (reps_strT _))
theorem bm_redO {TN : String} {m : Bm} {xs : List Ex} {σ : L2.St} {H : Hp} {Q : VK} (hT : ∀ F H x u, Ex' F H → RepB X.K X.mg F H x u → bmtK m u = true → tyV X.K TN x H) (h : tE X.K X.mg W T cal mkc (.bmt ea m xs) σ H Q) : tBM X.K TN (rBmtO X.K X.mg m) (tO X.K X.mg W T cal mkc ea) (tAs X.K X.mg W T cal mkc xs) σ H Q := by
  obtain ⟨G, Z, F, ρ, A, q⟩ := h
  have e1 : evE T cal mkc (.bmt ea m xs) ρ = EV.bnd (opnd ea (evE T cal mkc ea) ρ) fun x ρ1 => if !((x.val ρ1).map (bmtK m)).getD false then none else EV.bnd (evEs T cal mkc xs ρ1) fun vs ρ2 => EV.lift ((x.val ρ2).bind fun u => bmtF u m vs) ρ2 := by
    simp only [evE]
  rw [e1] at q
  refine ⟨G, Z, F, ρ, A, q.bnd.imp fun F1 H1 ρ1 o A1 e1 q1 x rx => ?_⟩
  split at q1
  · exact q1.elim
  · rename_i hc
    cases hv : o.val ρ1 with
    | none => rw [hv] at hc; simp at hc
    | some u0 =>
      rw [hv] at hc
      have hk : bmtK m u0 = true := by simpa using hc
      refine ⟨hT F1 H1 x u0 A1.sub (OpdR.read A1 rx hv) hk, G, Z, F1, ρ1, A1, q1.bnd.imp fun F2 H2 ρ2 vs A2 e2 q2 ys rys => ?_⟩
      obtain ⟨s, hs, q3⟩ := q2.lift
      obtain ⟨u, hu, hs⟩ := Option.bind_eq_some_iff.mp hs
      exact ⟨F2, u, vs, s, A2.sub, OpdR.read A2 (rx.mono e2) hu, rys, hs, fun z H' n => A2.new n fun F' H'' A' e' z rz => q3 F' H'' A' e' z rz⟩
theorem ty_strS {F H : Hp} {x : V} {u : Val} (r : RepB X.K X.mg F H x u) (h : bmtK .split u = true) : tyV X.K "str" x H := by
  cases r with
  | str l => rfl
  | _ => cases h
theorem sE_split {es : List Expr} {xs : List Ex} {apos cpos : Pos} (ho : PE X o (tO X.K X.mg W T cal mkc ea)) (ha : PA X (e :: es) (tAs X.K X.mg W T cal mkc xs)) (hbase : attributeBase o "split" X.env (eval o X.env) = eval o X.env := by rfl)
    (hfew : ((backTo cpos (starEach (e :: es) X.env)).all (fun x => !x.1) && (backToKw cpos (keywordEach [] X.env)).all (fun x => x.1.isSome) && decide ((e :: es).length + ([] : List Keyword).length + (if ([] : List Keyword).isEmpty then 0 else 1) < 30)) = true := by rfl)
    (hline : (apos.endLine == cpos.line) = true := by rfl) (hs : starEach (e :: es) X.env = (false, eval e X.env) :: starEach es X.env := by rfl) (hplain : (backTo cpos (starEach es X.env)).any (·.1) = false := by rfl) :
    PE X (.Call (.Attribute o "split" apos) (e :: es) [] cpos) (tE X.K X.mg W T cal mkc (.bmt ea .split xs)) :=
  (pe_bm PySem.F.plainAttrs_str PySem.F.slot_str_split PySem.F.type_str_split mv_split ho ha hbase hfew hline hs hplain).imp fun _ _ _ q => bm_redO (fun _ _ _ _ _ r h => ty_strS r h) q
theorem Room.in2 {k : Nat} {A : Around} (r : Room (k + 1) A) : Room k A.in1.in1 :=
  ⟨r.hd, by have := r.dp; show A.depth + 3 * k + 5 < _; omega, by have := r.un; show A.units + 1 + 1 + 16 * k + 200 < _; omega⟩
theorem run_fnE2 {pins : List (Addr × Obj)} {σ : L2.St} {H : Hp} {s : Shared} {Q : VK} {us : List Value} {vs : List V} {args : Args} {f : Addr} {fd : FuncData} {ps : List Str} {sp : Sp} (F : FnE X.prog X.w X.K X.mg X.base k f fd ps sp) (gd : X.A.guards = some []) (hr : Room (k + 1) X.A) (tk : Takes X W)
    (hb : us.length = ps.length → BindsTo s fd args (ps.zip us)) (I : Inv X pins σ H s) (r : Vals vs us) (h : sp vs H Q fun c d H' => W c d σ H') : wpAny (model X.prog X.w) X.A.in1.in1 (call (.ref f) args.pos args.kw) (EP X pins σ Q) X.xe s := by
  have hl : us.length = ps.length := by rw [← r.length]; exact F.ln _ _ _ _ h
  have e0 : Env0 X.prog X.w X.K X.mg X.base X.A.in1.in1 X.stack s H := by
    have e := I.env0
    exact ⟨e.frames, e.mod, e.bs, e.bsz, e.funs, e.frf, e.hok, e.bare⟩
  refine wpAny_call (codeAny_mono (F.go X.A.in1.in1 X.stack s H args us vs Q _ gd (Room.in2 hr) e0 (hb hl) r h) fun o s' hq => ?_)
  cases o with
  | error e => exact tk e s' (XE.of_call I (fun _ _ _ h => h) hq)
  | ok fl => cases fl with
    | ret u => exact I.after hq
    | next => exact False.elim hq
    | brk => exact False.elim hq
    | cont => exact False.elim hq
theorem Aft.quiet {α β : Type} {G Z F : Hp} {σ : L2.St} {m : Res α} {kk : α → Ro → Res β} {C : Hp → Hp → Ro → β → Prop} (h : Aft X.K X.mg W G Z F σ (EV.bnd (EV.quiet m) kk) C) : Aft X.K X.mg W0 G Z F σ m fun F' _ ρ' a => Aft X.K X.mg W G Z F' σ (kk a ρ') C := by
  match m, h with
  | some (.ok a ρ'), h =>
    intro F' H' A q
    have h : Aft X.K X.mg W G Z F σ (kk a ρ') C := h
    exact h.up q
  | some (.ex e ρ'), h => exact h.elim
  | none, h => exact h
theorem sp_one {d : Def} {f cn m : String} {ne : Bool} {n : Nat} {σ : L2.St} {H : Hp} {Q : VK} (hd : T.fn f = some d) (hn : ∀ ss o, mkc f ss = some o → ss.length = n) (h : tE X.K X.mg W T cal mkc (.sp f cn m ne [ea]) σ H Q) :
    tCons (tArg X W T cal mkc (d.io.getD 0 false) ea) tNil σ H fun vs H1 => (∃ a dx fs, vs = [.ref a] ∧ H1 a = some (.ins (GH.clsA X.mg (Str.ofString cn)) dx fs)) ∧
      spF X.K X.mg mkc n f vs H1 (fun v H' => (∃ l, m = "__str__" ∧ v = .str (toS l) ∧ Q v H') ∨ ∃ b, m ≠ "__str__" ∧ v = .bl b ∧ Q (.bl (b != ne)) H') fun c d H' => W0 c d σ H' := by
  obtain ⟨G, Z, F0, ρ, A, q⟩ := h
  have e2 : ∀ (i : List Bool) (ρ : Ro), evAs T cal mkc i [] ρ = EV.pur [] ρ := fun i ρ => by cases i <;> rfl
  have e1 : evE T cal mkc (.sp f cn m ne [ea]) ρ = EV.bnd (argOf (d.io.getD 0 false) ea (evE T cal mkc ea) ρ) fun r ρ1 => (match spAs ρ1 cn m [r] with
      | some bs => EV.bnd (EV.quiet (callF mkc d.ps f [] bs ρ1)) (spEnd m ne)
      | none => none) := by
    simp only [evE, hd]
    simp [evAs, e2, bnd_assoc]
    all_goals rfl
  rw [e1] at q
  refine ⟨G, Z, F0, ρ, A, q.bnd.imp fun F1 H1 ρ1 r A1 e1 q1 x rx => ?_⟩
  simp only [spAs] at q1
  by_cases hc : r.isObj ρ1 cn m = true
  · rw [if_pos hc] at q1
    obtain ⟨a, dx, fs, rfl, h1, _⟩ := isObj_at A1 rx hc
    refine ⟨⟨a, dx, fs, rfl, h1⟩, call_at A1 (.cons rx .nil) (C := fun F2 H2 ρ2 r => Aft X.K X.mg W G Z F2 σ (spEnd m ne r ρ2) (fun F' H' ρ' r => ∀ x, ResR X.K X.mg G F' σ H' ρ' x r → Q x H') ∧ Abs X.K X.mg G Z F2 σ H2 ρ2) (fun F2 H2 ρ2 r hh x rx' => ?_) hn ((Aft.quiet q1).imp fun F2 H2 ρ2 r A2 e2 q2 => ⟨q2, A2⟩)⟩
    obtain ⟨q2, A2⟩ := hh
    unfold spEnd at q2
    split at q2
    · rename_i l
      split at q2
      · rename_i hm
        have rx' : Rep X.K X.mg F2 x (.str l) := rx'
        cases rx'
        exact .inl ⟨l, hm, rfl, q2.pur A2 _ (.str l)⟩
      · exact q2.elim
    · rename_i b
      split at q2
      · exact q2.elim
      · rename_i hm
        have rx' : Rep X.K X.mg F2 x (.bl b) := rx'
        cases rx'
        exact .inr ⟨b, hm, rfl, q2.pur A2 _ (.bl _)⟩
    · exact q2.elim
  · rw [if_neg hc] at q1
    exact q1.elim
theorem sE_so {d : Def} {fa : Addr} {fd : FuncData} {pS : List Str} {n : Nat} {cn f : String} (F : FnE X.prog X.w X.K X.mg X.base k fa fd pS (spF X.K X.mg mkc n f)) (gd : X.A.guards = some []) (hr : Room (k + 1) X.A)
    (hb : ∀ (s : Shared) (us : List Value), us.length = pS.length → BindsTo s fd ⟨us, []⟩ (pS.zip us)) (hme : Meth X.K (GH.clsA X.mg (Str.ofString cn)) "__str__" fa) (hd : T.fn f = some d) (hn : ∀ ss o, mkc f ss = some o → ss.length = n)
    (hg : Gl X "str") (hm : X.mg "str" = none) (ha : PE X e (tArg X W T cal mkc (d.io.getD 0 false) ea))
    (he : starEach [e] X.env = (false, eval e X.env) :: starEach [] X.env) (hpl : (backTo pos (starEach [] X.env)).any (·.1) = false) :
    PE X (.Call (.Name "str" p) [e] [] pos) (tE X.K X.mg W T cal mkc (.sp f cn "__str__" false [ea])) := by
  refine ⟨fun pins s σ H Q I h => ?_⟩
  refine wpAny_Call_Name_kw (ld_blt I hg hm PyProof.Rows.boot_str ?_ (by decide) (by decide))
  refine PyProof.Rows.callWith_type1 (thn ((pa_cons ha pa_nil he).run pos pins s σ H _ I (sp_one hd hn h)) fun us s1 ⟨vs, H1, I1, r, ⟨a, dx, fs, ev, ea⟩, q⟩ => ?_) he hpl
  subst ev
  obtain ⟨u, rfl, ru⟩ := vals1 r
  obtain rfl : u = Value.ref a := ru
  obtain ⟨mA, J, _⟩ := ins_get I1.hok ea
  obtain ⟨od, J, _⟩ := J.look
  refine PySem.W.kso_call (Room.units0 (Room.in2 hr)) I1.kIn J hme.at_ hme.fn ?_
  refine wpAny_mono (run_fnE2 (us := [.ref a]) (vs := [.ref a]) (args := ⟨[.ref a], []⟩) F gd hr takesW0 (hb s1 [.ref a]) I1 (.cons rfl .nil) q) (fun v s2 hv => ?_) fun _ _ x => x
  obtain ⟨z, H2, I2, rz, hz⟩ := hv
  rcases hz with ⟨l, _, rfl, hq⟩ | ⟨b, hne, _, _⟩
  · obtain ⟨t, rfl⟩ := rz
    exact ⟨.str (toS l), H2, I2, ⟨t, rfl⟩, hq⟩
  · exact absurd rfl hne
end
end EV
namespace EV
open PySem PySem.Spec PyProof.Rows L2
section
variable {prog : Program} {w : World} {A : Around} {E : Value → Shared → Prop} {s : Shared}
theorem star_list {l : Addr} {items : Array Value} {Q : List Value → Shared → Prop} (hl : s.heap.IsList l items) (hh : A.handled = none) (h1 : 1 ≤ items.size) (hz : items.size ≤ sizeLine)
    (h : ∀ (h' : Heap) (tk : Nat), (∀ b o, s.heap.get? b = some o → h'.get? b = some o) → Q (items.toList.take 1 ++ [.ref h'.objs.size]) { s with heap := h'.push { cls := .type "list", data := .seq (items.toList.drop 1).toArray }, toks := tk }) : wpAny (model prog w) A (unpackItems (.ref l) 2 (some 1)) Q E s := by
  have hlt : l ≠ s.heap.objs.size := by obtain ⟨o, ho, _⟩ := hl; exact Nat.ne_of_lt (Heap.lt_size ho)
  unfold unpackItems
  refine wpAny_bind ?_
  unfold notIterableAtAll
  refine wpAny_bind (wpAny_specialOf hl.typeIs PySem.slot_list_iter.lookup ?_)
  refine wpAny_pure ?_
  simp only [Bool.false_eq_true, if_false]
  refine wpAny_bind (wpAny_holding (wpAny_pyIter_list hl ?_))
  have hp := hl.push (o := { cls := .type "list_iterator", data := .fields #[.ref l, .int 0 0] })
  refine wpAny_bind (wpAny_holding (EU.draw_list hlt 1 0 _ _ ⟨_, Heap.get?_push_size _ rfl, rfl, rfl⟩ hp (by omega) fun h₁ hit₁ hs₁ => ?_))
  have hl₁ : h₁.IsList l items := hp.extBut hs₁.extBut hlt
  rw [Nat.zero_add] at hit₁
  have hit₁' := hit₁
  obtain ⟨oi, hoi, _⟩ := hit₁'
  have hl₁' := hl₁
  obtain ⟨ol, hol, _⟩ := hl₁'
  rw [List.drop_zero]
  have hfl : (items.toList.take 1).length = 1 := by rw [List.length_take, Array.length_toList]; omega
  rw [if_neg (show ¬ ((items.toList.take 1).length < 1) by rw [hfl]; omega)]
  refine wpAny_bind (wpAny_holding (PySem.W.kun_collect (s := { s with heap := h₁ }) (T := "list_iterator") (.inr (.inr (.inl rfl))) (Walks.list (A := A.in1) hh s.heap.objs.size l hlt items) (fun j u st => st.1.typeIs) (k := 1) (by omega) ⟨hit₁, hl₁⟩ (Heap.lt_size hoi) (Heap.lt_size hol) (fun h₂ tk hk => ?_) hz))
  have hrl : (items.toList.drop 1).length = items.size - 1 := by rw [List.length_drop, Array.length_toList]
  show wpAny _ _ (if (items.toList.drop 1).length < 2 - 1 - 1 then _ else _) _ _ _
  rw [if_neg (by omega)]
  show wpAny _ _ (newList ((items.toList.drop 1).take ((items.toList.drop 1).length - (2 - 1 - 1))) >>= fun d => pure (items.toList.take 1 ++ [d] ++ (items.toList.drop 1).drop ((items.toList.drop 1).length - (2 - 1 - 1)))) _ _ _
  have e0 : (items.toList.drop 1).length - (2 - 1 - 1) = (items.toList.drop 1).length := by omega
  rw [e0, List.take_length, List.drop_length]
  have he : ∀ b o, s.heap.get? b = some o → h₂.get? b = some o := fun b o e => by
    have hb : b ≠ s.heap.objs.size := Nat.ne_of_lt (Heap.lt_size e)
    exact hk b o hb (hs₁.extBut b o hb (Heap.get?_push_of_some _ e))
  refine wpAny_bind (wpAny_newList (wpAny_pure ?_) (by rw [hrl]; omega))
  rw [List.append_nil]
  exact h h₂ tk he
end
section
variable {X : Cx}
def gHd (K : PySem.W.Frag) (i j : Nat) : TG := fun v σ H Q => ∃ a x xs, v = .ref a ∧ SqL K H a (x :: xs) ∧ ∀ p, H p = none → Q ((σ.set i (some x)).set j (some (.ref p))) (upd H p (.lst xs))
theorem pg_hd {i j : Nat} {x y : Str} {px py ps pos : Pos} {kt : Nat} (hc : X.calm = true) (hN : X.N.Nodup) (hi : X.N[i]? = some x) (hj : X.N[j]? = some y) (hx : Loc X.env.scope x) (hy : Loc X.env.scope y)
    (hf : X.fn x = true ∨ X.env.scope.names.lookup x = some .local := by first | exact .inl rfl | exact .inr rfl | assumption) (hg : X.fn y = true ∨ X.env.scope.names.lookup y = some .local := by first | exact .inl rfl | exact .inr rfl | assumption)
    (hn : (assignEach [.Name x px, .Starred (.Name y py) ps] X.env).length = 2 := by rfl) (hst : (assignEach [.Name x px, .Starred (.Name y py) ps] X.env).findIdx? (·.1) = some 1 := by rfl)
    (hm : (assignEach [.Name x px, .Starred (.Name y py) ps] X.env).map (·.2) = [assign (.Name x px) X.env, assign (.Name y py) X.env] := by rfl) :
    PG X (.Tuple [.Name x px, .Starred (.Name y py) ps] kt pos) (gHd X.K i j) := by
  refine ⟨fun pins s σ H v u Q I r hw => ?_⟩
  obtain ⟨a, z, zs, rfl, hq, hw⟩ := hw
  cases r
  obtain ⟨its, rv, p, hz⟩ := I.list hq
  cases rv with
  | @cons _ u _ us ru rus =>
    rw [assign_Tuple]
    refine wpAny_bind (wpAny_standAt ?_)
    unfold unpack
    rw [hn, hst]
    refine wpAny_bind (wpAny_holding (star_list p.isList (I.ok.hd hc) (by simp) (by simp [← rus.length] at hz ⊢; omega) fun h' tk hk => ?_))
    have e1 : ((u :: us).toArray.toList.take 1 ++ [Value.ref h'.objs.size]) = [u, .ref h'.objs.size] := by simp
    have e2 : (u :: us).toArray.toList.drop 1 = us := by simp
    rw [e1, e2]
    have I0 : Inv X pins σ H { s with heap := h', toks := tk } := I.kept hk
    have I1 : Inv X pins σ (upd H h'.objs.size (.lst zs)) { s with heap := h'.push { cls := .type "list", data := .seq us.toArray }, toks := tk } :=
      I0.laid (t' := tk) (fun b u e => Heap.get?_push_of_some _ e) (Nat.le_refl _) (show ObjOk X.prog X.w _ _ _ (.lst zs) from ⟨by simp at hz; omega, us, 0, rus, Heap.get?_push_size _ rfl⟩)
    have hh := hw h'.objs.size (I0.hok.fresh (Nat.le_refl _))
    rw [hm]
    have hP : PGs X [.Name x px, .Name y py] (gNs [i, j]) := sN_cons hN hi hx (sN_cons hN hj hy sN_nil hg) hf
    exact hP.run pins _ σ _ [z, .ref h'.objs.size] [u, .ref h'.objs.size] Q I1 (.cons ru (.cons rfl .nil)) (gNs_of rfl hh)
end
section
variable {pr : List Nat} {X : Cx} {W : WX} {T : Tab} {cal mkc : Cal} {a b c e o : Expr} {ea eb ec ek : Ex} {pos p p2 : Pos} {k kr : Nat}
theorem sS_hd {i j : Nat} {x y : Str} {px py ps pt : Pos} {kt : Nat} (hp : i ∉ pr ∧ j ∉ pr) (hc : X.calm = true) (he : PE X e (tE X.K X.mg W T cal mkc ea)) (hN : X.N.Nodup) (hi : X.N[i]? = some x) (hj : X.N[j]? = some y) (hx : Loc X.env.scope x) (hy : Loc X.env.scope y)
    (hf : X.fn x = true ∨ X.env.scope.names.lookup x = some .local := by first | exact .inl rfl | exact .inr rfl | assumption) (hg : X.fn y = true ∨ X.env.scope.names.lookup y = some .local := by first | exact .inl rfl | exact .inr rfl | assumption)
    (hn : (assignEach [.Name x px, .Starred (.Name y py) ps] X.env).length = 2 := by rfl) (hst : (assignEach [.Name x px, .Starred (.Name y py) ps] X.env).findIdx? (·.1) = some 1 := by rfl)
    (hm : (assignEach [.Name x px, .Starred (.Name y py) ps] X.env).map (·.2) = [assign (.Name x px) X.env, assign (.Name y py) X.env] := by rfl)
    (hs : swapsWithSole [.Tuple [.Name x px, .Starred (.Name y py) ps] kt pt] e pos.line X.env = pure false := by rfl) (hw : swappedStores [.Tuple [.Name x px, .Starred (.Name y py) ps] kt pt] e X.env = pure none := by rfl)
    (h1 : (assignEach [.Tuple [.Name x px, .Starred (.Name y py) ps] kt pt] X.env).map (·.2) = [assign (.Tuple [.Name x px, .Starred (.Name y py) ps] kt pt) X.env] := by rfl) :
    PS X (.Assign [.Tuple [.Name x px, .Starred (.Name y py) ps] kt pt] e pos) (tS X W T cal mkc pr (.hd i j ea)) := by
  refine (ps_asg (pe_fix he) (pg_hd hc hN hi hj hx hy hf hg hn hst hm) hs hw h1).imp fun D σ H q => ?_
  obtain ⟨G, Z, F, ρ, A, q⟩ := q
  have e1 : evS T cal mkc (.hd i j ea) ρ = EV.bnd (EV.bnd (evE T cal mkc ea ρ) fixv) fun v ρ2 => match v with
    | .lst (x :: xs) => if i < ρ2.length ∧ j < ρ2.length ∧ i ≠ j then EV.pur .nx ((ρ2.set i (.fz x)).set j (.ow (.lst xs))) else none
    | _ => none := by
    (rw [bnd_assoc]; simp only [evS]) <;> rfl
  rw [e1] at q
  refine ⟨G, Z, F, ρ, A, (AftS.bnd q).imp fun F1 H1 ρ1 v A1 e1 q1 z rz => ?_⟩
  split at q1
  · rename_i y ys
    split at q1
    · rename_i hij
      have rz : Rep X.K X.mg F1 z (.lst (y :: ys)) := rz
      cases rz with
      | @lst a xs _ hF rs =>
        cases rs with
        | @cons u us _ _ ru rus =>
          refine ⟨a, u, us, rfl, .inl (.inl (A1.sub _ _ hF)), fun q hq => ?_⟩
          obtain ⟨A2, hF2, hG, hl⟩ := A1.newO (o := .lst us) hq
          have e2 : setAll [i, j] [.fz y, .ow (.lst ys)] ρ1 = some ((ρ1.set i (.fz y)).set j (.ow (.lst ys))) := by
            simp [setAll, hij.1, hij.2.1]
          have A3 := abs_setAll (is := [i, j]) (xs := [u, .ref q]) A2 (.cons (show ResR X.K X.mg G F1 σ _ ρ1 u (.fz y) from ru) (.cons (show ResR X.K X.mg G F1 σ _ ρ1 (.ref q) (.ow (.lst ys)) from ⟨q, rfl, hG, .lst hF2 upd_same rus, hl⟩) .nil)) (by cases u <;> simp [ioOf]) e2
          exact AftS.nxK q1 A3 (kp_setV (is := [i, j]) (xs := [u, .ref q]) fun n hn => by
            rcases List.mem_cons.mp hn with rfl | hn
            · exact hp.1
            · rw [List.mem_singleton.mp hn]; exact hp.2)
    · exact q1.elim
  · exact q1.elim
theorem sE_mkv {d : Def} {c nm : String} {i : Nat} {ps : List Str} {y : Str} {es : List Expr} {xs : List Ex} (O : OkNE X.prog X.w X.K X.mg X.base k c nm ps mkc) (hf : nm = c ++ ".__init__") (gd : X.A.guards = some []) (hr : Room (k + 1) X.A) (tk : Takes X W) (hd : T.fn nm = some d) (hv : PE X (.Name y p) (tVar i)) (ha : PA X (e :: es) (tAs X.K X.mg W T cal mkc xs))
    (he : starEach (e :: es) X.env = (false, eval e X.env) :: starEach es X.env := by rfl) (hpl : (backTo pos (starEach es X.env)).any (·.1) = false := by rfl) : PE X (.Call (.Name y p) (e :: es) [] pos) (tE X.K X.mg W T cal mkc (.mkv i c xs)) := by
  obtain ⟨f, fd, F, hb, hm, M, _⟩ := O.ex
  subst hf
  refine ⟨fun pins s σ H Q I h => ?_⟩
  obtain ⟨G, Z, F0, ρ, A, q⟩ := h
  have e1 : evE T cal mkc (.mkv i c xs) ρ = if isCls c (ρ[i]?) then EV.bnd (evEs T cal mkc xs ρ) fun vs ρ1 => mkEnd (mkc (c ++ ".__init__") (.ow (.obj c []) :: vs.map .fz)) ρ1 else none := by
    simp only [evE, hd]
  rw [e1] at q
  by_cases hc : isCls c (ρ[i]?) = true
  · rw [if_pos hc] at q
    have hs : ρ[i]? = some (.fz (.cls c)) := by
      unfold isCls at hc
      split at hc
      · rename_i c' e
        rw [e, beq_iff_eq.mp hc]
      · cases hc
    obtain ⟨x, h1, h2⟩ := A.fz i _ hs
    cases h2
    refine wpAny_Call_Name_kw (thn (hv.run pins s σ H (fun v H1 => v = .ref (GH.clsA X.mg (Str.ofString c)) ∧ H1 = H) I ⟨_, h1, rfl, rfl⟩) fun u s0 ⟨v, H0, I0, rv, ev, eH⟩ => ?_)
    subst ev eH
    obtain rfl : u = Value.ref (GH.clsA X.mg (Str.ofString c)) := rv
    refine PySem.W.callWith_K (h₀ := X.base) I0.ok.mod.kin M.kp (thn (ha.run pos pins s0 σ H0 (fun vs H1 => ∀ x dx, H1 x = none → H1 dx = none → dx ≠ x → spF X.K X.mg mkc ps.length (c ++ ".__init__") (.ref x :: vs) (upd (upd H1 dx (.own x)) x (.ins (GH.clsA X.mg (Str.ofString c)) dx [])) (fun v H2 => v = .non ∧ Q (.ref x) H2) fun c d H' => W c d σ H') I0
      ⟨G, Z, F0, ρ, A, q.bnd.imp fun F1 H1 ρ1 vs A1 e1 q1 ys rys x dx hx hdx hne => make_at A1 rys (fun _ _ _ _ c => c) O.ln hx hdx hne q1⟩) fun us s1 ⟨vs, H1, I1, r, q⟩ => ⟨I1.kIn, ?_⟩) he hpl
    exact run_makeE M F gd hr tk (fun s x hl => hb s (x :: us) hl) I1 r q
  · rw [if_neg hc] at q
    exact q.elim
end
structure OkCE (P : Program) (w : World) (K : PySem.W.Frag) (mg : Str → Option Value) (base : Heap) (k : Nat) (c m nm : String) (st : Stmt) (qual : Str) (ps : List Str) (cal : Cal) : Prop where
  ex : ∃ f p mc, ∃ (oc : Value) (od : Option Addr) (kV doc pm : Value) (an : Option Addr) (cdv ct : Value) (osl : Array (Option Value)), FnE P w K mg base k f (PySem.W.fnOf (Str.ofString m) qual (defArgs st) (defBody st) (defScope st) .none kV doc pm an cdv ct) ps (spF K mg cal ps.length nm) ∧
    mg (Str.ofString c) = some (.ref (GH.clsA mg (Str.ofString c))) ∧ ClX.CRead K (GH.clsA mg (Str.ofString c)) mc ∧ ClX.CMet K (GH.clsA mg (Str.ofString c)) mc (Str.ofString m) p f
  ln : ∀ ss o, cal nm ss = some o → ss.length = ps.length
section
variable {P : Program} {w : World} {K : PySem.W.Frag} {mg : Str → Option Value} {base : Heap} {k : Nat} {st : Stmt} {N ps : List Str} {T : Tab} {cal mkc : Cal} {nm : String} {d : Def}
theorem okCE_def {c m : String} {qual : Str} (D : GH.CMetAt K mg (Str.ofString c) (Str.ofString m) qual st) (S : FnScope N ps (defScope st)) (hd : T.fn nm = some d) (hx : T.ext nm = none) (hps : d.ps.length = ps.length) (hN : d.n = N.length)
    (body : ∀ (f : Addr) (cdv : Value) (A : Around) (outer : List Env) (s : Shared) (H : Hp) (E : XK), A.guards = some [] → Room k (A.deeper (envOfC qual (defScope st) s.heap.objs.size f cdv)) →
      PSs (cxOf (L2.CX P w) P w K mg base N qual (defScope st) f cdv A outer s H E) (defBody st) (tSs (cxOf (L2.CX P w) P w K mg base N qual (defScope st) f cdv A outer s H E) (fun c d _ H' => E c d H') T cal mkc (ioIx d.io) d.body)) :
    OkCE P w K mg base (k + 1) c m nm st qual ps (evB T cal mkc) := by
  obtain ⟨f, p, fd, mc, hg, cr, cm, F1⟩ := D.ex
  have F2 := fnE_of (T := T) (cal := cal) (mkc := mkc) (P := P) (w := w) (base := base) (mg := mg) (k := k) F1 S hd hx hps hN (fun cdv _ => body f cdv)
  obtain ⟨oc, od, kV, doc, pm, an, cdv, ct, osl, rfl, lk, hcd⟩ := F1.ex
  exact ⟨⟨f, p, mc, oc, od, kV, doc, pm, an, cdv, ct, osl, F2, hg, cr, cm⟩, fun ss o h => by rw [evB_len hd hx ss o h, hps]⟩
theorem okCE_none {c m : String} {qual : Str} (D : GH.CMetAt K mg (Str.ofString c) (Str.ofString m) qual st) : OkCE P w K mg base k c m nm st qual ps none2 := by
  obtain ⟨f, p, fd, mc, hg, cr, cm, F1⟩ := D.ex
  obtain ⟨oc, od, kV, doc, pm, an, cdv, ct, osl, rfl, lk, hcd⟩ := F1.ex
  exact ⟨⟨f, p, mc, oc, od, kV, doc, pm, an, cdv, ct, osl, fnE_none, hg, cr, cm⟩, fun ss o h => by cases h⟩
end
section
variable {X : Cx} {W : WX} {T : Tab} {cal mkc : Cal} {a b c e o : Expr} {ea eb ec ek : Ex} {pos p p2 : Pos} {k kr : Nat}
theorem run_cmE {pins : List (Addr × Obj)} {σ : L2.St} {H : Hp} {s : Shared} {Q : VK} {us ws : List Value} {vs : List V} {kw : List (Str × Value)} {q f C : Addr} {fd : FuncData} {ps : List Str} {sp : Sp} (F : FnE X.prog X.w X.K X.mg X.base k f fd ps sp) (gd : X.A.guards = some []) (hr : Room k X.A) (tk : Takes X W)
    (hb : (Value.ref C :: ws).length = ps.length → BindsTo s fd ⟨.ref C :: us, kw⟩ (ps.zip (.ref C :: ws))) (I : Inv X ((q, PySem.W.methodObj (.ref f) (.ref C)) :: pins) σ H s) (r : Vals vs ws) (h : sp (.ref C :: vs) H Q fun c d H' => W c d σ H') :
    wpAny (model X.prog X.w) X.A (call (.ref q) us kw) (EP X pins σ Q) X.xe s := by
  have r2 : Vals (V.ref C :: vs) (Value.ref C :: ws) := .cons rfl r
  have hl : (Value.ref C :: ws).length = ps.length := by rw [← r2.length]; exact F.ln _ _ _ _ h
  refine wpAny_call (PySem.W.method_call (ClX.pin_at I) (codeAny_mono (F.go X.A X.stack s H ⟨.ref C :: us, kw⟩ (.ref C :: ws) (.ref C :: vs) Q _ gd hr I.env0 (hb hl) r2 h) fun o s' hq => ?_))
  cases o with
  | error e => exact tk e s' (XE.of_call I (fun _ _ _ h => h) hq)
  | ok fl => cases fl with
    | ret u => exact ClX.unpinE (I.after hq)
    | next => exact False.elim hq
    | brk => exact False.elim hq
    | cont => exact False.elim hq
theorem kw_atC {G Z F : Hp} {σ : L2.St} {H : Hp} {ρ : Ro} {xs : List V} {vs : List Val} {n : Nat} {f c : String} {Q : VK} {C : Hp → Hp → Ro → Slot → Prop} (A : Abs X.K X.mg G Z F σ H ρ) (P : Reps X.K X.mg F xs vs) (hC : ∀ F' H' ρ' r, C F' H' ρ' r → ∀ x, ResR X.K X.mg G F' σ H' ρ' x r → Q x H') (hn : ∀ ss o, cal f ss = some o → ss.length = n)
    (h : Aft X.K X.mg W G Z F σ (kwEnd (cal f (.fz (.cls c) :: vs.map .fz)) ρ) C) : spF X.K X.mg cal n f (.ref (GH.clsA X.mg (Str.ofString c)) :: xs) H Q fun c d H' => W c d σ H' :=
  kw_at (vs := .cls c :: vs) A (.cons (.cls c) P) hC hn h
theorem sE_cm {d : Def} {st : Stmt} {qual : Str} {m nm cn : String} {ps : List Str} {apos : Pos} {es : List Expr} {xs : List Ex} {pl : Sem Bool} (O : OkCE X.prog X.w X.K X.mg X.base k cn m nm st qual ps cal) (gd : X.A.guards = some []) (hr : Room k X.A) (tk : Takes X W) (hd : T.fn nm = some d)
    (hb : ∀ (kV doc pm : Value) (an : Option Addr) (cdv ct : Value) (us : List Value), us.length = ps.length → bindArgs (PySem.W.fnOf (Str.ofString m) qual (defArgs st) (defBody st) (defScope st) .none kV doc pm an cdv ct) ⟨us, []⟩ = pure (ps.zip us))
    (ha : PA X (e :: es) (tAs X.K X.mg W T cal mkc xs)) (hg : Gl X (Str.ofString cn) := by rfl) (hdb : (Str.ofString cn == ("__debug__" : Str)) = false := by decide +kernel)
    (hst : starEach (e :: es) X.env = (false, eval e X.env) :: starEach es X.env := by rfl) (hpl : (backTo pos (starEach es X.env)).any (·.1) = false := by rfl)
    (ht : eval (.Call (.Attribute (.Name (Str.ofString cn) p) (Str.ofString m) apos) (e :: es) [] pos) X.env = (do
      let ov ← eval (.Name (Str.ofString cn) p) X.env
      standAt apos.atName
      let (f, first) ← holding [ov] (getMethod ov (Str.ofString m) pl)
      callWith pos f first (backTo pos (starEach (e :: es) X.env)) (backToKw pos (keywordEach [] X.env))) := by rfl) :
    PE X (.Call (.Attribute (.Name (Str.ofString cn) p) (Str.ofString m) apos) (e :: es) [] pos) (tE X.K X.mg W T cal mkc (.cm nm cn xs [])) := by
  obtain ⟨f, q, mc, oc, od, kV, doc, pm, an, cdv, ct, osl, F, hm, cr, cm⟩ := O.ex
  refine ⟨fun pins s σ H Q I h => ?_⟩
  obtain ⟨G, Z, F0, ρ, A, qq⟩ := h
  have e1 : evE T cal mkc (.cm nm cn xs []) ρ = EV.bnd (evEs T cal mkc xs ρ) fun vs ρ1 => kwEnd (cal nm (.fz (.cls cn) :: vs.map .fz)) ρ1 := by
    simp only [evE, hd]
  rw [e1] at qq
  refine PySem.W.methodCall_KW (pl := pl) (ld_glob I hg hm ?_ hdb) ht
  refine ClX.getmethcm_ok I cr cm fun s2 I2 => ?_
  refine ClX.callwith_cm I2 (ClX.base_none I (Nat.le_refl _)) cm.fi (thn (ha.run pos _ s2 σ H (fun vs H1 => spF X.K X.mg cal ps.length nm (.ref (GH.clsA X.mg (Str.ofString cn)) :: vs) H1 Q fun c d H' => W c d σ H') I2
    ⟨G, Z, F0, ρ, A, qq.bnd.imp fun F1 H1 ρ1 vs A1 e1 q1 ys rys => kw_atC A1 rys (fun _ _ _ _ c => c) O.ln q1⟩) fun us s3 ⟨vs, H2, I3, rv, q2⟩ => ⟨⟨ClX.pin_at I3, I3.kIn⟩, ?_⟩) hst hpl
  exact run_cmE F gd hr tk (fun hl => .of_eq (hb kV doc pm an cdv ct _ hl)) I3 rv q2
end
end EV
namespace EV
open PySem PySem.Spec PyProof.Rows L2
def spL (K : PySem.W.Frag) (mg : Str → Option Value) (cal : Cal) (nm : String) : Sp := fun vs H Q _ => spF K mg cal 1 nm vs H Q fun _ _ _ => False
theorem okG_of {P : Program} {w : World} {K : PySem.W.Frag} {mg : Str → Option Value} {base : Heap} {k : Nat} {x p : Str} {nm : String} {cal : Cal} (O : OkE P w K mg base k x nm [p] cal) : GH.OkG P w K mg base k x [p] (spL K mg cal nm) := by
  obtain ⟨f, fd, F, hb, m, kp, lk⟩ := O.ex
  refine ⟨f, fd, ⟨fun vs H Q E h => F.ln vs H Q _ h, fun A ou s H args us vs Q E gd hr ev bt rl hs => ?_⟩, fun s us _ hl => ?_, m, kp, hb, lk⟩
  · refine codeAny_mono (F.go A ou s H args us vs Q _ gd hr ev bt rl hs) fun o s' h => ?_
    cases o with
    | error e =>
      obtain ⟨a, B, H', cls, d, _, _, _, _, _, _, _, z⟩ := h
      exact z.elim
    | ok fl => cases fl <;> exact h
  · rw [List.append_nil] at hl ⊢
    exact hb s us hl
theorem law_sp {K : PySem.W.Frag} {mg : Str → Option Value} {cal : Cal} {nm : String} {ns : List Int} {fin : List Slot} (h : cal nm [.fz (.scr ns)] = some (.ok (.fz (.bl true)) fin)) {H : Hp} {a : Addr} (t : TBs K mg H) (s : SqL K H a (ns.map V.int)) (E : XK) : spL K mg cal nm [.ref a] H (fun v _ => v = .bl true) E := by
  have g : ∀ {p : Addr} {o : HO}, H p = some o → (∀ ps, o ≠ .tbl ps) → gnd [] [] H p = some o := fun {p o} h ht => gnd_at (by simp [ioOf]) h ht
  have s' : SqL K (gnd [] [] H) a (ns.map V.int) := by
    rcases s with (s | ⟨o, s⟩) | s
    · exact .inl (.inl (g s (by nofun)))
    · exact .inl (.inr ⟨o, g s (by nofun)⟩)
    · exact .inr s
  refine ⟨gnd [] [] H, [.fz (.scr ns)], rfl, fun a o h => (gnd_some h).2.1, .cons (Rep.scr s') .nil, by simp [ioOf], ⟨fun a ps h => (gnd_some h).2.2 ps rfl, t⟩, ?_⟩
  rw [h]
  intro F' H' x E' rx
  cases rx
  rfl
end EV
namespace EV
open PySem PySem.Spec PyProof.Rows L2
section
variable {prog : Program} {w : World} {A : Around} {E : Value → Shared → Prop} {s : Shared} {K : PySem.W.Frag} {y C : Addr} {oy : Obj} {od : Option Obj}
theorem inst_no {M : Model} {T : String} {Q : Bool → Shared → Prop} (X : K.In s.heap) (I : PySem.W.InstAt s.heap y oy C od) (h : PySem.W.subIn K (.ref C) (.type T) = some false) (hq : Q false s) : wpAny M A (isInstance (.ref y) (.type T)) Q E s := by
  unfold isInstance
  exact wpAny_bind (I.type.here ((PySem.W.looks_subIn X h).here hq))
theorem dec_none_eq : Gives (Builtin.«NoneType.__eq__» ⟨[.none, .ref y], []⟩) (.val (Value.notImplemented)) :=
  .of_wp fun M A E s Q h => by obtain ⟨hp, g, d, tk, os⟩ := s; wp_walk; exact ⟨_, rfl, h⟩
theorem dec_none_ne : Gives (Builtin.«NoneType.__ne__» ⟨[.none, .ref y], []⟩) (.val (Value.notImplemented)) :=
  .of_wp fun M A E s Q h => by obtain ⟨hp, g, d, tk, os⟩ := s; wp_walk; exact ⟨_, rfl, h⟩
theorem dec_list_eq {dx : Addr} {l : Addr} : Meets (Builtin.«list.__eq__» ⟨[.ref l, .ref y], []⟩) (fun _ R s => K.In s.heap ∧ PySem.W.InstAt s.heap y (PySem.W.instObj C dx) C od ∧ PySem.W.subIn K (.ref C) (.type "list") = some false ∧ R (.ok (.ret .notImplemented)) s) :=
  .of_wp fun prog w A R s h => by
    obtain ⟨X, I, hs, h⟩ := h
    wp_walk using inst_no X I hs
    exact ⟨_, rfl, h⟩
theorem dec_tup_eq {dx : Addr} {l : Addr} : Meets (Builtin.«tuple.__eq__» ⟨[.ref l, .ref y], []⟩) (fun _ R s => K.In s.heap ∧ PySem.W.InstAt s.heap y (PySem.W.instObj C dx) C od ∧ PySem.W.subIn K (.ref C) (.type "tuple") = some false ∧ R (.ok (.ret .notImplemented)) s) :=
  .of_wp fun prog w A R s h => by
    obtain ⟨X, I, hs, h⟩ := h
    wp_walk using inst_no X I hs
    exact ⟨_, rfl, h⟩
theorem dec_dict_eq {dx : Addr} {l : Addr} : Meets (Builtin.«dict.__eq__» ⟨[.ref l, .ref y], []⟩) (fun _ R s => K.In s.heap ∧ PySem.W.InstAt s.heap y (PySem.W.instObj C dx) C od ∧ PySem.W.subIn K (.ref C) (.type "dict") = some false ∧ R (.ok (.ret .notImplemented)) s) :=
  .of_wp fun prog w A R s h => by
    obtain ⟨X, I, hs, h⟩ := h
    wp_walk using inst_no X I hs
    exact ⟨_, rfl, h⟩
theorem dec_str_eq {dx : Addr} {a : Str} {t : Tok} : Meets (Builtin.«str.__eq__» ⟨[.str a t, .ref y], []⟩) (fun _ R s => K.In s.heap ∧ PySem.W.InstAt s.heap y (PySem.W.instObj C dx) C od ∧ PySem.W.subIn K (.ref C) (.type "str") = some false ∧ R (.ok (.ret .notImplemented)) s) :=
  .of_wp fun prog w A R s h => by
    obtain ⟨X, I, hs, h⟩ := h
    wp_walk using inst_no X I hs, wpAny_load I.at_
    exact ⟨_, rfl, h⟩
theorem dec_int_eq {dx : Addr} {a : Int} {t : Tok} : Meets (Builtin.«int.__eq__» ⟨[.int a t, .ref y], []⟩) (fun _ R s => K.In s.heap ∧ PySem.W.InstAt s.heap y (PySem.W.instObj C dx) C od ∧ PySem.W.subIn K (.ref C) (.type "int") = some false ∧ R (.ok (.ret .notImplemented)) s) :=
  .of_wp fun prog w A R s h => by
    obtain ⟨X, I, hs, h⟩ := h
    wp_walk using inst_no X I hs, wpAny_load I.at_
    exact ⟨_, rfl, h⟩
theorem dec_bool_eq {dx : Addr} {a : Bool} : Meets (Builtin.«int.__eq__» ⟨[.bool a, .ref y], []⟩) (fun _ R s => K.In s.heap ∧ PySem.W.InstAt s.heap y (PySem.W.instObj C dx) C od ∧ PySem.W.subIn K (.ref C) (.type "int") = some false ∧ R (.ok (.ret .notImplemented)) s) :=
  .of_wp fun prog w A R s h => by
    obtain ⟨X, I, hs, h⟩ := h
    wp_walk using inst_no X I hs, wpAny_load I.at_
    exact ⟨_, rfl, h⟩
theorem dec_list_ne {dx : Addr} {l : Addr} : Meets (Builtin.«list.__ne__» ⟨[.ref l, .ref y], []⟩) (fun _ R s => K.In s.heap ∧ PySem.W.InstAt s.heap y (PySem.W.instObj C dx) C od ∧ PySem.W.subIn K (.ref C) (.type "list") = some false ∧ R (.ok (.ret .notImplemented)) s) :=
  .of_wp fun prog w A R s h => by
    obtain ⟨X, I, hs, h⟩ := h
    wp_walk using inst_no X I hs
    exact ⟨_, rfl, h⟩
theorem dec_tup_ne {dx : Addr} {l : Addr} : Meets (Builtin.«tuple.__ne__» ⟨[.ref l, .ref y], []⟩) (fun _ R s => K.In s.heap ∧ PySem.W.InstAt s.heap y (PySem.W.instObj C dx) C od ∧ PySem.W.subIn K (.ref C) (.type "tuple") = some false ∧ R (.ok (.ret .notImplemented)) s) :=
  .of_wp fun prog w A R s h => by
    obtain ⟨X, I, hs, h⟩ := h
    wp_walk using inst_no X I hs
    exact ⟨_, rfl, h⟩
theorem dec_dict_ne {dx : Addr} {l : Addr} : Meets (Builtin.«dict.__ne__» ⟨[.ref l, .ref y], []⟩) (fun _ R s => K.In s.heap ∧ PySem.W.InstAt s.heap y (PySem.W.instObj C dx) C od ∧ PySem.W.subIn K (.ref C) (.type "dict") = some false ∧ R (.ok (.ret .notImplemented)) s) :=
  .of_wp fun prog w A R s h => by
    obtain ⟨X, I, hs, h⟩ := h
    wp_walk using inst_no X I hs
    exact ⟨_, rfl, h⟩
theorem dec_str_ne {dx : Addr} {a : Str} {t : Tok} : Meets (Builtin.«str.__ne__» ⟨[.str a t, .ref y], []⟩) (fun _ R s => K.In s.heap ∧ PySem.W.InstAt s.heap y (PySem.W.instObj C dx) C od ∧ PySem.W.subIn K (.ref C) (.type "str") = some false ∧ R (.ok (.ret .notImplemented)) s) :=
  .of_wp fun prog w A R s h => by
    obtain ⟨X, I, hs, h⟩ := h
    wp_walk using inst_no X I hs, wpAny_load I.at_
    exact ⟨_, rfl, h⟩
theorem dec_int_ne {dx : Addr} {a : Int} {t : Tok} : Meets (Builtin.«int.__ne__» ⟨[.int a t, .ref y], []⟩) (fun _ R s => K.In s.heap ∧ PySem.W.InstAt s.heap y (PySem.W.instObj C dx) C od ∧ PySem.W.subIn K (.ref C) (.type "int") = some false ∧ R (.ok (.ret .notImplemented)) s) :=
  .of_wp fun prog w A R s h => by
    obtain ⟨X, I, hs, h⟩ := h
    wp_walk using inst_no X I hs, wpAny_load I.at_
    exact ⟨_, rfl, h⟩
theorem dec_bool_ne {dx : Addr} {a : Bool} : Meets (Builtin.«int.__ne__» ⟨[.bool a, .ref y], []⟩) (fun _ R s => K.In s.heap ∧ PySem.W.InstAt s.heap y (PySem.W.instObj C dx) C od ∧ PySem.W.subIn K (.ref C) (.type "int") = some false ∧ R (.ok (.ret .notImplemented)) s) :=
  .of_wp fun prog w A R s h => by
    obtain ⟨X, I, hs, h⟩ := h
    wp_walk using inst_no X I hs, wpAny_load I.at_
    exact ⟨_, rfl, h⟩
def Plv (s : Shared) (u : Value) (T : String) : Prop := (u = .none ∧ T = "NoneType") ∨ (∃ b, u = .bool b ∧ T = "bool") ∨ (∃ i t, u = .int i t ∧ T = "int") ∨ (∃ x t, u = .str x t ∧ T = "str") ∨ ∃ l, u = .ref l ∧ s.TypeIs (.ref l) T ∧ (T = "list" ∨ T = "tuple" ∨ T = "dict")
def KitNone (K : PySem.W.Frag) (C : Addr) : Prop := ∀ T ∈ ["NoneType", "bool", "int", "str", "list", "tuple", "dict"], PySem.W.mroIn K C (.type T) = some false
theorem Plv.kit {u : Value} {T : String} (P : Plv s u T) : T ∈ ["NoneType", "bool", "int", "str", "list", "tuple", "dict"] := by
  rcases P with ⟨_, rfl⟩ | ⟨_, _, rfl⟩ | ⟨_, _, _, rfl⟩ | ⟨_, _, _, rfl⟩ | ⟨_, _, _, rfl | rfl | rfl⟩ <;> simp
theorem Plv.ty {u : Value} {T : String} (P : Plv s u T) : s.TypeIs u T := by
  rcases P with ⟨rfl, rfl⟩ | ⟨b, rfl, rfl⟩ | ⟨i, t, rfl, rfl⟩ | ⟨x, t, rfl, rfl⟩ | ⟨l, rfl, h, _⟩
  · rfl
  · exact PySem.typeIs_bool _ _
  · exact typeIs_int _ _ _
  · exact typeIs_str _ _ _
  · exact h
theorem Plv.declines {dx : Addr} {u : Value} {T : String} (P : Plv s u T) (X : K.In s.heap) (I : PySem.W.InstAt s.heap y (PySem.W.instObj C dx) C od) (N : KitNone K C) (ne : Bool) :
    ∃ id, PySem.Slot T (cmpInfo (if ne then .NotEq else .Eq)).2.1 id ∧ ∀ (A : Around) (E : Value → Shared → Prop) (Q : Value → Shared → Prop), Q .notImplemented s → wpAny (model prog w) A (call (.builtin id) [u, .ref y]) Q E s := by
  have hT := P.ty
  have hs : ∀ {T : String}, T ∈ ["NoneType", "bool", "int", "str", "list", "tuple", "dict"] → PySem.W.subIn K (.ref C) (.type T) = some false := fun h => N _ h
  rcases P with ⟨rfl, rfl⟩ | ⟨b, rfl, rfl⟩ | ⟨i, t, rfl, rfl⟩ | ⟨x, t, rfl, rfl⟩ | ⟨l, rfl, h, rfl | rfl | rfl⟩ <;> cases ne
  · exact ⟨_, F.slot_NoneType_eq, fun A E Q h => call_gives F.slot_NoneType_eq rfl F.entry_NoneType_eq (F.args_NoneType_eq_2 _ _) dec_none_eq h⟩
  · exact ⟨_, F.slot_NoneType_ne, fun A E Q h => call_gives F.slot_NoneType_ne rfl F.entry_NoneType_ne (F.args_NoneType_ne_2 _ _) dec_none_ne h⟩
  · exact ⟨_, F.slot_bool_eq, fun A E Q h => call_meets F.slot_bool_eq hT F.entry_int_eq (F.args_int_eq_2 _ _) dec_bool_eq ⟨X, I, hs (by simp), h⟩⟩
  · exact ⟨_, F.slot_bool_ne, fun A E Q h => call_meets F.slot_bool_ne hT F.entry_int_ne (F.args_int_ne_2 _ _) dec_bool_ne ⟨X, I, hs (by simp), h⟩⟩
  · exact ⟨_, F.slot_int_eq, fun A E Q h => call_meets F.slot_int_eq hT F.entry_int_eq (F.args_int_eq_2 _ _) dec_int_eq ⟨X, I, hs (by simp), h⟩⟩
  · exact ⟨_, F.slot_int_ne, fun A E Q h => call_meets F.slot_int_ne hT F.entry_int_ne (F.args_int_ne_2 _ _) dec_int_ne ⟨X, I, hs (by simp), h⟩⟩
  · exact ⟨_, F.slot_str_eq, fun A E Q h => call_meets F.slot_str_eq hT F.entry_str_eq (F.args_str_eq_2 _ _) dec_str_eq ⟨X, I, hs (by simp), h⟩⟩
  · exact ⟨_, F.slot_str_ne, fun A E Q h => call_meets F.slot_str_ne hT F.entry_str_ne (F.args_str_ne_2 _ _) dec_str_ne ⟨X, I, hs (by simp), h⟩⟩
  · exact ⟨_, F.slot_list_eq, fun A E Q h => call_meets F.slot_list_eq hT F.entry_list_eq (F.args_list_eq_2 _ _) dec_list_eq ⟨X, I, hs (by simp), h⟩⟩
  · exact ⟨_, F.slot_list_ne, fun A E Q h => call_meets F.slot_list_ne hT F.entry_list_ne (F.args_list_ne_2 _ _) dec_list_ne ⟨X, I, hs (by simp), h⟩⟩
  · exact ⟨_, F.slot_tuple_eq, fun A E Q h => call_meets F.slot_tuple_eq hT F.entry_tuple_eq (F.args_tuple_eq_2 _ _) dec_tup_eq ⟨X, I, hs (by simp), h⟩⟩
  · exact ⟨_, F.slot_tuple_ne, fun A E Q h => call_meets F.slot_tuple_ne hT F.entry_tuple_ne (F.args_tuple_ne_2 _ _) dec_tup_ne ⟨X, I, hs (by simp), h⟩⟩
  · exact ⟨_, F.slot_dict_eq, fun A E Q h => call_meets F.slot_dict_eq hT F.entry_dict_eq (F.args_dict_eq_2 _ _) dec_dict_eq ⟨X, I, hs (by simp), h⟩⟩
  · exact ⟨_, F.slot_dict_ne, fun A E Q h => call_meets F.slot_dict_ne hT F.entry_dict_ne (F.args_dict_ne_2 _ _) dec_dict_ne ⟨X, I, hs (by simp), h⟩⟩
theorem try_EQ {f : Addr} {u : Value} {Q : Value → Shared → Prop} (X : K.In s.heap) (I : PySem.W.InstAt s.heap y oy C od) (hs : PySem.W.findIn K (.ref C) "__eq__" = some (some (.ref f))) (hf : PySem.W.isFn K (.ref f) = true)
    (h : wpAny (model prog w) A (call (.ref f) [.ref y, u]) (PySem.W.BoolBack fun r s' => Q (.bool r) s') E s) : wpAny (model prog w) A (tryCompare (.ref y) "__eq__" u) (fun r s' => ∃ v, r = some v ∧ Q v s') E s := by
  unfold tryCompare
  refine wpAny_bind (PySem.W.ifBound_K X I hs hf (wpAny_mono h (fun v s' hv => ?_) fun _ _ e => e))
  cases v <;> first | exact hv.elim | exact wpAny_pure ⟨_, rfl, hv⟩
theorem try_NE {f : Addr} {u : Value} {Q : Value → Shared → Prop} (hu2 : A.in1.units < cLine) (X : K.In s.heap) (I : PySem.W.InstAt s.heap y oy C od) (hs : PySem.W.findIn K (.ref C) "__eq__" = some (some (.ref f))) (hf : PySem.W.isFn K (.ref f) = true)
    (hne : PySem.W.findIn K (.ref C) "__ne__" = some (some (.builtin "object.__ne__"))) (hm : PySem.W.mroIn K C (.type "object") = some true)
    (h : wpAny (model prog w) A.in1 (call (.ref f) [.ref y, u]) (PySem.W.BoolBack fun r s' => Q (.bool (!r)) s') E s) : wpAny (model prog w) A (tryCompare (.ref y) "__ne__" u) (fun r s' => ∃ v, r = some v ∧ Q v s') E s := by
  have body : wpAny (model prog w) A.in1 (Builtin.«object.__ne__» ⟨[.ref y, u], []⟩) (fun fin s' => ∃ r, fin = .done (.ret (.bool r)) ∧ Q (.bool r) s') E s := by
    have hb : Builtin.«object.__ne__» ⟨[.ref y, u], []⟩ = (do
        cRoomFor "comparison" [.ref y, u]
        match ← callSpecialIfBound? (.ref y) "__eq__" [u] with
        | some .notImplemented | none => ret .notImplemented
        | some r => ret (.bool (!(← truthy r)))) := rfl
    rw [hb]
    refine wpAny_bind (wpAny_cRoomFor hu2 (wpAny_bind (PySem.W.ifBound_K X I hs hf (wpAny_mono h (fun v s' hv => ?_) fun _ _ e => e))))
    cases v <;> first | exact hv.elim | skip
    exact wpAny_bind (wpAny_truthy_bool (wpAny_pure ⟨_, rfl, hv⟩))
  unfold tryCompare
  refine wpAny_bind ?_
  simp only [callSpecialIfBound?, bindSpecialIfBound?]
  refine wpAny_holding (wpAny_bind (wpAny_bind (wpAny_bind (I.type.here ((PySem.W.looks_findIn X hne).here ?_)))))
  refine wpAny_bind (wpAny_askSetting (wpAny_ite ?_))
  have fin : wpAny (model prog w) A (call (.builtin "object.__ne__") ([.ref y] ++ [u]) >>= fun v => pure (some v)) (fun o s' => wpAny (model prog w) A (match o with
      | some .notImplemented | none => pure none
      | some v => pure (some v)) (fun r s' => ∃ v, r = some v ∧ Q v s') E s') E s := by
    refine wpAny_bind (wpAny_mono (Q := fun v s' => ∃ r, v = .bool r ∧ Q (.bool r) s') (wpAny_call (codeAny_call_builtin PySem.F.cmp_object.ne.plain PySem.F.cmpEntry_ne (PySem.W.check_slot PySem.F.cmpKind_ne PySem.F.cmpSplit_ne (I.type.andThen (PySem.W.looks_mroIn X hm)) (PySem.F.cmpArgs_ne _ _) (wpAny_mono body (fun fin s' hh => ?_) fun _ _ e => e)))) (fun v s' hv => ?_) fun _ _ e => e)
    · obtain ⟨r, rfl, hq⟩ := hh
      exact ⟨r, rfl, hq⟩
    · obtain ⟨r, rfl, hq⟩ := hv
      exact wpAny_pure (wpAny_pure ⟨_, rfl, hq⟩)
  split
  · exact wpAny_bind (wpAny_of_eq (PySem.F.cmp_object.ne.bind _) (wpAny_pure (by exact fin)))
  · exact wpAny_tryCatch (wpAny_bind (wpAny_of_eq (PySem.F.cmp_object.ne.bind _) (wpAny_pure (by exact fin))))
theorem cmp_R {dx : Addr} {u : Value} {T : String} {ne : Bool} {Q : Value → Shared → Prop} (hu : A.units < cLine) (P : Plv s u T) (X : K.In s.heap) (I : PySem.W.InstAt s.heap y (PySem.W.instObj C dx) C od) (N : KitNone K C)
    (h : wpAny (model prog w) A (tryCompare (.ref y) (cmpInfo (if ne then .NotEq else .Eq)).2.2 u) (fun r s' => ∃ v, r = some v ∧ Q v s') E s) : wpAny (model prog w) A (richCompare (if ne then .NotEq else .Eq) u (.ref y)) Q E s := by
  obtain ⟨id, sl, dc⟩ := P.declines (prog := prog) (w := w) X I N ne
  have hT := P.ty
  rcases hi : cmpInfo (if ne then CmpOp.NotEq else CmpOp.Eq) with ⟨sym, f, r⟩
  rw [hi] at sl h
  simp only [richCompare, hi, hT.oneThing_none]
  refine wpAny_holding ?_
  refine wpAny_bind (wpAny_cRoomFor hu ?_)
  refine wpAny_bind (wpAny_typeOf hT (wpAny_bind (I.type.here ?_)))
  have hne : (Value.ref C != Value.type T) = true := by simp
  have hne2 : (Value.type T != Value.ref C) = true := by simp
  simp only [hne, hne2, if_true]
  refine wpAny_bind ((PySem.W.looks_subIn (t := .ref C) (base := .type T) (r := false) X (N _ P.kit)).here ?_)
  simp only [Bool.false_eq_true, if_false, Bool.not_false, if_true]
  refine wpAny_bind (m := tryCompare u _ (.ref y)) (wpAny_tryCompare_declines hT sl (dc _ _ _ ⟨rfl, ?_⟩))
  refine wpAny_bind (wpAny_mono h (fun r s' z => ?_) fun _ _ e => e)
  obtain ⟨v, rfl, hq⟩ := z
  exact wpAny_pure hq
end
section
variable {X : Cx}
theorem plv_of {F H : Hp} {x : V} {v : Val} (e : Ex' F H) (r : RepB X.K X.mg F H x v) (hp : Arg.isPln (.va v) = true) : ∀ (pins : List (Addr × Obj)) (σ : L2.St) (s : Shared) (u : Value), L2.Inv X pins σ H s → RelV x u → ∃ T, Plv s u T := by
  intro pins σ s u I rx
  cases r with
  | non => cases (show u = Value.none from rx); exact ⟨_, .inl ⟨rfl, rfl⟩⟩
  | bl b => cases (show u = Value.bool b from rx); exact ⟨_, .inr (.inl ⟨_, rfl, rfl⟩)⟩
  | int i => obtain ⟨t, q⟩ := (show ∃ t, u = Value.int i t from rx); cases q; exact ⟨_, .inr (.inr (.inl ⟨_, _, rfl, rfl⟩))⟩
  | str l => obtain ⟨t, q⟩ := (show ∃ t, u = Value.str _ t from rx); cases q; exact ⟨_, .inr (.inr (.inr (.inl ⟨_, _, rfl, rfl⟩)))⟩
  | @lst a xs vs h r =>
    cases (show u = Value.ref a from rx)
    obtain ⟨_, _, n, _, h1⟩ := (show ObjOk X.prog X.w H s.heap a (.lst xs) from I.hok a _ h)
    exact ⟨_, .inr (.inr (.inr (.inr ⟨_, rfl, ⟨_, h1, rfl⟩, .inl rfl⟩)))⟩
  | scr h => cases hp
  | @tup a xs vs h r =>
    cases (show u = Value.ref a from rx)
    obtain ⟨_, _, _, o, h1, h2, _⟩ := (show ObjOk X.prog X.w H s.heap a (.tup xs) from I.hok a _ (e _ _ h))
    exact ⟨_, .inr (.inr (.inr (.inr ⟨_, rfl, ⟨o, h1, h2⟩, .inr (.inl rfl)⟩)))⟩
  | wtp h => cases hp
  | cls c => cases hp
  | @dk a ks kvs h r =>
    cases (show u = Value.ref a from rx)
    rcases h with h | ⟨ob, h⟩
    · obtain ⟨_, _, vs, _, o, es, ep, h1, h2, _⟩ := (show ObjOk X.prog X.w H s.heap a (.dK ks) from I.hok a _ h)
      exact ⟨_, .inr (.inr (.inr (.inr ⟨_, rfl, ⟨o, h1, h2.1⟩, .inr (.inr rfl)⟩)))⟩
    · obtain ⟨_, _, _, vs, _, o, es, ep, h1, h2, _⟩ := (show ObjOk X.prog X.w H s.heap a (.frz ob (.dK ks)) from I.hok a _ h)
      exact ⟨_, .inr (.inr (.inr (.inr ⟨_, rfl, ⟨o, h1, h2.1⟩, .inr (.inr rfl)⟩)))⟩
  | @dt a ks kvs h r =>
    cases (show u = Value.ref a from rx)
    rcases h with h | ⟨ob, h⟩
    · obtain ⟨_, _, xs, _, o, es, ep, h1, h2, _⟩ := (show ObjOk X.prog X.w H s.heap a (.dT ks) from I.hok a _ h)
      exact ⟨_, .inr (.inr (.inr (.inr ⟨_, rfl, ⟨o, h1, h2.1⟩, .inr (.inr rfl)⟩)))⟩
    · obtain ⟨_, _, _, vs, _, o, es, ep, h1, h2, _⟩ := (show ObjOk X.prog X.w H s.heap a (.frz ob (.dT ks)) from I.hok a _ h)
      exact ⟨_, .inr (.inr (.inr (.inr ⟨_, rfl, ⟨o, h1, h2.1⟩, .inr (.inr rfl)⟩)))⟩
  | obj h r => cases hp
end
end EV
namespace EV
open PySem PySem.Spec PyProof.Rows L2
section
variable {prog : Program} {w : World} {A : Around} {E : Value → Shared → Prop} {s : Shared} {K : PySem.W.Frag} {x C f : Addr} {ox : Obj} {od : Option Obj}
theorem cmp_NE {b tb : Value} {Q : Value → Shared → Prop} (hu : A.units < cLine) (hu2 : A.in1.units < cLine) (X : K.In s.heap) (I : PySem.W.InstAt s.heap x ox C od) (hb : PySem.W.Looks (model prog w) s.heap (typeOf b) tb) (hn : PySem.W.notFirst K C tb = true)
    (hs : PySem.W.findIn K (.ref C) "__eq__" = some (some (.ref f))) (hf : PySem.W.isFn K (.ref f) = true) (hne : PySem.W.findIn K (.ref C) "__ne__" = some (some (.builtin "object.__ne__"))) (hm : PySem.W.mroIn K C (.type "object") = some true)
    (h : wpAny (model prog w) A.in1 (call (.ref f) [.ref x, b]) (PySem.W.BoolBack fun r s' => Q (.bool (!r)) s') E s) : wpAny (model prog w) A (richCompare .NotEq (.ref x) b) Q E s := by
  have body : wpAny (model prog w) A.in1 (Builtin.«object.__ne__» ⟨[.ref x, b], []⟩) (fun fin s' => ∃ r, fin = .done (.ret (.bool r)) ∧ Q (.bool r) s') E s := by
    have hb : Builtin.«object.__ne__» ⟨[.ref x, b], []⟩ = (do
        cRoomFor "comparison" [.ref x, b]
        match ← callSpecialIfBound? (.ref x) "__eq__" [b] with
        | some .notImplemented | none => ret .notImplemented
        | some r => ret (.bool (!(← truthy r)))) := rfl
    rw [hb]
    refine wpAny_bind (wpAny_cRoomFor hu2 (wpAny_bind (PySem.W.ifBound_K X I hs hf (wpAny_mono h (fun v s' hv => ?_) fun _ _ e => e))))
    cases v <;> first | exact hv.elim | skip
    exact wpAny_bind (wpAny_truthy_bool (wpAny_pure ⟨_, rfl, hv⟩))
  have one : wpAny (model prog w) A (tryCompare (.ref x) "__ne__" b) (fun r s' => ∃ v, r = some v ∧ Q v s') E s := by
    unfold tryCompare
    refine wpAny_bind ?_
    simp only [callSpecialIfBound?, bindSpecialIfBound?]
    refine wpAny_holding (wpAny_bind (wpAny_bind (wpAny_bind (I.type.here ((PySem.W.looks_findIn X hne).here ?_)))))
    refine wpAny_bind (wpAny_askSetting (wpAny_ite ?_))
    have fin : wpAny (model prog w) A (call (.builtin "object.__ne__") ([.ref x] ++ [b]) >>= fun v => pure (some v)) (fun o s' => wpAny (model prog w) A (match o with
        | some .notImplemented | none => pure none
        | some v => pure (some v)) (fun r s' => ∃ v, r = some v ∧ Q v s') E s') E s := by
      refine wpAny_bind (wpAny_mono (Q := fun v s' => ∃ r, v = .bool r ∧ Q (.bool r) s') (wpAny_call (codeAny_call_builtin PySem.F.cmp_object.ne.plain PySem.F.cmpEntry_ne (PySem.W.check_slot PySem.F.cmpKind_ne PySem.F.cmpSplit_ne (I.type.andThen (PySem.W.looks_mroIn X hm)) (PySem.F.cmpArgs_ne _ _) (wpAny_mono body (fun fin s' hh => ?_) fun _ _ e => e)))) (fun v s' hv => ?_) fun _ _ e => e)
      · obtain ⟨r, rfl, hq⟩ := hh
        exact ⟨r, rfl, hq⟩
      · obtain ⟨r, rfl, hq⟩ := hv
        exact wpAny_pure (wpAny_pure ⟨_, rfl, hq⟩)
    split
    · exact wpAny_bind (wpAny_of_eq (PySem.F.cmp_object.ne.bind _) (wpAny_pure (by exact fin)))
    · exact wpAny_tryCatch (wpAny_bind (wpAny_of_eq (PySem.F.cmp_object.ne.bind _) (wpAny_pure (by exact fin))))
  unfold richCompare
  simp only [oneThing_ref]
  refine wpAny_holding (wpAny_bind (wpAny_cRoomFor hu ?_))
  refine wpAny_bind (I.type.here (wpAny_bind (hb.here ?_)))
  split
  · rename_i q
    have e : PySem.W.subIn K tb (.ref C) = some false := by
      rcases Bool.or_eq_true_iff.mp hn with e | e
      · rw [beq_iff_eq.mp e] at q; simp at q
      · exact beq_iff_eq.mp e
    refine wpAny_bind ((PySem.W.looks_subIn X e).here ?_)
    simp only [Bool.false_eq_true, if_false]
    refine wpAny_bind (wpAny_mono one (fun r s' z => ?_) fun _ _ e => e)
    obtain ⟨v, rfl, hq⟩ := z
    exact wpAny_pure hq
  · refine wpAny_bind (wpAny_pure ?_)
    simp only [Bool.false_eq_true, if_false]
    refine wpAny_bind (wpAny_mono one (fun r s' z => ?_) fun _ _ e => e)
    obtain ⟨v, rfl, hq⟩ := z
    exact wpAny_pure hq
theorem sub_kit {T : String} (h : T ∈ ["NoneType", "bool", "int", "str", "list", "tuple", "dict"]) : PySem.W.subIn K (.type T) (.ref C) = some false := by
  have go : ∀ {T : String} {l : List String}, fastBuiltinMro T = some (l.map Value.type) → PySem.W.subIn K (.type T) (.ref C) = some false := by
    intro T l e
    show (fastBuiltinMro T).map (·.contains (.ref C)) = some false
    rw [e]
    simp only [Option.map_some, Option.some.injEq]
    induction l with
    | nil => rfl
    | cons a r ih => simpa using ih
  simp only [List.mem_cons, List.not_mem_nil, or_false] at h
  rcases h with rfl | rfl | rfl | rfl | rfl | rfl | rfl
  · exact go (l := ["NoneType", "object"]) (by decide +kernel)
  · exact go (l := ["bool", "int", "object"]) (by decide +kernel)
  · exact go (l := ["int", "object"]) (by decide +kernel)
  · exact go (l := ["str", "object"]) (by decide +kernel)
  · exact go (l := ["list", "object"]) (by decide +kernel)
  · exact go (l := ["tuple", "object"]) (by decide +kernel)
  · exact go (l := ["dict", "object"]) (by decide +kernel)
end
section
variable {X : Cx} {W : WX} {T : Tab} {cal mkc : Cal} {a b c e o : Expr} {ea eb ec ek : Ex} {pos p p2 : Pos} {k kr : Nat}
theorem soE {d : Def} {cn nm : String} {ps : List Str} (O : OkME X.prog X.w X.K X.mg X.base k cn "__str__" nm ps mkc) (gd : X.A.guards = some []) (hr : Room (k + 1) X.A) (hd : T.fn nm = some d) (hm : X.mg "str" = none) (ha : PE X e (tArg X W T cal mkc (d.io.getD 0 false) ea)) (hg : Gl X "str" := by rfl)
    (he : starEach [e] X.env = (false, eval e X.env) :: starEach [] X.env := by rfl) (hpl : (backTo pos (starEach [] X.env)).any (·.1) = false := by rfl) :
    PE X (.Call (.Name "str" p) [e] [] pos) (tE X.K X.mg W T cal mkc (.sp nm cn "__str__" false [ea])) := by
  obtain ⟨f, fd, F, hb, cl, hme⟩ := O.ex
  exact sE_so F gd hr hb hme hd O.ln hg hm ha he hpl
def rSpE (X : Cx) (mkc : Cal) (ne : Bool) (cn f : String) (n : Nat) : R2 := fun x y H Q => ∃ a dx fs t, x = .ref a ∧ H a = some (.ins (GH.clsA X.mg (Str.ofString cn)) dx fs) ∧
  (∀ (pins : List (Addr × Obj)) (σ : L2.St) (s : Shared) (u : Value), L2.Inv X pins σ H s → RelV y u → PySem.W.Looks (model X.prog X.w) s.heap (typeOf u) t) ∧ PySem.W.notFirst X.K (GH.clsA X.mg (Str.ofString cn)) t = true ∧
  spF X.K X.mg mkc n f [x, y] H (fun v H' => ∃ b, v = .bl b ∧ Q (.bl (b != ne)) H') fun c d H' => W0 c d [] H'
theorem op_spE {cn nm : String} {ps : List Str} (O : OkME X.prog X.w X.K X.mg X.base k cn "__eq__" nm ps mkc) (gd : X.A.guards = some []) (hr : Room (k + 1) X.A) : OpR X (compareOp .Eq) (rSpE X mkc false cn nm ps.length) := by
  obtain ⟨f, fd, F, hb, cl, hme⟩ := O.ex
  intro pins s σ H x y v u Q I rx ry h
  obtain ⟨a, dx, fs, t, rfl, ea, ty, nf, q⟩ := h
  obtain rfl : v = Value.ref a := rx
  obtain ⟨mA, J, _⟩ := ins_get I.hok ea
  obtain ⟨od, J, _⟩ := J.look
  obtain ⟨m, hF⟩ := I.fr
  show wpAny (model X.prog X.w) X.A (richCompare .Eq (.ref a) u) (EP X pins σ Q) X.xe s
  refine PySem.W.cmp_K (op := .Eq) (hr.mono (Nat.zero_le _)).units0 hF I.ok.mod.kin J (ty pins σ s u I ry) nf hme.at_ hme.fn ?_
  refine wpAny_mono (run_fnE (us := [.ref a, u]) (vs := [.ref a, y]) (args := ⟨[.ref a, u], []⟩) F gd (hr.mono (Nat.le_succ _)) takesW0 (hb s [.ref a, u]) I (.cons rfl (.cons ry .nil)) q) (fun v s2 hv => ?_) fun _ _ x => x
  obtain ⟨z, H2, I2, rz, b, rfl, hq⟩ := hv
  cases rz
  rw [show (b != false) = b by cases b <;> rfl] at hq
  exact ⟨.bl b, H2, I2, rfl, hq⟩
theorem op_spN {cn nm : String} {ps : List Str} (O : OkME X.prog X.w X.K X.mg X.base k cn "__eq__" nm ps mkc) (gd : X.A.guards = some []) (hr : Room (k + 1) X.A) (hne : GH.NeAt X.K X.mg (Str.ofString cn)) : OpR X (compareOp .NotEq) (rSpE X mkc true cn nm ps.length) := by
  obtain ⟨f, fd, F, hb, cl, hme⟩ := O.ex
  intro pins s σ H x y v u Q I rx ry h
  obtain ⟨a, dx, fs, t, rfl, ea, ty, nf, q⟩ := h
  obtain rfl : v = Value.ref a := rx
  obtain ⟨mA, J, _⟩ := ins_get I.hok ea
  obtain ⟨od, J, _⟩ := J.look
  show wpAny (model X.prog X.w) X.A (richCompare .NotEq (.ref a) u) (EP X pins σ Q) X.xe s
  refine cmp_NE (hr.mono (Nat.zero_le _)).units0 (hr.in1.mono (Nat.zero_le _)).units0 I.kIn J (ty pins σ s u I ry) nf hme.at_ hme.fn hne.ne hne.mr ?_
  refine wpAny_mono (run_fnE1 (us := [.ref a, u]) (vs := [.ref a, y]) (args := ⟨[.ref a, u], []⟩) F gd hr takesW0 (hb s [.ref a, u]) I (.cons rfl (.cons ry .nil)) q) (fun v s2 hv => ?_) fun _ _ x => x
  obtain ⟨z, H2, I2, rz, b, rfl, hq⟩ := hv
  cases rz
  rw [show (b != true) = !b by cases b <;> rfl] at hq
  exact ⟨.bl (!b), H2, I2, rfl, hq⟩
def rSpR (X : Cx) (mkc : Cal) (ne : Bool) (cn f : String) (n : Nat) : R2 := fun x y H Q => ∃ a dx fs, y = .ref a ∧ H a = some (.ins (GH.clsA X.mg (Str.ofString cn)) dx fs) ∧
  (∀ (pins : List (Addr × Obj)) (σ : L2.St) (s : Shared) (u : Value), L2.Inv X pins σ H s → RelV x u → ∃ T, Plv s u T) ∧
  spF X.K X.mg mkc n f [y, x] H (fun v H' => ∃ b, v = .bl b ∧ Q (.bl (b != ne)) H') fun c d H' => W0 c d [] H'
def rSpU (X : Cx) (mkc : Cal) (ne : Bool) (cn f : String) (n : Nat) : R2 := fun x y H Q => rSpE X mkc ne cn f n x y H Q ∨ rSpR X mkc ne cn f n x y H Q
theorem op_suE {cn nm : String} {ps : List Str} (O : OkME X.prog X.w X.K X.mg X.base k cn "__eq__" nm ps mkc) (gd : X.A.guards = some []) (hr : Room (k + 1) X.A) (hne : GH.NeAt X.K X.mg (Str.ofString cn)) : OpR X (compareOp .Eq) (rSpU X mkc false cn nm ps.length) := by
  intro pins s σ H x y v u Q I rx ry h
  rcases h with h | h
  · exact op_spE O gd hr pins s σ H x y v u Q I rx ry h
  · obtain ⟨f, fd, F, hb, cl, hme⟩ := O.ex
    obtain ⟨a, dx, fs, rfl, ea, ty, q⟩ := h
    obtain rfl : u = Value.ref a := ry
    obtain ⟨mA, J, _⟩ := ins_get I.hok ea
    obtain ⟨od, J, _⟩ := J.look
    obtain ⟨T, P⟩ := ty pins σ s v I rx
    show wpAny (model X.prog X.w) X.A (richCompare .Eq v (.ref a)) (EP X pins σ Q) X.xe s
    refine cmp_R (ne := false) (hr.mono (Nat.zero_le _)).units0 P I.kIn J hne.kn ?_
    refine try_EQ I.kIn J hme.at_ hme.fn ?_
    refine wpAny_mono (run_fnE (us := [.ref a, v]) (vs := [.ref a, x]) (args := ⟨[.ref a, v], []⟩) F gd (hr.mono (Nat.le_succ _)) takesW0 (hb s [.ref a, v]) I (.cons rfl (.cons rx .nil)) q) (fun v s2 hv => ?_) fun _ _ x => x
    obtain ⟨z, H2, I2, rz, b, rfl, hq⟩ := hv
    cases rz
    rw [show (b != false) = b by cases b <;> rfl] at hq
    exact ⟨.bl b, H2, I2, rfl, hq⟩
theorem op_suN {cn nm : String} {ps : List Str} (O : OkME X.prog X.w X.K X.mg X.base k cn "__eq__" nm ps mkc) (gd : X.A.guards = some []) (hr : Room (k + 1) X.A) (hne : GH.NeAt X.K X.mg (Str.ofString cn)) : OpR X (compareOp .NotEq) (rSpU X mkc true cn nm ps.length) := by
  intro pins s σ H x y v u Q I rx ry h
  rcases h with h | h
  · exact op_spN O gd hr hne pins s σ H x y v u Q I rx ry h
  · obtain ⟨f, fd, F, hb, cl, hme⟩ := O.ex
    obtain ⟨a, dx, fs, rfl, ea, ty, q⟩ := h
    obtain rfl : u = Value.ref a := ry
    obtain ⟨mA, J, _⟩ := ins_get I.hok ea
    obtain ⟨od, J, _⟩ := J.look
    obtain ⟨T, P⟩ := ty pins σ s v I rx
    show wpAny (model X.prog X.w) X.A (richCompare .NotEq v (.ref a)) (EP X pins σ Q) X.xe s
    refine cmp_R (ne := true) (hr.mono (Nat.zero_le _)).units0 P I.kIn J hne.kn ?_
    refine try_NE (hr.in1.mono (Nat.zero_le _)).units0 I.kIn J hme.at_ hme.fn hne.ne hne.mr ?_
    refine wpAny_mono (run_fnE1 (us := [.ref a, v]) (vs := [.ref a, x]) (args := ⟨[.ref a, v], []⟩) F gd hr takesW0 (hb s [.ref a, v]) I (.cons rfl (.cons rx .nil)) q) (fun v s2 hv => ?_) fun _ _ x => x
    obtain ⟨z, H2, I2, rz, b, rfl, hq⟩ := hv
    cases rz
    rw [show (b != true) = !b by cases b <;> rfl] at hq
    exact ⟨.bl (!b), H2, I2, rfl, hq⟩
theorem pln_plv {F H : Hp} {x : V} {r : Arg} {G : Hp} {σ : L2.St} {ρ : Ro} (e : Ex' F H) (h : AtA X.K X.mg G F σ H ρ x r) (hp : r.isPln = true) : ∀ (pins : List (Addr × Obj)) (σ : L2.St) (s : Shared) (u : Value), L2.Inv X pins σ H s → RelV x u → ∃ T, Plv s u T := by
  cases r with
  | io i => cases hp
  | nw v => cases hp
  | va v =>
    have h : Rep X.K X.mg F x v := h
    exact plv_of e (h.b e) hp
theorem pln_ty {F H : Hp} {y : V} {r : Arg} {G : Hp} {σ : L2.St} {ρ : Ro} (e : Ex' F H) (h : AtA X.K X.mg G F σ H ρ y r) (hp : r.isPln = true) (C : Addr) : ∃ t, (∀ (pins : List (Addr × Obj)) (σ : L2.St) (s : Shared) (u : Value), L2.Inv X pins σ H s → RelV y u → PySem.W.Looks (model X.prog X.w) s.heap (typeOf u) t) ∧ PySem.W.notFirst X.K C t = true := by
  cases r with
  | io i => cases hp
  | nw v => cases hp
  | va v =>
    have h : Rep X.K X.mg F y v := h
    have hv : typ v ∈ ["NoneType", "bool", "int", "str", "list", "tuple", "dict"] := by cases v <;> first | (cases hp; done) | simp [typ]
    have hk := ty_of e (h.b e) hv (fun ns z => by subst z; cases hp) (fun c fs z => by subst z; cases hp)
    refine ⟨.type (typ v), fun pins σ s u I ry => ?_, ?_⟩
    · exact (fun ⟨P, Z, p, _⟩ => Z.ty _ _ I.kIn p : _ → PySem.W.Looks (model X.prog X.w) s.heap (typeOf u) (.type (typ v))) (hk pins σ s u I ry)
    · unfold PySem.W.notFirst
      rw [sub_kit hv]
      simp
theorem sp_two {d : Def} {f cn m : String} {ne : Bool} {n : Nat} {σ : L2.St} {H : Hp} {Q : VK} (hd : T.fn f = some d) (hio : d.io = [false, false]) (hn : ∀ ss o, mkc f ss = some o → ss.length = n) (hm : m ≠ "__str__") (h : tE X.K X.mg W T cal mkc (.sp f cn m ne [ea, eb]) σ H Q) :
    tArg X W T cal mkc (d.io.getD 0 false) ea σ H fun x H1 => tArg X W T cal mkc ((d.io.drop 1).getD 0 false) eb σ H1 fun y H2 => rSpU X mkc ne cn f n x y H2 Q := by
  obtain ⟨G, Z, F0, ρ, A, q⟩ := h
  have e2 : ∀ (i : List Bool) (ρ : Ro), evAs T cal mkc i [] ρ = EV.pur [] ρ := fun i ρ => by cases i <;> rfl
  have e1 : evE T cal mkc (.sp f cn m ne [ea, eb]) ρ = EV.bnd (argOf (d.io.getD 0 false) ea (evE T cal mkc ea) ρ) fun r ρ1 => if r.isN then none else EV.bnd (argOf ((d.io.drop 1).getD 0 false) eb (evE T cal mkc eb) ρ1) fun r2 ρ2 => (match spAs ρ2 cn m [r, r2] with
      | some bs => EV.bnd (EV.quiet (callF mkc d.ps f [] bs ρ2)) (spEnd m ne)
      | none => none) := by
    simp only [evE, hd]
    simp only [evAs, e2, bnd_assoc, List.isEmpty_cons, Bool.not_false, Bool.and_true, List.isEmpty_nil, Bool.not_true, Bool.and_false, Bool.false_eq_true, if_false, bnd_pur]
    congr 1
    funext r ρ1
    split
    · rfl
    · simp [bnd_assoc]
      all_goals rfl
  rw [e1] at q
  refine ⟨G, Z, F0, ρ, A, q.bnd.imp fun F1 H1 ρ1 r A1 e1 q1 x rx => ?_⟩
  split at q1
  · exact q1.elim
  · rename_i hrn
    refine ⟨G, Z, F1, ρ1, A1, q1.bnd.imp fun F2 H2 ρ2 r2 A2 e2' q2 y ry => ?_⟩
    have rx2 : AtA X.K X.mg G F2 σ H2 ρ2 x r := rx.mono e2' fun v z => hrn (by rw [z]; rfl)
    have fin : ∀ bs zs, spAs ρ2 cn m [r, r2] = some bs → Paired (AtA X.K X.mg G F2 σ H2 ρ2) zs bs → spF X.K X.mg mkc n f zs H2 (fun v H' => ∃ b, v = .bl b ∧ Q (.bl (b != ne)) H') fun c d H' => W0 c d [] H' := by
      intro bs zs hbs he
      rw [hbs] at q2
      refine (?_ : spF X.K X.mg mkc n f zs H2 (fun v H' => ∃ b, v = .bl b ∧ Q (.bl (b != ne)) H') fun c d H' => W0 c d σ H')
      refine call_at A2 he (C := fun F3 H3 ρ3 r => Aft X.K X.mg W G Z F3 σ (spEnd m ne r ρ3) (fun F' H' ρ' r => ∀ x, ResR X.K X.mg G F' σ H' ρ' x r → Q x H') ∧ Abs X.K X.mg G Z F3 σ H3 ρ3) (fun F3 H3 ρ3 r hh x rx' => ?_) hn ((Aft.quiet q2).imp fun F3 H3 ρ3 r A3 e3 q3 => ⟨q3, A3⟩)
      obtain ⟨q3, A3⟩ := hh
      unfold spEnd at q3
      split at q3
      · split at q3
        · rename_i hm2
          exact absurd hm2 hm
        · exact q3.elim
      · rename_i b
        split at q3
        · exact q3.elim
        · have rx' : Rep X.K X.mg F3 x (.bl b) := rx'
          cases rx'
          exact ⟨b, rfl, q3.pur A3 _ (.bl _)⟩
      · exact q3.elim
    cases hsp : spAs ρ2 cn m [r, r2] with
    | none => rw [hsp] at q2; exact q2.elim
    | some bs =>
      have hsp' := hsp
      simp only [spAs] at hsp
      split at hsp
      · rename_i hc
        cases hsp
        obtain ⟨hc1, hc2⟩ := Bool.and_eq_true_iff.mp hc
        obtain ⟨a, dx, fs, rfl, h1, _⟩ := isObj_at A2 rx2 hc1
        rcases Bool.or_eq_true_iff.mp hc2 with hc2 | hc2
        · obtain ⟨t, ht, hnf⟩ := pln_ty A2.sub ry hc2 (GH.clsA X.mg (Str.ofString cn))
          exact .inl ⟨a, dx, fs, t, rfl, h1, ht, hnf, fin _ _ hsp' (.cons rx2 (.cons ry .nil))⟩
        · obtain ⟨b, dy, gs, rfl, h2, _⟩ := isObj_at A2 ry hc2
          refine .inl ⟨a, dx, fs, .ref (GH.clsA X.mg (Str.ofString cn)), rfl, h1, fun pins σ s u I ry => ?_, by simp [PySem.W.notFirst], fin _ _ hsp' (.cons rx2 (.cons ry .nil))⟩
          obtain rfl : u = Value.ref b := ry
          obtain ⟨mA, J, _⟩ := ins_get I.hok h2
          obtain ⟨od, J, _⟩ := J.look
          exact J.type
      · split at hsp
        · rename_i hc
          cases hsp
          obtain ⟨hc1, hc2⟩ := Bool.and_eq_true_iff.mp hc
          obtain ⟨b, dy, gs, rfl, h2, _⟩ := isObj_at A2 ry hc2
          exact .inr ⟨b, dy, gs, rfl, h2, pln_plv A2.sub rx2 hc1, fin _ _ hsp' (.cons ry (.cons rx2 .nil))⟩
        · cases hsp
theorem eqE {d : Def} {cn nm : String} {ps : List Str} (O : OkME X.prog X.w X.K X.mg X.base k cn "__eq__" nm ps mkc) (gd : X.A.guards = some []) (hr : Room (k + 1) X.A) (hd : T.fn nm = some d) (hne : GH.NeAt X.K X.mg (Str.ofString cn)) (ha : PE X a (tArg X W T cal mkc (d.io.getD 0 false) ea)) (hb : PE X b (tArg X W T cal mkc ((d.io.drop 1).getD 0 false) eb)) (hio : d.io = [false, false]) :
    PE X (.Compare a [.Eq] [b] pos) (tE X.K X.mg W T cal mkc (.sp nm cn "__eq__" false [ea, eb])) :=
  (pe_cmpR (op_suE O gd hr hne) ha hb (nomark _)).imp fun _ _ _ q => sp_two hd hio O.ln (by decide) q
theorem eqN {d : Def} {cn nm : String} {ps : List Str} (O : OkME X.prog X.w X.K X.mg X.base k cn "__eq__" nm ps mkc) (gd : X.A.guards = some []) (hr : Room (k + 1) X.A) (hd : T.fn nm = some d) (hne : GH.NeAt X.K X.mg (Str.ofString cn)) (ha : PE X a (tArg X W T cal mkc (d.io.getD 0 false) ea)) (hb : PE X b (tArg X W T cal mkc ((d.io.drop 1).getD 0 false) eb)) (hio : d.io = [false, false]) :
    PE X (.Compare a [.NotEq] [b] pos) (tE X.K X.mg W T cal mkc (.sp nm cn "__eq__" true [ea, eb])) :=
  (pe_cmpR (op_suN O gd hr hne) ha hb (nomark _)).imp fun _ _ _ q => sp_two hd hio O.ln (by decide) q
end
end EV
namespace EV
open PySem PySem.Spec PyProof.Rows L2
section
variable {pr : List Nat} {X : Cx} {W : WX} {T : Tab} {cal mkc : Cal} {a b c e tg : Expr} {ea eb ec : Ex} {pos p : Pos} {kr : Nat}
def lc2F (T : Tab) (cal mkc : Cal) (ns1 : List Nat) (t1 : Tg) (it1 : Iter) (e : Ex) : Ro → Res (List Val) := fun ρ => bnd (evIt T cal mkc it1 ρ) fun ys ρ2 => lcLoop (lcF T cal mkc none e) t1 ns1 ys (wipeR ρ2 ns1)
end
end EV
namespace EV
open PySem PySem.Spec PyProof.Rows L2
def upS (l : List Nat) : List Nat := (Txt.upper (toS l)).cps.toList
def prmUp (vs : List Val) : Option Slot := match vs with
  | [.str l] => if l.length ≤ 100000 then some (.fz (.str (upS l))) else none
  | _ => none
def prmRg (vs : List Val) : Option Slot := match vs with
  | [.int a, .int b] => (rngF [.int a, .int b]).map fun xs => .ow (.lst xs)
  | _ => none
def prmDc (kvs : List (String × String)) (vs : List Val) : Option Slot :=
  if vs.isEmpty then some (.ow (.dct (kvs.foldl (fun a p => put a (.str (asStr p.1)) (.str (asStr p.2))) []))) else none
section
variable {X : Cx} {W : WX} {T : Tab} {cal mkc : Cal} {a b c e o : Expr} {ea eb ec eo : Ex} {pos p p2 p3 : Pos}
def dcV (kvs : List (String × String)) : List (Key × V) := kvs.map fun p => (.inr (Str.ofString p.1), .str (Str.ofString p.2))
theorem rep_dc {F : Hp} : ∀ (kvs : List (String × String)) (ks : List (Key × V)) (vs : List (Val × Val)), RepK X.K X.mg F ks vs → RepK X.K X.mg F (mergeK ks (dcV kvs)) (kvs.foldl (fun a p => put a (.str (asStr p.1)) (.str (asStr p.2))) vs)
  | [], ks, vs, r => r
  | p :: kvs, ks, vs, r => rep_dc kvs _ _ (RepK.put (k := .inr (Str.ofString p.1)) r (by show Rep _ _ _ (V.str (Str.ofString p.2)) _; rw [← toS_as]; exact .str (asStr p.2)))
theorem tPairs_dc {σ : L2.St} {H : Hp} : ∀ (kvs : List (String × String)) (Q : List (V × V) → Hp → Prop), Q ((dcV kvs).map fun kv => (kV kv.1, kv.2)) H → tPairs (kvs.map fun p => ((fun _ H Q => Q (.str (Str.ofString p.1)) H : TE), (fun _ H Q => Q (.str (Str.ofString p.2)) H : TE))) σ H Q
  | [], Q, h => h
  | p :: kvs, Q, h => tPairs_dc kvs _ h
theorem sE_cdct {n : String} {kvs : List (String × String)} {keys : List (Option Expr)} {vals : List Expr} (hT : T.prm n = some (prmDc kvs)) (h : PPs X pos keys vals (kvs.map fun p => ((fun _ H Q => Q (.str (Str.ofString p.1)) H : TE), (fun _ H Q => Q (.str (Str.ofString p.2)) H : TE))))
    (h1 : keys.all (·.isSome) = true := by rfl) (h2 : keys.length = vals.length := by rfl) (h3 : keys ≠ [] := by simp) (h4 : keys.length ≤ 15 := by simp) (h5 : kvs.length ≤ 15 := by simp) : PE X (.Dict keys vals pos) (tE X.K X.mg W T cal mkc (.prim n [])) := by
  refine (pe_disp h h1 h2 h3 h4).imp fun σ H Q q p hp => ?_
  obtain ⟨G, Z, F, ρ, A, q⟩ := q
  have e1 : evE T cal mkc (.prim n []) ρ = EV.pur (.ow (.dct (kvs.foldl (fun a p => put a (.str (asStr p.1)) (.str (asStr p.2))) []))) ρ := by
    simp only [evE, hT, evEs, bnd_pur]; rfl
  rw [e1] at q
  obtain ⟨A1, hF, hG, hl⟩ := A.newO (o := .dK []) hp
  refine tPairs_dc kvs _ ⟨upd_same, dcV kvs, rfl, by unfold dcV; rw [List.length_map]; exact h5, ?_⟩
  exact q F _ (A1.wr hF hG hl ⟨_, upd_same, by nofun, by nofun⟩) (Ex'.refl F) _ ⟨p, rfl, hG, .dk hF upd_same (rep_dc kvs [] [] .nil), hl⟩
end
end EV
namespace EV
open PySem PySem.Spec PyProof.Rows L2 GH
def ir_is_integer : EV.Def := ⟨["value", "least", "greatest"], 3, [false, false, false], [(.ret (.and (.isi (.v 0) "int") (.and (.nt (.isi (.v 0) "bool")) (.chain .le .le (.v 1) (.v 0) (.v 2)))))]⟩
def ir_is_word_of : EV.Def := ⟨["value", "signs", "most"], 4, [false, false, false], [(.ret (.and (.isi (.v 0) "str") (.and (.cmp .le (.blt .len [(.v 0)]) (.v 2)) (.blt .all [(.lc [3] (.nm 3) (.seq (.v 0)) none (.cmp .isin (.v 3) (.v 1)))]))))]⟩
def ir_is_tuple_of : EV.Def := ⟨["value", "many"], 2, [false, false], [(.ret (.and (.isi (.v 0) "tuple") (.cmp .eq (.blt .len [(.v 0)]) (.v 1))))]⟩
def ir_are_letters : EV.Def := ⟨["value"], 3, [false], [(.ife (.or (.nt (.call "is_word_of" [(.v 0), (.g "LETTERS"), (.g "MOST_LETTERS")] [])) (.cmp .eq (.v 0) (.str ""))) [(.ret (.bl false))] []), (.ret (.blt .all [(.lc [1, 2] (.tp [(.nm 1), (.nm 2)]) (.zip (.v 0) (.slc (.v 0) (some (.int 1)) none)) none (.cmp .lt (.v 1) (.v 2)))]))]⟩
def ir_is_state : EV.Def := ⟨["value", "letters", "many"], 4, [false, false, false], [(.ife (.or (.nt (.call "is_tuple_of" [(.v 0), (.int 2)] [])) (.nt (.call "is_integer" [(.idx (.v 0) (.int 0)), (.int 0), (.g "MOST_COLOUR")] []))) [(.ret (.bl false))] []), (.ret (.and (.call "is_tuple_of" [(.idx (.v 0) (.int 1)), (.blt .len [(.v 1)])] []) (.blt .all [(.lc [3] (.nm 3) (.seq (.idx (.v 0) (.int 1))) none (.call "is_integer" [(.v 3), (.int 0), (.bin .sub (.v 2) (.int 1))] []))])))]⟩
def ir_digit_of : EV.Def := ⟨["text"], 1, [false], [(.ret (.ite (.and (.cmp .eq (.blt .len [(.v 0)]) (.int 1)) (.cmp .isin (.v 0) (.g "DIGITS"))) (.blt .int [(.v 0)]) .non))]⟩
def ir_state_of : EV.Def := ⟨["row"], 3, [false], [(.asg (.nm 1) (.bmt (.v 0) .split [(.str " ")])), (.ife (.or (.cmp .lt (.blt .len [(.v 1)]) (.int 2)) (.cmp .ne (.idx (.v 1) (.int 0)) (.str "state"))) [(.ret .non)] []), (.ret (.tup [(.call "digit_of" [(.idx (.v 1) (.int 1))] []), (.blt .tuple [(.lc [2] (.nm 2) (.seq (.slc (.v 1) (some (.int 2)) none)) none (.call "digit_of" [(.v 2)] []))])]))]⟩
def ir__law_bag : EV.Def := ⟨["_law_script", "_law_turn"], 5, [false, false], [(.asg (.nm 2) (.ite (.cmp .lt (.v 1) (.blt .len [(.v 0)])) (.idx (.v 0) (.v 1)) (.bin .add (.bin .mul (.int 29) (.v 1)) (.int 8)))), (.asg (.nm 3) (.bin .add (.int 86028121) (.bin .mul (.int 34019) (.v 1)))), (.for_ (.nm 4) (.seq (.bin .add (.lst [(.v 2)]) (.slc (.v 0) none (some (.int 6))))) [(.asg (.nm 3) (.bin .mod (.blt .int [(.bin .add (.bin .mul (.v 3) (.int 43051)) (.v 4))]) (.int 2147483489)))]), (.ret (.lst [(.ite (.cmp .ge (.blt .abs [(.v 2)]) (.bin .pow (.int 10) (.int 18))) (.blt .abs [(.v 2)]) (.int 0)), (.v 3), (.int 0)]))]⟩
def ir__law_take : EV.Def := ⟨["_law_bag_here", "_law_many"], 3, [true, false], [(.ife (.cmp .gt (.idx (.v 0) (.int 0)) (.int 0)) [(.subp 0 (.int 0) 2 (.blt .divmod [(.idx (.v 0) (.int 0)), (.v 1)])), (.ret (.v 2))] []), (.sub 0 (.int 2) (.bin .add (.idx (.v 0) (.int 2)) (.int 1))), (.sub 0 (.int 1) (.bin .mod (.blt .int [(.bin .add (.bin .mul (.idx (.v 0) (.int 1)) (.int 40099)) (.bin .mul (.int 22003) (.idx (.v 0) (.int 2))))]) (.int 2147483489))), (.ret (.bin .mod (.blt .int [(.bin .fdiv (.idx (.v 0) (.int 1)) (.int 1024))]) (.v 1)))]⟩
def ir__law_signs : EV.Def := ⟨["_law_bag_here"], 1, [true], [(.ret (.idx (.lst [(.str "ab"), (.str "a"), (.str "abc"), (.str "xz"), (.str "q"), (.str "mno"), (.str "ab"), (.str "hy")]) (.call "_law_take" [(.v 0), (.int 8)] [])))]⟩
def ir__law_rows : EV.Def := ⟨["_law_bag_here", "_law_signs_here", "_law_most"], 11, [true, false, false], [(.par [3, 4, 5] [(.bin .add (.int 1) (.call "_law_take" [(.v 0), (.v 2)] [])), (.lst []), (.idx (.lst [(.int 2), (.int 3), (.int 4), (.int 7)]) (.call "_law_take" [(.v 0), (.int 4)] []))]), (.for_ (.nm 6) (.rng (.v 3)) [(.par [7, 8] [(.call "_law_take" [(.v 0), (.int 5)] []), (.call "_law_take" [(.v 0), (.v 5)] [])]), (.asg (.nm 9) (.lc [10] (.nm 10) (.seq (.v 1)) none (.ite (.cmp .eq (.v 7) (.int 0)) (.v 6) (.call "_law_take" [(.v 0), (.v 3)] [])))), (.ife (.cmp .eq (.v 7) (.int 1)) [(.sub 9 (.int 0) (.bin .mod (.blt .int [(.bin .add (.v 6) (.int 1))]) (.v 3)))] []), (.mut 4 .append [(.tup [(.v 8), (.blt .tuple [(.v 9)])])])]), (.ret (.blt .tuple [(.v 4)]))]⟩
def ir__law_page : EV.Def := ⟨["_law_signs_here", "_law_rows_here"], 6, [false, false], [(.asg (.nm 2) (.lst [(.bin .add (.str "machine ") (.v 0))])), (.for_ (.tp [(.nm 3), (.nm 4)]) (.seq (.v 1)) [(.mut 2 .append [(.bmt (.str " ") .join [(.bin .add (.lst [(.str "state"), (.blt .str [(.v 3)])]) (.lc [5] (.nm 5) (.seq (.v 4)) none (.blt .str [(.v 5)])))])])]), (.ret (.bmt (.str "\n") .join [(.v 2)]))]⟩
def ir__law_pair_right : EV.Def := ⟨["_law_mine", "_law_mate", "_law_due"], 4, [false, false, false], [(.asg (.nm 3) (.lst [(.sp "Machine.__eq__" "Machine" "__eq__" false [(.v 0), (.v 1)]), (.sp "Machine.__eq__" "Machine" "__eq__" false [(.v 1), (.v 0)]), (.sp "Machine.__eq__" "Machine" "__eq__" true [(.v 0), (.v 1)]), (.sp "Machine.__eq__" "Machine" "__eq__" true [(.v 1), (.v 0)])])), (.ret (.cmp .eq (.blt .repr [(.v 3)]) (.blt .repr [(.lst [(.v 2), (.v 2), (.nt (.v 2)), (.nt (.v 2))])])))]⟩
def ir__law_others : EV.Def := ⟨["_law_bag_here", "_law_signs_here", "_law_rows_here"], 10, [true, false, false], [(.par [3, 4] [(.call "_law_take" [(.v 0), (.blt .len [(.v 2)])] []), (.bin .add (.int 1) (.call "_law_take" [(.v 0), (.int 6)] []))]), (.asg (.tp [(.nm 5), (.nm 6)]) (.idx (.v 2) (.v 3))), (.asg (.nm 7) (.call "_law_take" [(.v 0), (.blt .len [(.v 6)])] [])), (.asg (.nm 8) (.bin .add (.bin .add (.slc (.v 6) none (some (.v 7))) (.tup [(.bin .mod (.blt .int [(.bin .add (.idx (.v 6) (.v 7)) (.int 1))]) (.blt .len [(.v 2)]))])) (.slc (.v 6) (some (.bin .add (.v 7) (.int 1))) none))), (.asg (.nm 9) (.lst [(.tup [(.v 1), (.bin .add (.bin .add (.slc (.v 2) none (some (.v 3))) (.tup [(.tup [(.bin .mod (.blt .int [(.bin .add (.v 5) (.v 4))]) (.int 7)), (.v 6)])])) (.slc (.v 2) (some (.bin .add (.v 3) (.int 1))) none))])])), (.mut 9 .append [(.tup [(.v 1), (.bin .add (.bin .add (.slc (.v 2) none (some (.v 3))) (.tup [(.tup [(.v 5), (.v 8)])])) (.slc (.v 2) (some (.bin .add (.v 3) (.int 1))) none))])]), (.asg (.nm 9) (.bin .add (.v 9) (.lst [(.tup [(.bmt (.prim "dict0" []) .get [(.v 1), (.v 1)]), (.v 2)]), (.tup [(.v 1), (.rev (.v 2))])]))), (.ife (.cmp .lt (.blt .len [(.v 2)]) (.int 6)) [(.mut 9 .append [(.tup [(.v 1), (.bin .add (.v 2) (.tup [(.tup [(.v 5), (.v 6)])]))])])] []), (.ret (.v 9))]⟩
def ir__law_right : EV.Def := ⟨["_law_bag_here"], 8, [true], [(.asg (.nm 1) (.call "_law_signs" [(.v 0)] [])), (.asg (.nm 2) (.call "_law_rows" [(.v 0), (.v 1), (.int 6)] [])), (.asg (.nm 3) (.mk "Machine" [(.v 1), (.v 2)] [])), (.for_ (.tp [(.nm 4), (.nm 5)]) (.seq (.call "_law_others" [(.v 0), (.v 1), (.v 2)] [])) [(.asg (.nm 6) (.and (.cmp .eq (.v 4) (.v 1)) (.cmp .eq (.v 5) (.v 2)))), (.ife (.or (.nt (.call "_law_pair_right" [(.v 3), (.mk "Machine" [(.v 4), (.v 5)] []), (.v 6)] [])) (.cmp .ne (.prp "Machine" "states" "held_states" (.v 3)) (.v 2))) [(.ret (.bl false))] [])]), (.ife (.nt (.call "_law_pair_right" [(.v 3), (.cm "Machine.read" "Machine" [(.call "_law_page" [(.v 1), (.v 2)] [])] []), (.bl true)] [])) [(.ret (.bl false))] []), (.for_ (.nm 7) (.seq (.lst [(.sp "Machine.__str__" "Machine" "__str__" false [(.v 3)]), (.v 2), (.v 1), (.tup [(.v 1), (.v 2)]), .non, (.bl true), (.blt .len [(.v 2)]), (.dct [] []), (.lst [(.v 3)]), (.tup [(.v 3)])])) [(.ife (.nt (.call "_law_pair_right" [(.v 3), (.v 7), (.bl false)] [])) [(.ret (.bl false))] [])]), (.ret (.cmp .eq (.sp "Machine.__str__" "Machine" "__str__" false [(.v 3)]) (.call "_law_page" [(.v 1), (.v 2)] [])))]⟩
def ir__law_quiet : EV.Def := ⟨["_law_bag_here"], 2, [true], [(.tri [(.asg (.nm 1) (.call "_law_right" [(.v 0)] []))] [] none []), (.ret (.v 1))]⟩
def ir_law : EV.Def := ⟨["_law_script"], 2, [false], [(.ret (.blt .all [(.lc [1] (.nm 1) (.rng (.blt .max [(.int 2), (.blt .min [(.blt .len [(.v 0)]), (.int 5)])])) none (.call "_law_quiet" [(.call "_law_bag" [(.v 0), (.v 1)] [])] []))]))]⟩
def ir_Machine___init__ : EV.Def := ⟨["self", "letters", "states"], 5, [true, false, false], [(.ife (.nt (.call "are_letters" [(.v 1)] [])) [(.expr (.g "?"))] []), (.ife (.or (.nt (.isi (.v 2) "tuple")) (.cmp .eq (.blt .len [(.v 2)]) (.int 0))) [(.expr (.g "?"))] []), (.for_ (.tp [(.nm 3), (.nm 4)]) (.enum (.v 2)) [(.ife (.or (.cmp .eq (.v 3) (.g "MOST_STATES")) (.nt (.call "is_state" [(.v 4), (.v 1), (.blt .len [(.v 2)])] []))) [(.expr (.g "?"))] [])]), (.setf 0 "held_letters" (.v 1)), (.setf 0 "held_states" (.v 2))]⟩
def ir_Machine___len__ : EV.Def := ⟨["self"], 1, [false], [(.ret (.blt .len [(.fld (.v 0) "held_states")]))]⟩
def ir_Machine___bool__ : EV.Def := ⟨["self"], 1, [false], [(.ret (.bl true))]⟩
def ir_Machine___str__ : EV.Def := ⟨["self"], 5, [false], [(.asg (.nm 1) (.lc [3, 4] (.tp [(.nm 3), (.nm 4)]) (.seq (.fld (.v 0) "held_states")) none (.bmt (.str " ") .join [(.lst [(.str "state"), (.blt .str [(.v 3)]), (.star (.lc [2] (.nm 2) (.seq (.v 4)) none (.blt .str [(.v 2)])))])]))), (.ret (.bmt (.str "\n") .join [(.lst [(.bin .add (.str "machine ") (.fld (.v 0) "held_letters")), (.star (.v 1))])]))]⟩
def ir_Machine___eq__ : EV.Def := ⟨["self", "other"], 2, [false, false], [(.ret (.and (.isi (.v 1) "Machine") (.cmp .eq (.sp "Machine.__str__" "Machine" "__str__" false [(.v 0)]) (.sp "Machine.__str__" "Machine" "__str__" false [(.v 1)]))))]⟩
def ir_Machine_read : EV.Def := ⟨["cls", "text"], 7, [false, false], [(.ife (.nt (.isi (.v 1) "str")) [(.expr (.g "?"))] []), (.hd 2 3 (.bmt (.v 1) .split [(.str "\n")])), (.asg (.nm 4) (.bmt (.v 2) .split [(.str " ")])), (.ife (.or (.cmp .ne (.blt .len [(.v 4)]) (.int 2)) (.cmp .ne (.idx (.v 4) (.int 0)) (.str "machine"))) [(.expr (.g "?"))] []), (.tri [(.asg (.nm 5) (.mkv 0 "Machine" [(.idx (.v 4) (.int 1)), (.blt .tuple [(.lc [6] (.nm 6) (.seq (.v 3)) none (.call "state_of" [(.v 6)] []))])]))] [] none []), (.ret (.v 5))]⟩
def irs : List (String × EV.Def) := [("is_integer", ir_is_integer), ("is_word_of", ir_is_word_of), ("is_tuple_of", ir_is_tuple_of), ("are_letters", ir_are_letters), ("is_state", ir_is_state), ("digit_of", ir_digit_of), ("state_of", ir_state_of), ("_law_bag", ir__law_bag), ("_law_take", ir__law_take), ("_law_signs", ir__law_signs), ("_law_rows", ir__law_rows), ("_law_page", ir__law_page), ("_law_pair_right", ir__law_pair_right), ("_law_others", ir__law_others), ("_law_right", ir__law_right), ("_law_quiet", ir__law_quiet), ("law", ir_law), ("Machine.__init__", ir_Machine___init__), ("Machine.__len__", ir_Machine___len__), ("Machine.__bool__", ir_Machine___bool__), ("Machine.__str__", ir_Machine___str__), ("Machine.__eq__", ir_Machine___eq__), ("Machine.read", ir_Machine_read)]
def irc : List (String × Val) := [("MOST_LETTERS", .int 3), ("MOST_STATES", .int 6), ("MOST_COLOUR", .int 6), ("LETTERS", .str (asStr "abcdefghijklmnopqrstuvwxyz")), ("DIGITS", .str (asStr "0123456789"))]
def irf : List (String × String) := [("Machine", "held_letters"), ("Machine", "held_states")]
def irp : List (String × (List Val → Option Slot)) := [("dict0", (prmDc [("ab", "ac"), ("a", "b"), ("abc", "abd")]))]
def tab : Tab := ⟨fun f => irs.lookup f, fun x => irc.lookup x, fun _ => none, fun c f => irf.contains (c, f), fun c p f => c == "Machine" && ((p == "letters" && f == "held_letters") || (p == "states" && f == "held_states")), fun c => c == "Machine", fun p => irp.lookup p, fun _ => none⟩
theorem tab_ext (f : String) : tab.ext f = none := rfl
theorem tab_no : tab.cst "?" = none := by kernel_rfl
theorem tab_letters : tab.prp "Machine" "letters" "held_letters" = true := by kernel_rfl
theorem tab_states : tab.prp "Machine" "states" "held_states" = true := by kernel_rfl
theorem ti_bool : tab.isc "bool" = false := by kernel_rfl
theorem ti_int : tab.isc "int" = false := by kernel_rfl
theorem ti_str : tab.isc "str" = false := by kernel_rfl
theorem ti_tuple : tab.isc "tuple" = false := by kernel_rfl
theorem ti_list : tab.isc "list" = false := by kernel_rfl
theorem tp_dict0 : tab.prm "dict0" = some (prmDc [("ab", "ac"), ("a", "b"), ("abc", "abd")]) := by kernel_rfl
theorem fn_is_integer : tab.fn "is_integer" = some ir_is_integer := by kernel_rfl
theorem fn_is_word_of : tab.fn "is_word_of" = some ir_is_word_of := by kernel_rfl
theorem fn_is_tuple_of : tab.fn "is_tuple_of" = some ir_is_tuple_of := by kernel_rfl
theorem fn_are_letters : tab.fn "are_letters" = some ir_are_letters := by kernel_rfl
theorem fn_is_state : tab.fn "is_state" = some ir_is_state := by kernel_rfl
theorem fn_digit_of : tab.fn "digit_of" = some ir_digit_of := by kernel_rfl
theorem fn_state_of : tab.fn "state_of" = some ir_state_of := by kernel_rfl
theorem fn__law_bag : tab.fn "_law_bag" = some ir__law_bag := by kernel_rfl
theorem fn__law_take : tab.fn "_law_take" = some ir__law_take := by kernel_rfl
theorem fn__law_signs : tab.fn "_law_signs" = some ir__law_signs := by kernel_rfl
theorem fn__law_rows : tab.fn "_law_rows" = some ir__law_rows := by kernel_rfl
theorem fn__law_page : tab.fn "_law_page" = some ir__law_page := by kernel_rfl
theorem fn__law_pair_right : tab.fn "_law_pair_right" = some ir__law_pair_right := by kernel_rfl
theorem fn__law_others : tab.fn "_law_others" = some ir__law_others := by kernel_rfl
theorem fn__law_right : tab.fn "_law_right" = some ir__law_right := by kernel_rfl
theorem fn__law_quiet : tab.fn "_law_quiet" = some ir__law_quiet := by kernel_rfl
theorem fn_law : tab.fn "law" = some ir_law := by kernel_rfl
theorem fn_Machine___init__ : tab.fn "Machine.__init__" = some ir_Machine___init__ := by kernel_rfl
theorem fn_Machine___len__ : tab.fn "Machine.__len__" = some ir_Machine___len__ := by kernel_rfl
theorem fn_Machine___bool__ : tab.fn "Machine.__bool__" = some ir_Machine___bool__ := by kernel_rfl
theorem fn_Machine___str__ : tab.fn "Machine.__str__" = some ir_Machine___str__ := by kernel_rfl
theorem fn_Machine___eq__ : tab.fn "Machine.__eq__" = some ir_Machine___eq__ := by kernel_rfl
theorem fn_Machine_read : tab.fn "Machine.read" = some ir_Machine_read := by kernel_rfl
theorem tc_MOST_LETTERS : tab.cst "MOST_LETTERS" = some (.int 3) := by kernel_rfl
theorem tc_MOST_STATES : tab.cst "MOST_STATES" = some (.int 6) := by kernel_rfl
theorem tc_MOST_COLOUR : tab.cst "MOST_COLOUR" = some (.int 6) := by kernel_rfl
theorem tc_LETTERS : tab.cst "LETTERS" = some (.str (asStr "abcdefghijklmnopqrstuvwxyz")) := by kernel_rfl
theorem tc_DIGITS : tab.cst "DIGITS" = some (.str (asStr "0123456789")) := by kernel_rfl
section
variable {P : Program} {w : World} {K : PySem.W.Frag} {mg : Str → Option Value} {base : Heap} {cal mkc : Cal} {k : Nat}
theorem fl_held_letters (T : Txt K mg) : ∀ c, tab.fld c "held_letters" = true → Cls K (GH.clsA mg (Str.ofString c)) ∧ NoAttr K (GH.clsA mg (Str.ofString c)) (Str.ofString "held_letters") := by
  intro c h
  have h : (c, "held_letters") ∈ irf := by simpa [tab] using h
  simp only [irf, List.mem_cons, Prod.mk.injEq, List.not_mem_nil, or_false] at h
  rcases h with ⟨rfl, _⟩ | ⟨_, h⟩
  · exact ⟨T.M.cl, T.M.n1⟩
  · exact absurd h (by decide)
theorem fl_held_states (T : Txt K mg) : ∀ c, tab.fld c "held_states" = true → Cls K (GH.clsA mg (Str.ofString c)) ∧ NoAttr K (GH.clsA mg (Str.ofString c)) (Str.ofString "held_states") := by
  intro c h
  have h : (c, "held_states") ∈ irf := by simpa [tab] using h
  simp only [irf, List.mem_cons, Prod.mk.injEq, List.not_mem_nil, or_false] at h
  rcases h with ⟨_, h⟩ | ⟨rfl, _⟩
  · exact absurd h (by decide)
  · exact ⟨T.M.cl, T.M.n2⟩
theorem p_states (T : Txt K mg) : PropAt K mg "Machine" "states" "held_states" := (mach_prop T.M sc_Machine_letters ⟨_, _, _, rfl⟩ sc_Machine_states ⟨_, _, _, rfl⟩ (fun st fa fd nm q F h => by rcases h with rfl | rfl <;> exact binds_of F (fun _ _ _ _ _ _ us hl => match us, hl with | [_], _ => rfl))).2
structure Good (P : Program) (w : World) (K : PySem.W.Frag) (mg : Str → Option Value) (base : Heap) (k : Nat) (cal : Cal) : Prop where
  f_is_integer : OkE P w K mg base k "is_integer" "is_integer" ["value", "least", "greatest"] cal
  f_is_word_of : OkE P w K mg base k "is_word_of" "is_word_of" ["value", "signs", "most"] cal
  f_is_tuple_of : OkE P w K mg base k "is_tuple_of" "is_tuple_of" ["value", "many"] cal
  f_are_letters : OkE P w K mg base k "are_letters" "are_letters" ["value"] cal
  f_is_state : OkE P w K mg base k "is_state" "is_state" ["value", "letters", "many"] cal
  f_digit_of : OkE P w K mg base k "digit_of" "digit_of" ["text"] cal
  f_state_of : OkE P w K mg base k "state_of" "state_of" ["row"] cal
  f__law_bag : OkE P w K mg base k "_law_bag" "_law_bag" ["_law_script", "_law_turn"] cal
  f__law_take : OkE P w K mg base k "_law_take" "_law_take" ["_law_bag_here", "_law_many"] cal
  f__law_signs : OkE P w K mg base k "_law_signs" "_law_signs" ["_law_bag_here"] cal
  f__law_rows : OkE P w K mg base k "_law_rows" "_law_rows" ["_law_bag_here", "_law_signs_here", "_law_most"] cal
  f__law_page : OkE P w K mg base k "_law_page" "_law_page" ["_law_signs_here", "_law_rows_here"] cal
  f__law_pair_right : OkE P w K mg base k "_law_pair_right" "_law_pair_right" ["_law_mine", "_law_mate", "_law_due"] cal
  f__law_others : OkE P w K mg base k "_law_others" "_law_others" ["_law_bag_here", "_law_signs_here", "_law_rows_here"] cal
  f__law_right : OkE P w K mg base k "_law_right" "_law_right" ["_law_bag_here"] cal
  f__law_quiet : OkE P w K mg base k "_law_quiet" "_law_quiet" ["_law_bag_here"] cal
  f_law : OkE P w K mg base k "law" "law" ["_law_script"] cal
  f_Machine___init__ : OkNE P w K mg base k "Machine" "Machine.__init__" ["self", "letters", "states"] cal
  f_Machine___len__ : OkME P w K mg base k "Machine" "__len__" "Machine.__len__" ["self"] cal
  f_Machine___bool__ : OkME P w K mg base k "Machine" "__bool__" "Machine.__bool__" ["self"] cal
  f_Machine___str__ : OkME P w K mg base k "Machine" "__str__" "Machine.__str__" ["self"] cal
  f_Machine___eq__ : OkME P w K mg base k "Machine" "__eq__" "Machine.__eq__" ["self", "other"] cal
  f_Machine_read : OkCE P w K mg base k "Machine" "read" "Machine.read" s_Machine_read "Machine.read" ["cls", "text"] cal
theorem b_is_integer (T : Txt K mg) (C : Good P w K mg base (k + 2) cal) (M : Good P w K mg base (k + 1) mkc) (f : Addr) (cdv : Value) (lkx : LkX K mg "is_integer" f cdv) (A : Around) (outer : List Env) (s : Shared) (H : Hp) (E : XK) (gd : A.guards = some []) (hr : Room (k + 2) (A.deeper (envOfC "is_integer" (defScope s_is_integer) s.heap.objs.size f cdv))) :
    PSs (cxOf (L2.CX P w) P w K mg base ["value", "least", "greatest"] "is_integer" (defScope s_is_integer) f cdv A outer s H E) (defBody s_is_integer) (tSs (cxOf (L2.CX P w) P w K mg base ["value", "least", "greatest"] "is_integer" (defScope s_is_integer) f cdv A outer s H E) (fun c d _ H' => E c d H') tab cal mkc [] ir_is_integer.body) := by
  have tk : Takes (cxOf (L2.CX P w) P w K mg base ["value", "least", "greatest"] "is_integer" (defScope s_is_integer) f cdv A outer s H E) (fun c d _ H' => E c d H') := takes_of rfl rfl rfl rfl
  have po : PassesOwn (model P w) (cxOf (L2.CX P w) P w K mg base ["value", "least", "greatest"] "is_integer" (defScope s_is_integer) f cdv A outer s H E).A (cxOf (L2.CX P w) P w K mg base ["value", "least", "greatest"] "is_integer" (defScope s_is_integer) f cdv A outer s H E).env (cxOf (L2.CX P w) P w K mg base ["value", "least", "greatest"] "is_integer" (defScope s_is_integer) f cdv A outer s H E).xe := passes_of rfl
  exact (sSs_cons (sS_ret (sE_and (sE_isi (t := "int") (.inl ⟨rfl, rfl⟩) (fun _ => ti_int) T.B.isinstance_ (pe_place (pv 0)) (pe_type T.B.int_ PyProof.Rows.boot_int)) (sE_and (sE_not (sE_isi (t := "bool") (.inl ⟨rfl, rfl⟩) (fun _ => ti_bool) T.B.isinstance_ (pe_place (pv 0)) (pe_type T.B.bool_ PyProof.Rows.boot_bool))) (pe_one (sE_chain (o := .le) (p := .le) hr (pe_place (pv 1)) (pe_place (pv 0)) (pe_place (pv 2)) (by rfl))))) nofun)
      sSs_nil)
theorem b_is_word_of (T : Txt K mg) (C : Good P w K mg base (k + 2) cal) (M : Good P w K mg base (k + 1) mkc) (f : Addr) (cdv : Value) (lkx : LkX K mg "is_word_of" f cdv) (A : Around) (outer : List Env) (s : Shared) (H : Hp) (E : XK) (gd : A.guards = some []) (hr : Room (k + 2) (A.deeper (envOfC "is_word_of" (defScope s_is_word_of) s.heap.objs.size f cdv))) :
    PSs (cxOf (L2.CX P w) P w K mg base ["value", "signs", "most", "sign"] "is_word_of" (defScope s_is_word_of) f cdv A outer s H E) (defBody s_is_word_of) (tSs (cxOf (L2.CX P w) P w K mg base ["value", "signs", "most", "sign"] "is_word_of" (defScope s_is_word_of) f cdv A outer s H E) (fun c d _ H' => E c d H') tab cal mkc [] ir_is_word_of.body) := by
  have tk : Takes (cxOf (L2.CX P w) P w K mg base ["value", "signs", "most", "sign"] "is_word_of" (defScope s_is_word_of) f cdv A outer s H E) (fun c d _ H' => E c d H') := takes_of rfl rfl rfl rfl
  have po : PassesOwn (model P w) (cxOf (L2.CX P w) P w K mg base ["value", "signs", "most", "sign"] "is_word_of" (defScope s_is_word_of) f cdv A outer s H E).A (cxOf (L2.CX P w) P w K mg base ["value", "signs", "most", "sign"] "is_word_of" (defScope s_is_word_of) f cdv A outer s H E).env (cxOf (L2.CX P w) P w K mg base ["value", "signs", "most", "sign"] "is_word_of" (defScope s_is_word_of) f cdv A outer s H E).xe := passes_of rfl
  exact (sSs_cons (sS_ret (sE_and (sE_isi (t := "str") (.inl ⟨rfl, rfl⟩) (fun _ => ti_str) T.B.isinstance_ (pe_place (pv 0)) (pe_type T.B.str_ PyProof.Rows.boot_str)) (sE_and (sE_cmp (o := .le) hr (oE (b1 cr_len T.B.len_ PySem.boot_len (pe_place (pv 0)))) (pe_place (pv 2)) (nomark _)) (pe_one (b1 (cr_allF rfl) T.B.all_ boot_all (oE (sE_lc rfl sc_is_word_of.nd (sI_seq (pe_name (pv 0))) (blkOk_by (own := [("sign", 3)]) (N := ["value", "signs", "most", "sign"]) (sc := defScope s_is_word_of) (by decide +kernel)) rfl (by decide) (fun _ _ _ _ _ => (sG_name (i := 3) sc_is_word_of.nd rfl (by first | exact .inl rfl | exact .inr rfl))) (fun _ _ _ _ _ => sC_none) (fun _ _ _ _ _ => (sE_cmp (o := .isin) hr (pe_place (pv 3)) (pe_place (pv 1)) (by rfl))))))))) nofun)
      sSs_nil)
theorem b_is_tuple_of (T : Txt K mg) (C : Good P w K mg base (k + 2) cal) (M : Good P w K mg base (k + 1) mkc) (f : Addr) (cdv : Value) (lkx : LkX K mg "is_tuple_of" f cdv) (A : Around) (outer : List Env) (s : Shared) (H : Hp) (E : XK) (gd : A.guards = some []) (hr : Room (k + 2) (A.deeper (envOfC "is_tuple_of" (defScope s_is_tuple_of) s.heap.objs.size f cdv))) :
    PSs (cxOf (L2.CX P w) P w K mg base ["value", "many"] "is_tuple_of" (defScope s_is_tuple_of) f cdv A outer s H E) (defBody s_is_tuple_of) (tSs (cxOf (L2.CX P w) P w K mg base ["value", "many"] "is_tuple_of" (defScope s_is_tuple_of) f cdv A outer s H E) (fun c d _ H' => E c d H') tab cal mkc [] ir_is_tuple_of.body) := by
  have tk : Takes (cxOf (L2.CX P w) P w K mg base ["value", "many"] "is_tuple_of" (defScope s_is_tuple_of) f cdv A outer s H E) (fun c d _ H' => E c d H') := takes_of rfl rfl rfl rfl
  have po : PassesOwn (model P w) (cxOf (L2.CX P w) P w K mg base ["value", "many"] "is_tuple_of" (defScope s_is_tuple_of) f cdv A outer s H E).A (cxOf (L2.CX P w) P w K mg base ["value", "many"] "is_tuple_of" (defScope s_is_tuple_of) f cdv A outer s H E).env (cxOf (L2.CX P w) P w K mg base ["value", "many"] "is_tuple_of" (defScope s_is_tuple_of) f cdv A outer s H E).xe := passes_of rfl
  exact (sSs_cons (sS_ret (sE_and (sE_isi (t := "tuple") (.inl ⟨rfl, rfl⟩) (fun _ => ti_tuple) T.B.isinstance_ (pe_place (pv 0)) (pe_type T.B.tuple_ PyProof.Rows.boot_tuple)) (pe_one (sE_cmp (o := .eq) hr (oE (b1 cr_len T.B.len_ PySem.boot_len (pe_place (pv 0)))) (pe_place (pv 1)) (nomark _)))) nofun)
      sSs_nil)
theorem b_are_letters (T : Txt K mg) (C : Good P w K mg base (k + 2) cal) (M : Good P w K mg base (k + 1) mkc) (f : Addr) (cdv : Value) (lkx : LkX K mg "are_letters" f cdv) (A : Around) (outer : List Env) (s : Shared) (H : Hp) (E : XK) (gd : A.guards = some []) (hr : Room (k + 2) (A.deeper (envOfC "are_letters" (defScope s_are_letters) s.heap.objs.size f cdv))) :
    PSs (cxOf (L2.CX P w) P w K mg base ["value", "one", "other"] "are_letters" (defScope s_are_letters) f cdv A outer s H E) (defBody s_are_letters) (tSs (cxOf (L2.CX P w) P w K mg base ["value", "one", "other"] "are_letters" (defScope s_are_letters) f cdv A outer s H E) (fun c d _ H' => E c d H') tab cal mkc [] ir_are_letters.body) := by
  have tk : Takes (cxOf (L2.CX P w) P w K mg base ["value", "one", "other"] "are_letters" (defScope s_are_letters) f cdv A outer s H E) (fun c d _ H' => E c d H') := takes_of rfl rfl rfl rfl
  have po : PassesOwn (model P w) (cxOf (L2.CX P w) P w K mg base ["value", "one", "other"] "are_letters" (defScope s_are_letters) f cdv A outer s H E).A (cxOf (L2.CX P w) P w K mg base ["value", "one", "other"] "are_letters" (defScope s_are_letters) f cdv A outer s H E).env (cxOf (L2.CX P w) P w K mg base ["value", "one", "other"] "are_letters" (defScope s_are_letters) f cdv A outer s H E).xe := passes_of rfl
  exact (sSs_cons (sS_if (PW.pt (sW_or (sT_not (sT_val (cE C.f_is_word_of gd hr tk fn_is_word_of (sArgs_cons nofun (aV (pv 0)) (sArgs_cons nofun (aE (cG T.c_LETTERS (fun F => by rw [← toS_as]; exact .str _) tc_LETTERS)) (sArgs_one (aE (cG T.c_MOST_LETTERS (fun _ => .int 3) tc_MOST_LETTERS)) rfl) rfl) rfl)) (by intro _; rfl))) (pw_or1 (sT_cmp (o := .eq) hr (pe_place (pv 0)) (oE (cS (s := ""))) (nomark _)))))
      (sSs_cons (sS_ret cB nofun)
      sSs_nil)
      sSs_nil)
      (sSs_cons (sS_ret (b1 (cr_allF rfl) T.B.all_ boot_all (oE (sE_lc rfl sc_are_letters.nd (sI_zip (by rfl) T.B.zip_ (pe_name (pv 0)) (sE_slc (pe_place (pv 0)) (sO_some cI) sO_none) (by rfl) (by rfl) (by rfl)) (blkOk_by (own := [("one", 1), ("other", 2)]) (N := ["value", "one", "other"]) (sc := defScope s_are_letters) (by decide +kernel)) rfl (by decide) (fun _ _ _ _ _ => (sG_tup rfl (sGs_cons (sG_name (i := 1) sc_are_letters.nd rfl (by first | exact .inl rfl | exact .inr rfl)) (sGs_cons (sG_name (i := 2) sc_are_letters.nd rfl (by first | exact .inl rfl | exact .inr rfl)) sGs_nil)))) (fun _ _ _ _ _ => sC_none) (fun _ _ _ _ _ => (sE_cmp (o := .lt) hr (pe_place (pv 1)) (pe_place (pv 2)) (nomark _)))))) nofun)
      sSs_nil))
theorem b_is_state (T : Txt K mg) (C : Good P w K mg base (k + 2) cal) (M : Good P w K mg base (k + 1) mkc) (f : Addr) (cdv : Value) (lkx : LkX K mg "is_state" f cdv) (A : Around) (outer : List Env) (s : Shared) (H : Hp) (E : XK) (gd : A.guards = some []) (hr : Room (k + 2) (A.deeper (envOfC "is_state" (defScope s_is_state) s.heap.objs.size f cdv))) :
    PSs (cxOf (L2.CX P w) P w K mg base ["value", "letters", "many", "target"] "is_state" (defScope s_is_state) f cdv A outer s H E) (defBody s_is_state) (tSs (cxOf (L2.CX P w) P w K mg base ["value", "letters", "many", "target"] "is_state" (defScope s_is_state) f cdv A outer s H E) (fun c d _ H' => E c d H') tab cal mkc [] ir_is_state.body) := by
  have tk : Takes (cxOf (L2.CX P w) P w K mg base ["value", "letters", "many", "target"] "is_state" (defScope s_is_state) f cdv A outer s H E) (fun c d _ H' => E c d H') := takes_of rfl rfl rfl rfl
  have po : PassesOwn (model P w) (cxOf (L2.CX P w) P w K mg base ["value", "letters", "many", "target"] "is_state" (defScope s_is_state) f cdv A outer s H E).A (cxOf (L2.CX P w) P w K mg base ["value", "letters", "many", "target"] "is_state" (defScope s_is_state) f cdv A outer s H E).env (cxOf (L2.CX P w) P w K mg base ["value", "letters", "many", "target"] "is_state" (defScope s_is_state) f cdv A outer s H E).xe := passes_of rfl
  exact (sSs_cons (sS_if (PW.pt (sW_or (sT_not (sT_val (cE C.f_is_tuple_of gd hr tk fn_is_tuple_of (sArgs_cons nofun (aV (pv 0)) (sArgs_one (aE cI) rfl) rfl)) (by intro _; rfl))) (pw_or1 (sT_not (sT_val (cE C.f_is_integer gd hr tk fn_is_integer (sArgs_cons nofun (aE (sE_idx hr (pe_place (pv 0)) (oE cI) (fun _ _ => rfl))) (sArgs_cons nofun (aE cI) (sArgs_one (aE (cG T.c_MOST_COLOUR (fun _ => .int 6) tc_MOST_COLOUR)) rfl) rfl) rfl)) (by intro _; rfl))))))
      (sSs_cons (sS_ret cB nofun)
      sSs_nil)
      sSs_nil)
      (sSs_cons (sS_ret (sE_and (cE C.f_is_tuple_of gd hr tk fn_is_tuple_of (sArgs_cons nofun (aE (sE_idx hr (pe_place (pv 0)) (oE cI) (fun _ _ => rfl))) (sArgs_one (aE (b1 cr_len T.B.len_ PySem.boot_len (pe_place (pv 1)))) rfl) rfl)) (pe_one (b1 (cr_allF rfl) T.B.all_ boot_all (oE (sE_lc rfl sc_is_state.nd (sI_seq (sE_idx hr (pe_place (pv 0)) (oE cI) (fun _ _ => rfl))) (blkOk_by (own := [("target", 3)]) (N := ["value", "letters", "many", "target"]) (sc := defScope s_is_state) (by decide +kernel)) rfl (by decide) (fun _ _ _ _ _ => (sG_name (i := 3) sc_is_state.nd rfl (by first | exact .inl rfl | exact .inr rfl))) (fun _ _ _ _ _ => sC_none) (fun _ _ _ _ _ => (cE C.f_is_integer gd hr takesW0 fn_is_integer (sArgs_cons nofun (aV (pv 3)) (sArgs_cons nofun (aE cI) (sArgs_one (aE (sE_bin (o := .sub) (pe_place (pv 2)) (oE cI))) rfl) rfl) rfl)))))))) nofun)
      sSs_nil))
theorem b_digit_of (T : Txt K mg) (C : Good P w K mg base (k + 2) cal) (M : Good P w K mg base (k + 1) mkc) (f : Addr) (cdv : Value) (lkx : LkX K mg "digit_of" f cdv) (A : Around) (outer : List Env) (s : Shared) (H : Hp) (E : XK) (gd : A.guards = some []) (hr : Room (k + 2) (A.deeper (envOfC "digit_of" (defScope s_digit_of) s.heap.objs.size f cdv))) :
    PSs (cxOf (L2.CX P w) P w K mg base ["text"] "digit_of" (defScope s_digit_of) f cdv A outer s H E) (defBody s_digit_of) (tSs (cxOf (L2.CX P w) P w K mg base ["text"] "digit_of" (defScope s_digit_of) f cdv A outer s H E) (fun c d _ H' => E c d H') tab cal mkc [] ir_digit_of.body) := by
  have tk : Takes (cxOf (L2.CX P w) P w K mg base ["text"] "digit_of" (defScope s_digit_of) f cdv A outer s H E) (fun c d _ H' => E c d H') := takes_of rfl rfl rfl rfl
  have po : PassesOwn (model P w) (cxOf (L2.CX P w) P w K mg base ["text"] "digit_of" (defScope s_digit_of) f cdv A outer s H E).A (cxOf (L2.CX P w) P w K mg base ["text"] "digit_of" (defScope s_digit_of) f cdv A outer s H E).env (cxOf (L2.CX P w) P w K mg base ["text"] "digit_of" (defScope s_digit_of) f cdv A outer s H E).xe := passes_of rfl
  exact (sSs_cons (sS_ret (sE_ite (PW.pt (sW_and (sT_cmp (o := .eq) hr (oE (b1 cr_len T.B.len_ PySem.boot_len (pe_place (pv 0)))) (oE cI) (nomark _)) (pw_and1 (sT_cmp (o := .isin) hr (pe_place (pv 0)) (oE (cG T.c_DIGITS (fun F => by rw [← toS_as]; exact .str _) tc_DIGITS)) (by rfl))))) (t1 cr_intF T.B.int_ PyProof.Rows.boot_int (pe_place (pv 0))) cN) nofun)
      sSs_nil)
theorem b_state_of (T : Txt K mg) (C : Good P w K mg base (k + 2) cal) (M : Good P w K mg base (k + 1) mkc) (f : Addr) (cdv : Value) (lkx : LkX K mg "state_of" f cdv) (A : Around) (outer : List Env) (s : Shared) (H : Hp) (E : XK) (gd : A.guards = some []) (hr : Room (k + 2) (A.deeper (envOfC "state_of" (defScope s_state_of) s.heap.objs.size f cdv))) :
    PSs (cxOf (L2.CX P w) P w K mg base ["row", "words", "word"] "state_of" (defScope s_state_of) f cdv A outer s H E) (defBody s_state_of) (tSs (cxOf (L2.CX P w) P w K mg base ["row", "words", "word"] "state_of" (defScope s_state_of) f cdv A outer s H E) (fun c d _ H' => E c d H') tab cal mkc [] ir_state_of.body) := by
  have tk : Takes (cxOf (L2.CX P w) P w K mg base ["row", "words", "word"] "state_of" (defScope s_state_of) f cdv A outer s H E) (fun c d _ H' => E c d H') := takes_of rfl rfl rfl rfl
  have po : PassesOwn (model P w) (cxOf (L2.CX P w) P w K mg base ["row", "words", "word"] "state_of" (defScope s_state_of) f cdv A outer s H E).A (cxOf (L2.CX P w) P w K mg base ["row", "words", "word"] "state_of" (defScope s_state_of) f cdv A outer s H E).env (cxOf (L2.CX P w) P w K mg base ["row", "words", "word"] "state_of" (defScope s_state_of) f cdv A outer s H E).xe := passes_of rfl
  exact (sSs_cons (sS_set (i := 1) (by decide) sc_state_of.nd rfl (by first | exact .inl rfl | exact .inr rfl) (sE_split (pe_place (pv 0)) (sA_cons (cS (s := " ")) sA_nil rfl nofun)))
      (sSs_cons (sS_if (PW.pt (sW_or (sT_cmp (o := .lt) hr (oE (b1 cr_len T.B.len_ PySem.boot_len (pe_place (pv 1)))) (oE cI) (nomark _)) (pw_or1 (sT_cmp (o := .ne) hr (oE (sE_idx hr (pe_place (pv 1)) (oE cI) (fun _ _ => rfl))) (oE (cS (s := "state"))) (nomark _)))))
      (sSs_cons (sS_ret cN nofun)
      sSs_nil)
      sSs_nil)
      (sSs_cons (sS_ret (sE_tup (sA_cons (cE C.f_digit_of gd hr tk fn_digit_of (sArgs_one (aE (sE_idx hr (pe_place (pv 1)) (oE cI) (fun _ _ => rfl))) rfl)) (sA_cons (t1 cr_tupleF T.B.tuple_ PyProof.Rows.boot_tuple (oE (sE_lc rfl sc_state_of.nd (sI_seq (sE_slc (pe_place (pv 1)) (sO_some cI) sO_none)) (blkOk_by (own := [("word", 2)]) (N := ["row", "words", "word"]) (sc := defScope s_state_of) (by decide +kernel)) rfl (by decide) (fun _ _ _ _ _ => (sG_name (i := 2) sc_state_of.nd rfl (by first | exact .inl rfl | exact .inr rfl))) (fun _ _ _ _ _ => sC_none) (fun _ _ _ _ _ => (cE C.f_digit_of gd hr takesW0 fn_digit_of (sArgs_one (aV (pv 2)) rfl)))))) sA_nil rfl nofun) rfl nofun)) nofun)
      sSs_nil)))
theorem b__law_bag (T : Txt K mg) (C : Good P w K mg base (k + 2) cal) (M : Good P w K mg base (k + 1) mkc) (f : Addr) (cdv : Value) (lkx : LkX K mg "_law_bag" f cdv) (A : Around) (outer : List Env) (s : Shared) (H : Hp) (E : XK) (gd : A.guards = some []) (hr : Room (k + 2) (A.deeper (envOfC "_law_bag" (defScope s__law_bag) s.heap.objs.size f cdv))) :
    PSs (cxOf (L2.CX P w) P w K mg base ["_law_script", "_law_turn", "_law_figure", "_law_seed", "_law_each"] "_law_bag" (defScope s__law_bag) f cdv A outer s H E) (defBody s__law_bag) (tSs (cxOf (L2.CX P w) P w K mg base ["_law_script", "_law_turn", "_law_figure", "_law_seed", "_law_each"] "_law_bag" (defScope s__law_bag) f cdv A outer s H E) (fun c d _ H' => E c d H') tab cal mkc [] ir__law_bag.body) := by
  have tk : Takes (cxOf (L2.CX P w) P w K mg base ["_law_script", "_law_turn", "_law_figure", "_law_seed", "_law_each"] "_law_bag" (defScope s__law_bag) f cdv A outer s H E) (fun c d _ H' => E c d H') := takes_of rfl rfl rfl rfl
  have po : PassesOwn (model P w) (cxOf (L2.CX P w) P w K mg base ["_law_script", "_law_turn", "_law_figure", "_law_seed", "_law_each"] "_law_bag" (defScope s__law_bag) f cdv A outer s H E).A (cxOf (L2.CX P w) P w K mg base ["_law_script", "_law_turn", "_law_figure", "_law_seed", "_law_each"] "_law_bag" (defScope s__law_bag) f cdv A outer s H E).env (cxOf (L2.CX P w) P w K mg base ["_law_script", "_law_turn", "_law_figure", "_law_seed", "_law_each"] "_law_bag" (defScope s__law_bag) f cdv A outer s H E).xe := passes_of rfl
  exact (sSs_cons (sS_set (i := 2) (by decide) sc__law_bag.nd rfl (by first | exact .inl rfl | exact .inr rfl) (sE_ite (sT_cmp (o := .lt) hr (pe_place (pv 1)) (oE (b1 cr_len T.B.len_ PySem.boot_len (pe_place (pv 0)))) (nomark _)) (sE_idx hr (pe_place (pv 0)) (pe_place (pv 1)) (fun _ _ => rfl)) (sE_bin (o := .add) (oE (sE_bin (o := .mul) (oE cI) (pe_place (pv 1)))) (oE cI))))
      (sSs_cons (sS_set (i := 3) (by decide) sc__law_bag.nd rfl (by first | exact .inl rfl | exact .inr rfl) (sE_bin (o := .add) (oE cI) (oE (sE_bin (o := .mul) (oE cI) (pe_place (pv 1))))))
      (sSs_cons (sS_for (by decide) po rfl (sI_seq (sE_bin (o := .add) (oE (sE_lst (sA_cons (pe_name (pv 2)) sA_nil rfl nofun))) (oE (sE_slc (pe_place (pv 0)) sO_none (sO_some cI))))) (sG_name (i := 4) sc__law_bag.nd rfl (by first | exact .inl rfl | exact .inr rfl))
      (sSs_cons (sS_set (i := 3) (by decide) sc__law_bag.nd rfl (by first | exact .inl rfl | exact .inr rfl) (sE_bin (o := .mod) (oE (t1 cr_intF T.B.int_ PyProof.Rows.boot_int (oE (sE_bin (o := .add) (oE (sE_bin (o := .mul) (pe_place (pv 3)) (oE cI))) (pe_place (pv 4)))))) (oE cI)))
      sSs_nil))
      (sSs_cons (sS_ret (sE_lst (sA_cons (sE_ite (sT_cmp (o := .ge) hr (oE (b1 cr_absF T.B.abs_ PyProof.Rows.boot_abs (pe_place (pv 2)))) (oE (sE_bin (o := .pow) (oE cI) (oE cI))) (nomark _)) (b1 cr_absF T.B.abs_ PyProof.Rows.boot_abs (pe_place (pv 2))) cI) (sA_cons (pe_name (pv 3)) (sA_cons cI sA_nil rfl nofun) rfl nofun) rfl nofun)) nofun)
      sSs_nil))))
theorem b__law_take (T : Txt K mg) (C : Good P w K mg base (k + 2) cal) (M : Good P w K mg base (k + 1) mkc) (f : Addr) (cdv : Value) (lkx : LkX K mg "_law_take" f cdv) (A : Around) (outer : List Env) (s : Shared) (H : Hp) (E : XK) (gd : A.guards = some []) (hr : Room (k + 2) (A.deeper (envOfC "_law_take" (defScope s__law_take) s.heap.objs.size f cdv))) :
    PSs (cxOf (L2.CX P w) P w K mg base ["_law_bag_here", "_law_many", "_law_digit"] "_law_take" (defScope s__law_take) f cdv A outer s H E) (defBody s__law_take) (tSs (cxOf (L2.CX P w) P w K mg base ["_law_bag_here", "_law_many", "_law_digit"] "_law_take" (defScope s__law_take) f cdv A outer s H E) (fun c d _ H' => E c d H') tab cal mkc [0] ir__law_take.body) := by
  have tk : Takes (cxOf (L2.CX P w) P w K mg base ["_law_bag_here", "_law_many", "_law_digit"] "_law_take" (defScope s__law_take) f cdv A outer s H E) (fun c d _ H' => E c d H') := takes_of rfl rfl rfl rfl
  have po : PassesOwn (model P w) (cxOf (L2.CX P w) P w K mg base ["_law_bag_here", "_law_many", "_law_digit"] "_law_take" (defScope s__law_take) f cdv A outer s H E).A (cxOf (L2.CX P w) P w K mg base ["_law_bag_here", "_law_many", "_law_digit"] "_law_take" (defScope s__law_take) f cdv A outer s H E).env (cxOf (L2.CX P w) P w K mg base ["_law_bag_here", "_law_many", "_law_digit"] "_law_take" (defScope s__law_take) f cdv A outer s H E).xe := passes_of rfl
  exact (sSs_cons (sS_if (sT_cmp (o := .gt) hr (oE (sE_idx hr (pe_place (pv 0)) (oE cI) (fun _ _ => rfl))) (oE cI) (nomark _))
      (sSs_cons (sS_subp (l := 2) (by decide) rfl sc__law_take.nd rfl (by first | exact .inl rfl | exact .inr rfl) hr (pv 0) (oE cI) (b2 cr_divmodF T.B.divmod_ PyProof.Rows.boot_divmod (sA_cons (sE_idx hr (pe_place (pv 0)) (oE cI) (fun _ _ => rfl)) (sA_cons (pe_name (pv 1)) sA_nil rfl nofun) rfl nofun)))
      (sSs_cons (sS_retV (pv 2))
      sSs_nil))
      sSs_nil)
      (sSs_cons (sS_sub hr (pv 0) (oE cI) (sE_bin (o := .add) (oE (sE_idx hr (pe_place (pv 0)) (oE cI) (fun _ _ => rfl))) (oE cI)))
      (sSs_cons (sS_sub hr (pv 0) (oE cI) (sE_bin (o := .mod) (oE (t1 cr_intF T.B.int_ PyProof.Rows.boot_int (oE (sE_bin (o := .add) (oE (sE_bin (o := .mul) (oE (sE_idx hr (pe_place (pv 0)) (oE cI) (fun _ _ => rfl))) (oE cI))) (oE (sE_bin (o := .mul) (oE cI) (oE (sE_idx hr (pe_place (pv 0)) (oE cI) (fun _ _ => rfl))))))))) (oE cI)))
      (sSs_cons (sS_ret (sE_bin (o := .mod) (oE (t1 cr_intF T.B.int_ PyProof.Rows.boot_int (oE (sE_bin (o := .fdiv) (oE (sE_idx hr (pe_place (pv 0)) (oE cI) (fun _ _ => rfl))) (oE cI))))) (pe_place (pv 1))) nofun)
      sSs_nil))))
theorem b__law_signs (T : Txt K mg) (C : Good P w K mg base (k + 2) cal) (M : Good P w K mg base (k + 1) mkc) (f : Addr) (cdv : Value) (lkx : LkX K mg "_law_signs" f cdv) (A : Around) (outer : List Env) (s : Shared) (H : Hp) (E : XK) (gd : A.guards = some []) (hr : Room (k + 2) (A.deeper (envOfC "_law_signs" (defScope s__law_signs) s.heap.objs.size f cdv))) :
    PSs (cxOf (L2.CX P w) P w K mg base ["_law_bag_here"] "_law_signs" (defScope s__law_signs) f cdv A outer s H E) (defBody s__law_signs) (tSs (cxOf (L2.CX P w) P w K mg base ["_law_bag_here"] "_law_signs" (defScope s__law_signs) f cdv A outer s H E) (fun c d _ H' => E c d H') tab cal mkc [0] ir__law_signs.body) := by
  have tk : Takes (cxOf (L2.CX P w) P w K mg base ["_law_bag_here"] "_law_signs" (defScope s__law_signs) f cdv A outer s H E) (fun c d _ H' => E c d H') := takes_of rfl rfl rfl rfl
  have po : PassesOwn (model P w) (cxOf (L2.CX P w) P w K mg base ["_law_bag_here"] "_law_signs" (defScope s__law_signs) f cdv A outer s H E).A (cxOf (L2.CX P w) P w K mg base ["_law_bag_here"] "_law_signs" (defScope s__law_signs) f cdv A outer s H E).env (cxOf (L2.CX P w) P w K mg base ["_law_bag_here"] "_law_signs" (defScope s__law_signs) f cdv A outer s H E).xe := passes_of rfl
  exact (sSs_cons (sS_ret (sE_idx hr (oE (sE_lst (sA_cons (cS (s := "ab")) (sA_cons (cS (s := "a")) (sA_cons (cS (s := "abc")) (sA_cons (cS (s := "xz")) (sA_cons (cS (s := "q")) (sA_cons (cS (s := "mno")) (sA_cons (cS (s := "ab")) (sA_cons (cS (s := "hy")) sA_nil rfl nofun) rfl nofun) rfl nofun) rfl nofun) rfl nofun) rfl nofun) rfl nofun) rfl nofun))) (oE (cE C.f__law_take gd hr tk fn__law_take (sArgs_cons nofun (aV (pv 0)) (sArgs_one (aE cI) rfl) rfl))) (fun _ _ => rfl)) nofun)
      sSs_nil)
theorem b__law_rows (T : Txt K mg) (C : Good P w K mg base (k + 2) cal) (M : Good P w K mg base (k + 1) mkc) (f : Addr) (cdv : Value) (lkx : LkX K mg "_law_rows" f cdv) (A : Around) (outer : List Env) (s : Shared) (H : Hp) (E : XK) (gd : A.guards = some []) (hr : Room (k + 2) (A.deeper (envOfC "_law_rows" (defScope s__law_rows) s.heap.objs.size f cdv))) :
    PSs (cxOf (L2.CX P w) P w K mg base ["_law_bag_here", "_law_signs_here", "_law_most", "_law_many", "_law_found", "_law_top", "_law_at", "_law_way", "_law_colour", "_law_goals", "_law_sign"] "_law_rows" (defScope s__law_rows) f cdv A outer s H E) (defBody s__law_rows) (tSs (cxOf (L2.CX P w) P w K mg base ["_law_bag_here", "_law_signs_here", "_law_most", "_law_many", "_law_found", "_law_top", "_law_at", "_law_way", "_law_colour", "_law_goals", "_law_sign"] "_law_rows" (defScope s__law_rows) f cdv A outer s H E) (fun c d _ H' => E c d H') tab cal mkc [0] ir__law_rows.body) := by
  have tk : Takes (cxOf (L2.CX P w) P w K mg base ["_law_bag_here", "_law_signs_here", "_law_most", "_law_many", "_law_found", "_law_top", "_law_at", "_law_way", "_law_colour", "_law_goals", "_law_sign"] "_law_rows" (defScope s__law_rows) f cdv A outer s H E) (fun c d _ H' => E c d H') := takes_of rfl rfl rfl rfl
  have po : PassesOwn (model P w) (cxOf (L2.CX P w) P w K mg base ["_law_bag_here", "_law_signs_here", "_law_most", "_law_many", "_law_found", "_law_top", "_law_at", "_law_way", "_law_colour", "_law_goals", "_law_sign"] "_law_rows" (defScope s__law_rows) f cdv A outer s H E).A (cxOf (L2.CX P w) P w K mg base ["_law_bag_here", "_law_signs_here", "_law_most", "_law_many", "_law_found", "_law_top", "_law_at", "_law_way", "_law_colour", "_law_goals", "_law_sign"] "_law_rows" (defScope s__law_rows) f cdv A outer s H E).env (cxOf (L2.CX P w) P w K mg base ["_law_bag_here", "_law_signs_here", "_law_most", "_law_many", "_law_found", "_law_top", "_law_at", "_law_way", "_law_colour", "_law_goals", "_law_sign"] "_law_rows" (defScope s__law_rows) f cdv A outer s H E).xe := passes_of rfl
  exact (sSs_cons (sS_parT (by decide) rfl (sL_cons (sE_bin (o := .add) (oE cI) (oE (cE C.f__law_take gd hr tk fn__law_take (sArgs_cons nofun (aV (pv 0)) (sArgs_one (aV (pv 2)) rfl) rfl)))) (sL_cons (sE_lst sA_nil) (sL_cons (sE_idx hr (oE (sE_lst (sA_cons cI (sA_cons cI (sA_cons cI (sA_cons cI sA_nil rfl nofun) rfl nofun) rfl nofun) rfl nofun))) (oE (cE C.f__law_take gd hr tk fn__law_take (sArgs_cons nofun (aV (pv 0)) (sArgs_one (aE cI) rfl) rfl))) (fun _ _ => rfl)) sL_nil rfl) rfl) rfl) (sN_cons (i := 3) sc__law_rows.nd rfl (by first | exact .inl rfl | exact .inr rfl) (sN_cons (i := 4) sc__law_rows.nd rfl (by first | exact .inl rfl | exact .inr rfl) (sN_cons (i := 5) sc__law_rows.nd rfl (by first | exact .inl rfl | exact .inr rfl) sN_nil))) (by decide))
      (sSs_cons (sS_for (by decide) po rfl (sI_rng (by rfl) T.B.range_ (pe_name (pv 3)) (by rfl)) (sG_name (i := 6) sc__law_rows.nd rfl (by first | exact .inl rfl | exact .inr rfl))
      (sSs_cons (sS_parT (by decide) rfl (sL_cons (cE C.f__law_take gd hr tk fn__law_take (sArgs_cons nofun (aV (pv 0)) (sArgs_one (aE cI) rfl) rfl)) (sL_cons (cE C.f__law_take gd hr tk fn__law_take (sArgs_cons nofun (aV (pv 0)) (sArgs_one (aV (pv 5)) rfl) rfl)) sL_nil rfl) rfl) (sN_cons (i := 7) sc__law_rows.nd rfl (by first | exact .inl rfl | exact .inr rfl) (sN_cons (i := 8) sc__law_rows.nd rfl (by first | exact .inl rfl | exact .inr rfl) sN_nil)) (by decide))
      (sSs_cons (sS_setLc (i := 9) (by decide) rfl sc__law_rows.nd rfl rfl (sw_true rfl rfl rfl (by decide +kernel)) (sI_seq (pe_name (pv 1))) (blkOk_by (own := [("_law_sign", 10)]) (N := ["_law_bag_here", "_law_signs_here", "_law_most", "_law_many", "_law_found", "_law_top", "_law_at", "_law_way", "_law_colour", "_law_goals", "_law_sign"]) (sc := defScope s__law_rows) (by decide +kernel)) rfl (by decide) (fun _ _ _ _ _ => (sG_name (i := 10) sc__law_rows.nd rfl (by first | exact .inl rfl | exact .inr rfl))) (fun _ _ _ _ _ => sC_none) (fun _ _ _ _ _ => (sE_ite (sT_cmp (o := .eq) hr (pe_place (pv 7)) (oE cI) (nomark _)) (pe_name (pv 6)) (cE C.f__law_take gd hr takesW0 fn__law_take (sArgs_cons nofun (aV (pv 0)) (sArgs_one (aV (pv 3)) rfl) rfl)))))
      (sSs_cons (sS_if (sT_cmp (o := .eq) hr (pe_place (pv 7)) (oE cI) (nomark _))
      (sSs_cons (sS_sub hr (pv 9) (oE cI) (sE_bin (o := .mod) (oE (t1 cr_intF T.B.int_ PyProof.Rows.boot_int (oE (sE_bin (o := .add) (pe_place (pv 6)) (oE cI))))) (pe_place (pv 3))))
      sSs_nil)
      sSs_nil)
      (sSs_cons (sS_append (pv 4) (sA_cons (sE_tup (sA_cons (pe_name (pv 8)) (sA_cons (t1 cr_tupleF T.B.tuple_ PyProof.Rows.boot_tuple (pe_place (pv 9))) sA_nil rfl nofun) rfl nofun)) sA_nil rfl nofun))
      sSs_nil)))))
      (sSs_cons (sS_ret (t1 cr_tupleF T.B.tuple_ PyProof.Rows.boot_tuple (pe_place (pv 4))) nofun)
      sSs_nil)))
theorem b__law_page (T : Txt K mg) (C : Good P w K mg base (k + 2) cal) (M : Good P w K mg base (k + 1) mkc) (f : Addr) (cdv : Value) (lkx : LkX K mg "_law_page" f cdv) (A : Around) (outer : List Env) (s : Shared) (H : Hp) (E : XK) (gd : A.guards = some []) (hr : Room (k + 2) (A.deeper (envOfC "_law_page" (defScope s__law_page) s.heap.objs.size f cdv))) :
    PSs (cxOf (L2.CX P w) P w K mg base ["_law_signs_here", "_law_rows_here", "_law_lines", "_law_colour", "_law_goals", "_law_goal"] "_law_page" (defScope s__law_page) f cdv A outer s H E) (defBody s__law_page) (tSs (cxOf (L2.CX P w) P w K mg base ["_law_signs_here", "_law_rows_here", "_law_lines", "_law_colour", "_law_goals", "_law_goal"] "_law_page" (defScope s__law_page) f cdv A outer s H E) (fun c d _ H' => E c d H') tab cal mkc [] ir__law_page.body) := by
  have tk : Takes (cxOf (L2.CX P w) P w K mg base ["_law_signs_here", "_law_rows_here", "_law_lines", "_law_colour", "_law_goals", "_law_goal"] "_law_page" (defScope s__law_page) f cdv A outer s H E) (fun c d _ H' => E c d H') := takes_of rfl rfl rfl rfl
  have po : PassesOwn (model P w) (cxOf (L2.CX P w) P w K mg base ["_law_signs_here", "_law_rows_here", "_law_lines", "_law_colour", "_law_goals", "_law_goal"] "_law_page" (defScope s__law_page) f cdv A outer s H E).A (cxOf (L2.CX P w) P w K mg base ["_law_signs_here", "_law_rows_here", "_law_lines", "_law_colour", "_law_goals", "_law_goal"] "_law_page" (defScope s__law_page) f cdv A outer s H E).env (cxOf (L2.CX P w) P w K mg base ["_law_signs_here", "_law_rows_here", "_law_lines", "_law_colour", "_law_goals", "_law_goal"] "_law_page" (defScope s__law_page) f cdv A outer s H E).xe := passes_of rfl
  exact (sSs_cons (sS_set (i := 2) (by decide) sc__law_page.nd rfl (by first | exact .inl rfl | exact .inr rfl) (sE_lst (sA_cons (sE_bin (o := .add) (oE (cS (s := "machine "))) (pe_place (pv 0))) sA_nil rfl nofun)))
      (sSs_cons (sS_for (by decide) po rfl (sI_seq (pe_name (pv 1))) (sG_tup rfl (sGs_cons (sG_name (i := 3) sc__law_page.nd rfl (by first | exact .inl rfl | exact .inr rfl)) (sGs_cons (sG_name (i := 4) sc__law_page.nd rfl (by first | exact .inl rfl | exact .inr rfl)) sGs_nil)))
      (sSs_cons (sS_append (pv 2) (sA_cons (sE_join (oE (cS (s := " "))) (sA_cons (sE_bin (o := .add) (oE (sE_lst (sA_cons (cS (s := "state")) (sA_cons (t1 cr_strF T.B.str_ PyProof.Rows.boot_str (pe_place (pv 3))) sA_nil rfl nofun) rfl nofun))) (oE (sE_lc rfl sc__law_page.nd (sI_seq (pe_name (pv 4))) (blkOk_by (own := [("_law_goal", 5)]) (N := ["_law_signs_here", "_law_rows_here", "_law_lines", "_law_colour", "_law_goals", "_law_goal"]) (sc := defScope s__law_page) (by decide +kernel)) rfl (by decide) (fun _ _ _ _ _ => (sG_name (i := 5) sc__law_page.nd rfl (by first | exact .inl rfl | exact .inr rfl))) (fun _ _ _ _ _ => sC_none) (fun _ _ _ _ _ => (t1 cr_strF T.B.str_ PyProof.Rows.boot_str (pe_place (pv 5))))))) sA_nil rfl nofun)) sA_nil rfl nofun))
      sSs_nil))
      (sSs_cons (sS_ret (sE_join (oE (cS (s := "\n"))) (sA_cons (pe_name (pv 2)) sA_nil rfl nofun)) nofun)
      sSs_nil)))
theorem b__law_pair_right (T : Txt K mg) (C : Good P w K mg base (k + 2) cal) (M : Good P w K mg base (k + 1) mkc) (f : Addr) (cdv : Value) (lkx : LkX K mg "_law_pair_right" f cdv) (A : Around) (outer : List Env) (s : Shared) (H : Hp) (E : XK) (gd : A.guards = some []) (hr : Room (k + 2) (A.deeper (envOfC "_law_pair_right" (defScope s__law_pair_right) s.heap.objs.size f cdv))) :
    PSs (cxOf (L2.CX P w) P w K mg base ["_law_mine", "_law_mate", "_law_due", "_law_told"] "_law_pair_right" (defScope s__law_pair_right) f cdv A outer s H E) (defBody s__law_pair_right) (tSs (cxOf (L2.CX P w) P w K mg base ["_law_mine", "_law_mate", "_law_due", "_law_told"] "_law_pair_right" (defScope s__law_pair_right) f cdv A outer s H E) (fun c d _ H' => E c d H') tab cal mkc [] ir__law_pair_right.body) := by
  have tk : Takes (cxOf (L2.CX P w) P w K mg base ["_law_mine", "_law_mate", "_law_due", "_law_told"] "_law_pair_right" (defScope s__law_pair_right) f cdv A outer s H E) (fun c d _ H' => E c d H') := takes_of rfl rfl rfl rfl
  have po : PassesOwn (model P w) (cxOf (L2.CX P w) P w K mg base ["_law_mine", "_law_mate", "_law_due", "_law_told"] "_law_pair_right" (defScope s__law_pair_right) f cdv A outer s H E).A (cxOf (L2.CX P w) P w K mg base ["_law_mine", "_law_mate", "_law_due", "_law_told"] "_law_pair_right" (defScope s__law_pair_right) f cdv A outer s H E).env (cxOf (L2.CX P w) P w K mg base ["_law_mine", "_law_mate", "_law_due", "_law_told"] "_law_pair_right" (defScope s__law_pair_right) f cdv A outer s H E).xe := passes_of rfl
  exact (sSs_cons (sS_set (i := 3) (by decide) sc__law_pair_right.nd rfl (by first | exact .inl rfl | exact .inr rfl) (sE_lst (sA_cons (eqE (cn := "Machine") M.f_Machine___eq__ gd hr fn_Machine___eq__ T.ne (aV (pv 0)) (aV (pv 1)) rfl) (sA_cons (eqE (cn := "Machine") M.f_Machine___eq__ gd hr fn_Machine___eq__ T.ne (aV (pv 1)) (aV (pv 0)) rfl) (sA_cons (eqN (cn := "Machine") M.f_Machine___eq__ gd hr fn_Machine___eq__ T.ne (aV (pv 0)) (aV (pv 1)) rfl) (sA_cons (eqN (cn := "Machine") M.f_Machine___eq__ gd hr fn_Machine___eq__ T.ne (aV (pv 1)) (aV (pv 0)) rfl) sA_nil rfl nofun) rfl nofun) rfl nofun) rfl nofun)))
      (sSs_cons (sS_ret (sE_cmp (o := .eq) hr (oE (b1 (cr_reprF gd hr) T.B.repr_ PyProof.Rows.boot_repr (pe_place (pv 3)))) (oE (b1 (cr_reprF gd hr) T.B.repr_ PyProof.Rows.boot_repr (oE (sE_lst (sA_cons (pe_name (pv 2)) (sA_cons (pe_name (pv 2)) (sA_cons (sE_not (pe_name (pv 2))) (sA_cons (sE_not (pe_name (pv 2))) sA_nil rfl nofun) rfl nofun) rfl nofun) rfl nofun))))) (nomark _)) nofun)
      sSs_nil))
theorem b__law_others (T : Txt K mg) (C : Good P w K mg base (k + 2) cal) (M : Good P w K mg base (k + 1) mkc) (f : Addr) (cdv : Value) (lkx : LkX K mg "_law_others" f cdv) (A : Around) (outer : List Env) (s : Shared) (H : Hp) (E : XK) (gd : A.guards = some []) (hr : Room (k + 2) (A.deeper (envOfC "_law_others" (defScope s__law_others) s.heap.objs.size f cdv))) :
    PSs (cxOf (L2.CX P w) P w K mg base ["_law_bag_here", "_law_signs_here", "_law_rows_here", "_law_at", "_law_by", "_law_colour", "_law_goals", "_law_spot", "_law_fresh", "_law_found"] "_law_others" (defScope s__law_others) f cdv A outer s H E) (defBody s__law_others) (tSs (cxOf (L2.CX P w) P w K mg base ["_law_bag_here", "_law_signs_here", "_law_rows_here", "_law_at", "_law_by", "_law_colour", "_law_goals", "_law_spot", "_law_fresh", "_law_found"] "_law_others" (defScope s__law_others) f cdv A outer s H E) (fun c d _ H' => E c d H') tab cal mkc [0] ir__law_others.body) := by
  have tk : Takes (cxOf (L2.CX P w) P w K mg base ["_law_bag_here", "_law_signs_here", "_law_rows_here", "_law_at", "_law_by", "_law_colour", "_law_goals", "_law_spot", "_law_fresh", "_law_found"] "_law_others" (defScope s__law_others) f cdv A outer s H E) (fun c d _ H' => E c d H') := takes_of rfl rfl rfl rfl
  have po : PassesOwn (model P w) (cxOf (L2.CX P w) P w K mg base ["_law_bag_here", "_law_signs_here", "_law_rows_here", "_law_at", "_law_by", "_law_colour", "_law_goals", "_law_spot", "_law_fresh", "_law_found"] "_law_others" (defScope s__law_others) f cdv A outer s H E).A (cxOf (L2.CX P w) P w K mg base ["_law_bag_here", "_law_signs_here", "_law_rows_here", "_law_at", "_law_by", "_law_colour", "_law_goals", "_law_spot", "_law_fresh", "_law_found"] "_law_others" (defScope s__law_others) f cdv A outer s H E).env (cxOf (L2.CX P w) P w K mg base ["_law_bag_here", "_law_signs_here", "_law_rows_here", "_law_at", "_law_by", "_law_colour", "_law_goals", "_law_spot", "_law_fresh", "_law_found"] "_law_others" (defScope s__law_others) f cdv A outer s H E).xe := passes_of rfl
  exact (sSs_cons (sS_par (by decide) rfl sc__law_others.nd rfl rfl (by decide) rfl rfl (sL_cons (cE C.f__law_take gd hr tk fn__law_take (sArgs_cons nofun (aV (pv 0)) (sArgs_one (aE (b1 cr_len T.B.len_ PySem.boot_len (pe_place (pv 2)))) rfl) rfl)) (sL_cons (sE_bin (o := .add) (oE cI) (oE (cE C.f__law_take gd hr tk fn__law_take (sArgs_cons nofun (aV (pv 0)) (sArgs_one (aE cI) rfl) rfl)))) sL_nil rfl) rfl) rfl)
      (sSs_cons (sS_asgT (by decide) (sE_idx hr (pe_place (pv 2)) (pe_place (pv 3)) (fun _ _ => rfl)) (sG_tup rfl (sGs_cons (sG_name (i := 5) sc__law_others.nd rfl (by first | exact .inl rfl | exact .inr rfl)) (sGs_cons (sG_name (i := 6) sc__law_others.nd rfl (by first | exact .inl rfl | exact .inr rfl)) sGs_nil))))
      (sSs_cons (sS_set (i := 7) (by decide) sc__law_others.nd rfl (by first | exact .inl rfl | exact .inr rfl) (cE C.f__law_take gd hr tk fn__law_take (sArgs_cons nofun (aV (pv 0)) (sArgs_one (aE (b1 cr_len T.B.len_ PySem.boot_len (pe_place (pv 6)))) rfl) rfl)))
      (sSs_cons (sS_set (i := 8) (by decide) sc__law_others.nd rfl (by first | exact .inl rfl | exact .inr rfl) (sE_bin (o := .add) (oE (sE_bin (o := .add) (oE (sE_slc (pe_place (pv 6)) sO_none (sO_some (pe_name (pv 7))))) (oE (sE_tup (sA_cons (sE_bin (o := .mod) (oE (t1 cr_intF T.B.int_ PyProof.Rows.boot_int (oE (sE_bin (o := .add) (oE (sE_idx hr (pe_place (pv 6)) (pe_place (pv 7)) (fun _ _ => rfl))) (oE cI))))) (oE (b1 cr_len T.B.len_ PySem.boot_len (pe_place (pv 2))))) sA_nil rfl nofun))))) (oE (sE_slc (pe_place (pv 6)) (sO_some (sE_bin (o := .add) (pe_place (pv 7)) (oE cI))) sO_none))))
      (sSs_cons (sS_set (i := 9) (by decide) sc__law_others.nd rfl (by first | exact .inl rfl | exact .inr rfl) (sE_lst (sA_cons (sE_tup (sA_cons (pe_name (pv 1)) (sA_cons (sE_bin (o := .add) (oE (sE_bin (o := .add) (oE (sE_slc (pe_place (pv 2)) sO_none (sO_some (pe_name (pv 3))))) (oE (sE_tup (sA_cons (sE_tup (sA_cons (sE_bin (o := .mod) (oE (t1 cr_intF T.B.int_ PyProof.Rows.boot_int (oE (sE_bin (o := .add) (pe_place (pv 5)) (pe_place (pv 4)))))) (oE cI)) (sA_cons (pe_name (pv 6)) sA_nil rfl nofun) rfl nofun)) sA_nil rfl nofun))))) (oE (sE_slc (pe_place (pv 2)) (sO_some (sE_bin (o := .add) (pe_place (pv 3)) (oE cI))) sO_none))) sA_nil rfl nofun) rfl nofun)) sA_nil rfl nofun)))
      (sSs_cons (sS_append (pv 9) (sA_cons (sE_tup (sA_cons (pe_name (pv 1)) (sA_cons (sE_bin (o := .add) (oE (sE_bin (o := .add) (oE (sE_slc (pe_place (pv 2)) sO_none (sO_some (pe_name (pv 3))))) (oE (sE_tup (sA_cons (sE_tup (sA_cons (pe_name (pv 5)) (sA_cons (pe_name (pv 8)) sA_nil rfl nofun) rfl nofun)) sA_nil rfl nofun))))) (oE (sE_slc (pe_place (pv 2)) (sO_some (sE_bin (o := .add) (pe_place (pv 3)) (oE cI))) sO_none))) sA_nil rfl nofun) rfl nofun)) sA_nil rfl nofun))
      (sSs_cons (sS_set (i := 9) (by decide) sc__law_others.nd rfl (by first | exact .inl rfl | exact .inr rfl) (sE_bin (o := .add) (pe_place (pv 9)) (oE (sE_lst (sA_cons (sE_tup (sA_cons (sE_get hr (oE (sE_cdct (kvs := [("ab", "ac"), ("a", "b"), ("abc", "abd")]) tp_dict0 (pps_cons pe_str pe_str (pps_cons pe_str pe_str (pps_cons pe_str pe_str pps_nil))))) (pe_name (pv 1)) (pe_name (pv 1)) nofun nofun ⟨by rfl, by rfl, by rfl, by rfl⟩) (sA_cons (pe_name (pv 2)) sA_nil rfl nofun) rfl nofun)) (sA_cons (sE_tup (sA_cons (pe_name (pv 1)) (sA_cons (sE_rev (pe_place (pv 2))) sA_nil rfl nofun) rfl nofun)) sA_nil rfl nofun) rfl nofun)))))
      (sSs_cons (sS_if (sT_cmp (o := .lt) hr (oE (b1 cr_len T.B.len_ PySem.boot_len (pe_place (pv 2)))) (oE cI) (nomark _))
      (sSs_cons (sS_append (pv 9) (sA_cons (sE_tup (sA_cons (pe_name (pv 1)) (sA_cons (sE_bin (o := .add) (pe_place (pv 2)) (oE (sE_tup (sA_cons (sE_tup (sA_cons (pe_name (pv 5)) (sA_cons (pe_name (pv 6)) sA_nil rfl nofun) rfl nofun)) sA_nil rfl nofun)))) sA_nil rfl nofun) rfl nofun)) sA_nil rfl nofun))
      sSs_nil)
      sSs_nil)
      (sSs_cons (sS_retV (pv 9))
      sSs_nil)))))))))
theorem b__law_right (T : Txt K mg) (C : Good P w K mg base (k + 2) cal) (M : Good P w K mg base (k + 1) mkc) (f : Addr) (cdv : Value) (lkx : LkX K mg "_law_right" f cdv) (A : Around) (outer : List Env) (s : Shared) (H : Hp) (E : XK) (gd : A.guards = some []) (hr : Room (k + 2) (A.deeper (envOfC "_law_right" (defScope s__law_right) s.heap.objs.size f cdv))) :
    PSs (cxOf (L2.CX P w) P w K mg base ["_law_bag_here", "_law_signs_here", "_law_rows_here", "_law_mine", "_law_letters_here", "_law_states_here", "_law_is_same", "_law_thing"] "_law_right" (defScope s__law_right) f cdv A outer s H E) (defBody s__law_right) (tSs (cxOf (L2.CX P w) P w K mg base ["_law_bag_here", "_law_signs_here", "_law_rows_here", "_law_mine", "_law_letters_here", "_law_states_here", "_law_is_same", "_law_thing"] "_law_right" (defScope s__law_right) f cdv A outer s H E) (fun c d _ H' => E c d H') tab cal mkc [0] ir__law_right.body) := by
  have tk : Takes (cxOf (L2.CX P w) P w K mg base ["_law_bag_here", "_law_signs_here", "_law_rows_here", "_law_mine", "_law_letters_here", "_law_states_here", "_law_is_same", "_law_thing"] "_law_right" (defScope s__law_right) f cdv A outer s H E) (fun c d _ H' => E c d H') := takes_of rfl rfl rfl rfl
  have po : PassesOwn (model P w) (cxOf (L2.CX P w) P w K mg base ["_law_bag_here", "_law_signs_here", "_law_rows_here", "_law_mine", "_law_letters_here", "_law_states_here", "_law_is_same", "_law_thing"] "_law_right" (defScope s__law_right) f cdv A outer s H E).A (cxOf (L2.CX P w) P w K mg base ["_law_bag_here", "_law_signs_here", "_law_rows_here", "_law_mine", "_law_letters_here", "_law_states_here", "_law_is_same", "_law_thing"] "_law_right" (defScope s__law_right) f cdv A outer s H E).env (cxOf (L2.CX P w) P w K mg base ["_law_bag_here", "_law_signs_here", "_law_rows_here", "_law_mine", "_law_letters_here", "_law_states_here", "_law_is_same", "_law_thing"] "_law_right" (defScope s__law_right) f cdv A outer s H E).xe := passes_of rfl
  exact (sSs_cons (sS_set (i := 1) (by decide) sc__law_right.nd rfl (by first | exact .inl rfl | exact .inr rfl) (cE C.f__law_signs gd hr tk fn__law_signs (sArgs_one (aV (pv 0)) rfl)))
      (sSs_cons (sS_set (i := 2) (by decide) sc__law_right.nd rfl (by first | exact .inl rfl | exact .inr rfl) (cE C.f__law_rows gd hr tk fn__law_rows (sArgs_cons nofun (aV (pv 0)) (sArgs_cons nofun (aV (pv 1)) (sArgs_one (aE cI) rfl) rfl) rfl)))
      (sSs_cons (sS_set (i := 3) (by decide) sc__law_right.nd rfl (by first | exact .inl rfl | exact .inr rfl) (nE (c := "Machine") M.f_Machine___init__ (by decide +kernel) gd hr tk fn_Machine___init__ (sA_cons (pe_name (pv 1)) (sA_cons (pe_name (pv 2)) sA_nil rfl nofun) rfl nofun)))
      (sSs_cons (sS_for (by decide) po rfl (sI_seq (cE C.f__law_others gd hr tk fn__law_others (sArgs_cons nofun (aV (pv 0)) (sArgs_cons nofun (aV (pv 1)) (sArgs_one (aV (pv 2)) rfl) rfl) rfl))) (sG_tup rfl (sGs_cons (sG_name (i := 4) sc__law_right.nd rfl (by first | exact .inl rfl | exact .inr rfl)) (sGs_cons (sG_name (i := 5) sc__law_right.nd rfl (by first | exact .inl rfl | exact .inr rfl)) sGs_nil)))
      (sSs_cons (sS_set (i := 6) (by decide) sc__law_right.nd rfl (by first | exact .inl rfl | exact .inr rfl) (sE_and (sE_cmp (o := .eq) hr (pe_place (pv 4)) (pe_place (pv 1)) (nomark _)) (pe_one (sE_cmp (o := .eq) hr (pe_place (pv 5)) (pe_place (pv 2)) (nomark _)))))
      (sSs_cons (sS_if (PW.pt (sW_or (sT_not (sT_val (cE C.f__law_pair_right gd hr tk fn__law_pair_right (sArgs_cons nofun (aV (pv 3)) (sArgs_cons nofun (aE (nE (c := "Machine") M.f_Machine___init__ (by decide +kernel) gd hr tk fn_Machine___init__ (sA_cons (pe_name (pv 4)) (sA_cons (pe_name (pv 5)) sA_nil rfl nofun) rfl nofun))) (sArgs_one (aV (pv 6)) rfl) rfl) rfl)) (by intro _; rfl))) (pw_or1 (sT_cmp (o := .ne) hr (oE (sE_prp (c := "Machine") (p := "states") (f := "held_states") hr (pe_place (pv 3)) (fun _ => p_states T) tab_states rfl)) (pe_place (pv 2)) (nomark _)))))
      (sSs_cons (sS_ret cB nofun)
      sSs_nil)
      sSs_nil)
      sSs_nil)))
      (sSs_cons (sS_if (sT_not (sT_val (cE C.f__law_pair_right gd hr tk fn__law_pair_right (sArgs_cons nofun (aV (pv 3)) (sArgs_cons nofun (aE (sE_cm C.f_Machine_read gd hr tk fn_Machine_read (fun _ _ _ _ _ _ us hl => match us, hl with | [_, _], _ => rfl) (sA_cons (cE C.f__law_page gd hr tk fn__law_page (sArgs_cons nofun (aV (pv 1)) (sArgs_one (aV (pv 2)) rfl) rfl)) sA_nil rfl nofun))) (sArgs_one (aE cB) rfl) rfl) rfl)) (by intro _; rfl)))
      (sSs_cons (sS_ret cB nofun)
      sSs_nil)
      sSs_nil)
      (sSs_cons (sS_for (by decide) po rfl (sI_seq (sE_lst (sA_cons (soE (cn := "Machine") M.f_Machine___str__ gd hr fn_Machine___str__ T.B.str_ (aV (pv 3))) (sA_cons (pe_name (pv 2)) (sA_cons (pe_name (pv 1)) (sA_cons (sE_tup (sA_cons (pe_name (pv 1)) (sA_cons (pe_name (pv 2)) sA_nil rfl nofun) rfl nofun)) (sA_cons cN (sA_cons cB (sA_cons (b1 cr_len T.B.len_ PySem.boot_len (pe_place (pv 2))) (sA_cons sE_dnew (sA_cons (sE_lst (sA_cons (pe_name (pv 3)) sA_nil rfl nofun)) (sA_cons (sE_tup (sA_cons (pe_name (pv 3)) sA_nil rfl nofun)) sA_nil rfl nofun) rfl nofun) rfl nofun) rfl nofun) rfl nofun) rfl nofun) rfl nofun) rfl nofun) rfl nofun) rfl nofun))) (sG_name (i := 7) sc__law_right.nd rfl (by first | exact .inl rfl | exact .inr rfl))
      (sSs_cons (sS_if (sT_not (sT_val (cE C.f__law_pair_right gd hr tk fn__law_pair_right (sArgs_cons nofun (aV (pv 3)) (sArgs_cons nofun (aV (pv 7)) (sArgs_one (aE cB) rfl) rfl) rfl)) (by intro _; rfl)))
      (sSs_cons (sS_ret cB nofun)
      sSs_nil)
      sSs_nil)
      sSs_nil))
      (sSs_cons (sS_ret (sE_cmp (o := .eq) hr (oE (soE (cn := "Machine") M.f_Machine___str__ gd hr fn_Machine___str__ T.B.str_ (aV (pv 3)))) (oE (cE C.f__law_page gd hr tk fn__law_page (sArgs_cons nofun (aV (pv 1)) (sArgs_one (aV (pv 2)) rfl) rfl))) (nomark _)) nofun)
      sSs_nil)))))))
theorem b__law_quiet (T : Txt K mg) (C : Good P w K mg base (k + 2) cal) (M : Good P w K mg base (k + 1) mkc) (f : Addr) (cdv : Value) (lkx : LkX K mg "_law_quiet" f cdv) (A : Around) (outer : List Env) (s : Shared) (H : Hp) (E : XK) (gd : A.guards = some []) (hr : Room (k + 2) (A.deeper (envOfC "_law_quiet" (defScope s__law_quiet) s.heap.objs.size f cdv))) :
    PSs (cxOf (L2.CX P w) P w K mg base ["_law_bag_here", "_law_is_right"] "_law_quiet" (defScope s__law_quiet) f cdv A outer s H E) (defBody s__law_quiet) (tSs (cxOf (L2.CX P w) P w K mg base ["_law_bag_here", "_law_is_right"] "_law_quiet" (defScope s__law_quiet) f cdv A outer s H E) (fun c d _ H' => E c d H') tab cal mkc [0] ir__law_quiet.body) := by
  have tk : Takes (cxOf (L2.CX P w) P w K mg base ["_law_bag_here", "_law_is_right"] "_law_quiet" (defScope s__law_quiet) f cdv A outer s H E) (fun c d _ H' => E c d H') := takes_of rfl rfl rfl rfl
  have po : PassesOwn (model P w) (cxOf (L2.CX P w) P w K mg base ["_law_bag_here", "_law_is_right"] "_law_quiet" (defScope s__law_quiet) f cdv A outer s H E).A (cxOf (L2.CX P w) P w K mg base ["_law_bag_here", "_law_is_right"] "_law_quiet" (defScope s__law_quiet) f cdv A outer s H E).env (cxOf (L2.CX P w) P w K mg base ["_law_bag_here", "_law_is_right"] "_law_quiet" (defScope s__law_quiet) f cdv A outer s H E).xe := passes_of rfl
  exact (sSs_cons (sS_try (sSs_cons (sS_set (i := 1) (by decide) sc__law_quiet.nd rfl (by first | exact .inl rfl | exact .inr rfl) (cE C.f__law_right gd hr takesW0 fn__law_right (sArgs_one (aV (pv 0)) rfl)))
      sSs_nil))
      (sSs_cons (sS_retV (pv 1))
      sSs_nil))
theorem b_law (T : Txt K mg) (C : Good P w K mg base (k + 2) cal) (M : Good P w K mg base (k + 1) mkc) (f : Addr) (cdv : Value) (lkx : LkX K mg "law" f cdv) (A : Around) (outer : List Env) (s : Shared) (H : Hp) (E : XK) (gd : A.guards = some []) (hr : Room (k + 2) (A.deeper (envOfC "law" (defScope s_law) s.heap.objs.size f cdv))) :
    PSs (cxOf (L2.CX P w) P w K mg base ["_law_script", "_law_turn"] "law" (defScope s_law) f cdv A outer s H E) (defBody s_law) (tSs (cxOf (L2.CX P w) P w K mg base ["_law_script", "_law_turn"] "law" (defScope s_law) f cdv A outer s H E) (fun c d _ H' => E c d H') tab cal mkc [] ir_law.body) := by
  have tk : Takes (cxOf (L2.CX P w) P w K mg base ["_law_script", "_law_turn"] "law" (defScope s_law) f cdv A outer s H E) (fun c d _ H' => E c d H') := takes_of rfl rfl rfl rfl
  have po : PassesOwn (model P w) (cxOf (L2.CX P w) P w K mg base ["_law_script", "_law_turn"] "law" (defScope s_law) f cdv A outer s H E).A (cxOf (L2.CX P w) P w K mg base ["_law_script", "_law_turn"] "law" (defScope s_law) f cdv A outer s H E).env (cxOf (L2.CX P w) P w K mg base ["_law_script", "_law_turn"] "law" (defScope s_law) f cdv A outer s H E).xe := passes_of rfl
  exact (sSs_cons (sS_ret (b1 (cr_allF rfl) T.B.all_ boot_all (oE (sE_lc rfl sc_law.nd (sI_rng (by rfl) T.B.range_ (b2 (cr_maxF rfl) T.B.max_ PyProof.Rows.boot_max (sA_cons cI (sA_cons (b2 (cr_minF rfl) T.B.min_ PyProof.Rows.boot_min (sA_cons (b1 cr_len T.B.len_ PySem.boot_len (pe_place (pv 0))) (sA_cons cI sA_nil rfl nofun) rfl nofun)) sA_nil rfl nofun) rfl nofun)) (by rfl)) (blkOk_by (own := [("_law_turn", 1)]) (N := ["_law_script", "_law_turn"]) (sc := defScope s_law) (by decide +kernel)) rfl (by decide) (fun _ _ _ _ _ => (sG_name (i := 1) sc_law.nd rfl (by first | exact .inl rfl | exact .inr rfl))) (fun _ _ _ _ _ => sC_none) (fun _ _ _ _ _ => (cE C.f__law_quiet gd hr takesW0 fn__law_quiet (sArgs_one (aE (cE C.f__law_bag gd hr takesW0 fn__law_bag (sArgs_cons nofun (aV (pv 0)) (sArgs_one (aV (pv 1)) rfl) rfl))) rfl)))))) nofun)
      sSs_nil)
theorem b_Machine___init__ (T : Txt K mg) (C : Good P w K mg base (k + 2) cal) (M : Good P w K mg base (k + 1) mkc) (f : Addr) (cdv : Value) (A : Around) (outer : List Env) (s : Shared) (H : Hp) (E : XK) (gd : A.guards = some []) (hr : Room (k + 2) (A.deeper (envOfC "Machine.__init__" (defScope s_Machine___init__) s.heap.objs.size f cdv))) :
    PSs (cxOf (L2.CX P w) P w K mg base ["self", "letters", "states", "index", "state"] "Machine.__init__" (defScope s_Machine___init__) f cdv A outer s H E) (defBody s_Machine___init__) (tSs (cxOf (L2.CX P w) P w K mg base ["self", "letters", "states", "index", "state"] "Machine.__init__" (defScope s_Machine___init__) f cdv A outer s H E) (fun c d _ H' => E c d H') tab cal mkc [0] ir_Machine___init__.body) := by
  have tk : Takes (cxOf (L2.CX P w) P w K mg base ["self", "letters", "states", "index", "state"] "Machine.__init__" (defScope s_Machine___init__) f cdv A outer s H E) (fun c d _ H' => E c d H') := takes_of rfl rfl rfl rfl
  have po : PassesOwn (model P w) (cxOf (L2.CX P w) P w K mg base ["self", "letters", "states", "index", "state"] "Machine.__init__" (defScope s_Machine___init__) f cdv A outer s H E).A (cxOf (L2.CX P w) P w K mg base ["self", "letters", "states", "index", "state"] "Machine.__init__" (defScope s_Machine___init__) f cdv A outer s H E).env (cxOf (L2.CX P w) P w K mg base ["self", "letters", "states", "index", "state"] "Machine.__init__" (defScope s_Machine___init__) f cdv A outer s H E).xe := passes_of rfl
  exact (sSs_cons (sS_if (sT_not (sT_val (cE C.f_are_letters gd hr tk fn_are_letters (sArgs_one (aV (pv 1)) rfl)) (by intro _; rfl)))
      (sSs_cons (sS_never tab_no)
      sSs_nil)
      sSs_nil)
      (sSs_cons (sS_if (PW.pt (sW_or (sT_not (sT_val (sE_isi (t := "tuple") (.inl ⟨rfl, rfl⟩) (fun _ => ti_tuple) T.B.isinstance_ (pe_place (pv 2)) (pe_type T.B.tuple_ PyProof.Rows.boot_tuple)) (by intro _; rfl))) (pw_or1 (sT_cmp (o := .eq) hr (oE (b1 cr_len T.B.len_ PySem.boot_len (pe_place (pv 2)))) (oE cI) (nomark _)))))
      (sSs_cons (sS_never tab_no)
      sSs_nil)
      sSs_nil)
      (sSs_cons (sS_for (by decide) po rfl (sI_enum (by rfl) T.B.enumerate_ (pe_name (pv 2)) (by rfl)) (sG_tup rfl (sGs_cons (sG_name (i := 3) sc_Machine___init__.nd rfl (by first | exact .inl rfl | exact .inr rfl)) (sGs_cons (sG_name (i := 4) sc_Machine___init__.nd rfl (by first | exact .inl rfl | exact .inr rfl)) sGs_nil)))
      (sSs_cons (sS_if (PW.pt (sW_or (sT_cmp (o := .eq) hr (pe_place (pv 3)) (oE (cG T.c_MOST_STATES (fun _ => .int 6) tc_MOST_STATES)) (nomark _)) (pw_or1 (sT_not (sT_val (cE C.f_is_state gd hr tk fn_is_state (sArgs_cons nofun (aV (pv 4)) (sArgs_cons nofun (aV (pv 1)) (sArgs_one (aE (b1 cr_len T.B.len_ PySem.boot_len (pe_place (pv 2)))) rfl) rfl) rfl)) (by intro _; rfl))))))
      (sSs_cons (sS_never tab_no)
      sSs_nil)
      sSs_nil)
      sSs_nil))
      (sSs_cons (sS_setf (f := "held_letters") (pv 0) (pe_name (pv 1)) (fl_held_letters T) rfl)
      (sSs_cons (sS_setf (f := "held_states") (pv 0) (pe_name (pv 2)) (fl_held_states T) rfl)
      sSs_nil)))))
theorem b_Machine___len__ (T : Txt K mg) (C : Good P w K mg base (k + 2) cal) (M : Good P w K mg base (k + 1) mkc) (f : Addr) (cdv : Value) (A : Around) (outer : List Env) (s : Shared) (H : Hp) (E : XK) (gd : A.guards = some []) (hr : Room (k + 2) (A.deeper (envOfC "Machine.__len__" (defScope s_Machine___len__) s.heap.objs.size f cdv))) :
    PSs (cxOf (L2.CX P w) P w K mg base ["self"] "Machine.__len__" (defScope s_Machine___len__) f cdv A outer s H E) (defBody s_Machine___len__) (tSs (cxOf (L2.CX P w) P w K mg base ["self"] "Machine.__len__" (defScope s_Machine___len__) f cdv A outer s H E) (fun c d _ H' => E c d H') tab cal mkc [] ir_Machine___len__.body) := by
  have tk : Takes (cxOf (L2.CX P w) P w K mg base ["self"] "Machine.__len__" (defScope s_Machine___len__) f cdv A outer s H E) (fun c d _ H' => E c d H') := takes_of rfl rfl rfl rfl
  have po : PassesOwn (model P w) (cxOf (L2.CX P w) P w K mg base ["self"] "Machine.__len__" (defScope s_Machine___len__) f cdv A outer s H E).A (cxOf (L2.CX P w) P w K mg base ["self"] "Machine.__len__" (defScope s_Machine___len__) f cdv A outer s H E).env (cxOf (L2.CX P w) P w K mg base ["self"] "Machine.__len__" (defScope s_Machine___len__) f cdv A outer s H E).xe := passes_of rfl
  exact (sSs_cons (sS_ret (b1 cr_len T.B.len_ PySem.boot_len (oE (sE_fld (f := "held_states") (pe_place (pv 0)) (fl_held_states T) rfl))) nofun)
      sSs_nil)
theorem b_Machine___bool__ (T : Txt K mg) (C : Good P w K mg base (k + 2) cal) (M : Good P w K mg base (k + 1) mkc) (f : Addr) (cdv : Value) (A : Around) (outer : List Env) (s : Shared) (H : Hp) (E : XK) (gd : A.guards = some []) (hr : Room (k + 2) (A.deeper (envOfC "Machine.__bool__" (defScope s_Machine___bool__) s.heap.objs.size f cdv))) :
    PSs (cxOf (L2.CX P w) P w K mg base ["self"] "Machine.__bool__" (defScope s_Machine___bool__) f cdv A outer s H E) (defBody s_Machine___bool__) (tSs (cxOf (L2.CX P w) P w K mg base ["self"] "Machine.__bool__" (defScope s_Machine___bool__) f cdv A outer s H E) (fun c d _ H' => E c d H') tab cal mkc [] ir_Machine___bool__.body) := by
  have tk : Takes (cxOf (L2.CX P w) P w K mg base ["self"] "Machine.__bool__" (defScope s_Machine___bool__) f cdv A outer s H E) (fun c d _ H' => E c d H') := takes_of rfl rfl rfl rfl
  have po : PassesOwn (model P w) (cxOf (L2.CX P w) P w K mg base ["self"] "Machine.__bool__" (defScope s_Machine___bool__) f cdv A outer s H E).A (cxOf (L2.CX P w) P w K mg base ["self"] "Machine.__bool__" (defScope s_Machine___bool__) f cdv A outer s H E).env (cxOf (L2.CX P w) P w K mg base ["self"] "Machine.__bool__" (defScope s_Machine___bool__) f cdv A outer s H E).xe := passes_of rfl
  exact (sSs_cons (sS_ret cB nofun)
      sSs_nil)
theorem b_Machine___str__ (T : Txt K mg) (C : Good P w K mg base (k + 2) cal) (M : Good P w K mg base (k + 1) mkc) (f : Addr) (cdv : Value) (A : Around) (outer : List Env) (s : Shared) (H : Hp) (E : XK) (gd : A.guards = some []) (hr : Room (k + 2) (A.deeper (envOfC "Machine.__str__" (defScope s_Machine___str__) s.heap.objs.size f cdv))) :
    PSs (cxOf (L2.CX P w) P w K mg base ["self", "rows", "target", "colour", "targets"] "Machine.__str__" (defScope s_Machine___str__) f cdv A outer s H E) (defBody s_Machine___str__) (tSs (cxOf (L2.CX P w) P w K mg base ["self", "rows", "target", "colour", "targets"] "Machine.__str__" (defScope s_Machine___str__) f cdv A outer s H E) (fun c d _ H' => E c d H') tab cal mkc [] ir_Machine___str__.body) := by
  have tk : Takes (cxOf (L2.CX P w) P w K mg base ["self", "rows", "target", "colour", "targets"] "Machine.__str__" (defScope s_Machine___str__) f cdv A outer s H E) (fun c d _ H' => E c d H') := takes_of rfl rfl rfl rfl
  have po : PassesOwn (model P w) (cxOf (L2.CX P w) P w K mg base ["self", "rows", "target", "colour", "targets"] "Machine.__str__" (defScope s_Machine___str__) f cdv A outer s H E).A (cxOf (L2.CX P w) P w K mg base ["self", "rows", "target", "colour", "targets"] "Machine.__str__" (defScope s_Machine___str__) f cdv A outer s H E).env (cxOf (L2.CX P w) P w K mg base ["self", "rows", "target", "colour", "targets"] "Machine.__str__" (defScope s_Machine___str__) f cdv A outer s H E).xe := passes_of rfl
  exact (sSs_cons (sS_setLc (i := 1) (by decide) rfl sc_Machine___str__.nd rfl rfl (sw_true rfl rfl rfl (by decide +kernel)) (sI_seq (sE_fld (f := "held_states") (pe_place (pv 0)) (fl_held_states T) rfl)) (blkOk_by (own := [("colour", 3), ("targets", 4)]) (N := ["self", "rows", "target", "colour", "targets"]) (sc := defScope s_Machine___str__) (by decide +kernel)) rfl (by decide) (fun _ _ _ _ _ => (sG_tup rfl (sGs_cons (sG_name (i := 3) sc_Machine___str__.nd rfl (by first | exact .inl rfl | exact .inr rfl)) (sGs_cons (sG_name (i := 4) sc_Machine___str__.nd rfl (by first | exact .inl rfl | exact .inr rfl)) sGs_nil)))) (fun _ _ _ _ _ => sC_none) (fun _ _ _ _ _ => (sE_join (oE (cS (s := " "))) (sA_cons (sE_lst (sA_cons (cS (s := "state")) (sA_cons (t1 cr_strF T.B.str_ PyProof.Rows.boot_str (pe_place (pv 3))) (sA_star (sE_lc rfl sc_Machine___str__.nd (sI_seq (pe_name (pv 4))) (blkOk_by (own := [("target", 2)]) (N := ["self", "rows", "target", "colour", "targets"]) (by kernel_rfl)) rfl (by decide) (fun _ _ _ _ _ => (sG_name (i := 2) sc_Machine___str__.nd rfl (by first | exact .inl rfl | exact .inr rfl))) (fun _ _ _ _ _ => sC_none) (fun _ _ _ _ _ => (t1 cr_strF T.B.str_ PyProof.Rows.boot_str (pe_place (pv 2))))) sA_nil rfl) rfl nofun) rfl nofun)) sA_nil rfl nofun))))
      (sSs_cons (sS_ret (sE_join (oE (cS (s := "\n"))) (sA_cons (sE_lst (sA_cons (sE_bin (o := .add) (oE (cS (s := "machine "))) (oE (sE_fld (f := "held_letters") (pe_place (pv 0)) (fl_held_letters T) rfl))) (sA_star (pe_name (pv 1)) sA_nil rfl) rfl nofun)) sA_nil rfl nofun)) nofun)
      sSs_nil))
theorem b_Machine___eq__ (T : Txt K mg) (C : Good P w K mg base (k + 2) cal) (M : Good P w K mg base (k + 1) mkc) (f : Addr) (cdv : Value) (A : Around) (outer : List Env) (s : Shared) (H : Hp) (E : XK) (gd : A.guards = some []) (hr : Room (k + 2) (A.deeper (envOfC "Machine.__eq__" (defScope s_Machine___eq__) s.heap.objs.size f cdv))) :
    PSs (cxOf (L2.CX P w) P w K mg base ["self", "other"] "Machine.__eq__" (defScope s_Machine___eq__) f cdv A outer s H E) (defBody s_Machine___eq__) (tSs (cxOf (L2.CX P w) P w K mg base ["self", "other"] "Machine.__eq__" (defScope s_Machine___eq__) f cdv A outer s H E) (fun c d _ H' => E c d H') tab cal mkc [] ir_Machine___eq__.body) := by
  have tk : Takes (cxOf (L2.CX P w) P w K mg base ["self", "other"] "Machine.__eq__" (defScope s_Machine___eq__) f cdv A outer s H E) (fun c d _ H' => E c d H') := takes_of rfl rfl rfl rfl
  have po : PassesOwn (model P w) (cxOf (L2.CX P w) P w K mg base ["self", "other"] "Machine.__eq__" (defScope s_Machine___eq__) f cdv A outer s H E).A (cxOf (L2.CX P w) P w K mg base ["self", "other"] "Machine.__eq__" (defScope s_Machine___eq__) f cdv A outer s H E).env (cxOf (L2.CX P w) P w K mg base ["self", "other"] "Machine.__eq__" (defScope s_Machine___eq__) f cdv A outer s H E).xe := passes_of rfl
  exact (sSs_cons (sS_ret (sE_and (sE_isi (t := "Machine") (.inr ⟨rfl, rfl, mach_isc T.M, by decide +kernel⟩) (fun z => nomatch z) T.B.isinstance_ (pe_place (pv 1)) (pe_glob (by rfl) T.M.g rfl)) (pe_one (sE_cmp (o := .eq) hr (oE (soE (cn := "Machine") M.f_Machine___str__ gd hr fn_Machine___str__ T.B.str_ (aV (pv 0)))) (oE (soE (cn := "Machine") M.f_Machine___str__ gd hr fn_Machine___str__ T.B.str_ (aV (pv 1)))) (nomark _)))) nofun)
      sSs_nil)
theorem b_Machine_read (T : Txt K mg) (C : Good P w K mg base (k + 2) cal) (M : Good P w K mg base (k + 1) mkc) (f : Addr) (cdv : Value) (A : Around) (outer : List Env) (s : Shared) (H : Hp) (E : XK) (gd : A.guards = some []) (hr : Room (k + 2) (A.deeper (envOfC "Machine.read" (defScope s_Machine_read) s.heap.objs.size f cdv))) :
    PSs (cxOf (L2.CX P w) P w K mg base ["cls", "text", "head", "rows", "words", "machine", "row"] "Machine.read" (defScope s_Machine_read) f cdv A outer s H E) (defBody s_Machine_read) (tSs (cxOf (L2.CX P w) P w K mg base ["cls", "text", "head", "rows", "words", "machine", "row"] "Machine.read" (defScope s_Machine_read) f cdv A outer s H E) (fun c d _ H' => E c d H') tab cal mkc [] ir_Machine_read.body) := by
  have tk : Takes (cxOf (L2.CX P w) P w K mg base ["cls", "text", "head", "rows", "words", "machine", "row"] "Machine.read" (defScope s_Machine_read) f cdv A outer s H E) (fun c d _ H' => E c d H') := takes_of rfl rfl rfl rfl
  have po : PassesOwn (model P w) (cxOf (L2.CX P w) P w K mg base ["cls", "text", "head", "rows", "words", "machine", "row"] "Machine.read" (defScope s_Machine_read) f cdv A outer s H E).A (cxOf (L2.CX P w) P w K mg base ["cls", "text", "head", "rows", "words", "machine", "row"] "Machine.read" (defScope s_Machine_read) f cdv A outer s H E).env (cxOf (L2.CX P w) P w K mg base ["cls", "text", "head", "rows", "words", "machine", "row"] "Machine.read" (defScope s_Machine_read) f cdv A outer s H E).xe := passes_of rfl
  exact (sSs_cons (sS_if (sT_not (sT_val (sE_isi (t := "str") (.inl ⟨rfl, rfl⟩) (fun _ => ti_str) T.B.isinstance_ (pe_place (pv 1)) (pe_type T.B.str_ PyProof.Rows.boot_str)) (by intro _; rfl)))
      (sSs_cons (sS_never tab_no)
      sSs_nil)
      sSs_nil)
      (sSs_cons (sS_hd (by decide) rfl (sE_split (pe_place (pv 1)) (sA_cons (cS (s := "\n")) sA_nil rfl nofun)) sc_Machine_read.nd rfl rfl (by first | exact .inl rfl | exact .inr rfl) (by first | exact .inl rfl | exact .inr rfl))
      (sSs_cons (sS_set (i := 4) (by decide) sc_Machine_read.nd rfl (by first | exact .inl rfl | exact .inr rfl) (sE_split (pe_place (pv 2)) (sA_cons (cS (s := " ")) sA_nil rfl nofun)))
      (sSs_cons (sS_if (PW.pt (sW_or (sT_cmp (o := .ne) hr (oE (b1 cr_len T.B.len_ PySem.boot_len (pe_place (pv 4)))) (oE cI) (nomark _)) (pw_or1 (sT_cmp (o := .ne) hr (oE (sE_idx hr (pe_place (pv 4)) (oE cI) (fun _ _ => rfl))) (oE (cS (s := "machine"))) (nomark _)))))
      (sSs_cons (sS_never tab_no)
      sSs_nil)
      sSs_nil)
      (sSs_cons (sS_try (sSs_cons (sS_set (i := 5) (by decide) sc_Machine_read.nd rfl (by first | exact .inl rfl | exact .inr rfl) (sE_mkv (c := "Machine") M.f_Machine___init__ rfl gd hr takesW0 fn_Machine___init__ (pv 0) (sA_cons (sE_idx hr (pe_place (pv 4)) (oE cI) (fun _ _ => rfl)) (sA_cons (t1 cr_tupleF T.B.tuple_ PyProof.Rows.boot_tuple (oE (sE_lc rfl sc_Machine_read.nd (sI_seq (pe_name (pv 3))) (blkOk_by (own := [("row", 6)]) (N := ["cls", "text", "head", "rows", "words", "machine", "row"]) (sc := defScope s_Machine_read) (by decide +kernel)) rfl (by decide) (fun _ _ _ _ _ => (sG_name (i := 6) sc_Machine_read.nd rfl (by first | exact .inl rfl | exact .inr rfl))) (fun _ _ _ _ _ => sC_none) (fun _ _ _ _ _ => (cE C.f_state_of gd hr takesW0 fn_state_of (sArgs_one (aV (pv 6)) rfl)))))) sA_nil rfl nofun) rfl nofun)))
      sSs_nil))
      (sSs_cons (sS_retV (pv 5))
      sSs_nil))))))
theorem step (T : Txt K mg) (C : Good P w K mg base (k + 2) cal) (M : Good P w K mg base (k + 1) mkc) : Good P w K mg base (k + 3) (evB tab cal mkc) := {
  f_is_integer := okE_def (k := k + 2) T.d_is_integer sc_is_integer fn_is_integer rfl rfl rfl (fun _ _ _ _ _ _ us hl => match us, hl with | [_, _, _], _ => rfl) (b_is_integer T C M)
  f_is_word_of := okE_def (k := k + 2) T.d_is_word_of sc_is_word_of fn_is_word_of rfl rfl rfl (fun _ _ _ _ _ _ us hl => match us, hl with | [_, _, _], _ => rfl) (b_is_word_of T C M)
  f_is_tuple_of := okE_def (k := k + 2) T.d_is_tuple_of sc_is_tuple_of fn_is_tuple_of rfl rfl rfl (fun _ _ _ _ _ _ us hl => match us, hl with | [_, _], _ => rfl) (b_is_tuple_of T C M)
  f_are_letters := okE_def (k := k + 2) T.d_are_letters sc_are_letters fn_are_letters rfl rfl rfl (fun _ _ _ _ _ _ us hl => match us, hl with | [_], _ => rfl) (b_are_letters T C M)
  f_is_state := okE_def (k := k + 2) T.d_is_state sc_is_state fn_is_state rfl rfl rfl (fun _ _ _ _ _ _ us hl => match us, hl with | [_, _, _], _ => rfl) (b_is_state T C M)
  f_digit_of := okE_def (k := k + 2) T.d_digit_of sc_digit_of fn_digit_of rfl rfl rfl (fun _ _ _ _ _ _ us hl => match us, hl with | [_], _ => rfl) (b_digit_of T C M)
  f_state_of := okE_def (k := k + 2) T.d_state_of sc_state_of fn_state_of rfl rfl rfl (fun _ _ _ _ _ _ us hl => match us, hl with | [_], _ => rfl) (b_state_of T C M)
  f__law_bag := okE_def (k := k + 2) T.d__law_bag sc__law_bag fn__law_bag rfl rfl rfl (fun _ _ _ _ _ _ us hl => match us, hl with | [_, _], _ => rfl) (b__law_bag T C M)
  f__law_take := okE_def (k := k + 2) T.d__law_take sc__law_take fn__law_take rfl rfl rfl (fun _ _ _ _ _ _ us hl => match us, hl with | [_, _], _ => rfl) (b__law_take T C M)
  f__law_signs := okE_def (k := k + 2) T.d__law_signs sc__law_signs fn__law_signs rfl rfl rfl (fun _ _ _ _ _ _ us hl => match us, hl with | [_], _ => rfl) (b__law_signs T C M)
  f__law_rows := okE_def (k := k + 2) T.d__law_rows sc__law_rows fn__law_rows rfl rfl rfl (fun _ _ _ _ _ _ us hl => match us, hl with | [_, _, _], _ => rfl) (b__law_rows T C M)
  f__law_page := okE_def (k := k + 2) T.d__law_page sc__law_page fn__law_page rfl rfl rfl (fun _ _ _ _ _ _ us hl => match us, hl with | [_, _], _ => rfl) (b__law_page T C M)
  f__law_pair_right := okE_def (k := k + 2) T.d__law_pair_right sc__law_pair_right fn__law_pair_right rfl rfl rfl (fun _ _ _ _ _ _ us hl => match us, hl with | [_, _, _], _ => rfl) (b__law_pair_right T C M)
  f__law_others := okE_def (k := k + 2) T.d__law_others sc__law_others fn__law_others rfl rfl rfl (fun _ _ _ _ _ _ us hl => match us, hl with | [_, _, _], _ => rfl) (b__law_others T C M)
  f__law_right := okE_def (k := k + 2) T.d__law_right sc__law_right fn__law_right rfl rfl rfl (fun _ _ _ _ _ _ us hl => match us, hl with | [_], _ => rfl) (b__law_right T C M)
  f__law_quiet := okE_def (k := k + 2) T.d__law_quiet sc__law_quiet fn__law_quiet rfl rfl rfl (fun _ _ _ _ _ _ us hl => match us, hl with | [_], _ => rfl) (b__law_quiet T C M)
  f_law := okE_def (k := k + 2) T.d_law sc_law fn_law rfl rfl rfl (fun _ _ _ _ _ _ us hl => match us, hl with | [_], _ => rfl) (b_law T C M)
  f_Machine___init__ := okNE_def (k := k + 2) (mach_new T.M) sc_Machine___init__ fn_Machine___init__ rfl rfl rfl (fun _ _ _ _ _ _ us hl => match us, hl with | [_, _, _], _ => rfl) (b_Machine___init__ T C M)
  f_Machine___len__ := okME_def (k := k + 2) T.m_Machine___len__ sc_Machine___len__ fn_Machine___len__ rfl rfl rfl (fun _ _ _ _ _ _ us hl => match us, hl with | [_], _ => rfl) (b_Machine___len__ T C M)
  f_Machine___bool__ := okME_def (k := k + 2) T.m_Machine___bool__ sc_Machine___bool__ fn_Machine___bool__ rfl rfl rfl (fun _ _ _ _ _ _ us hl => match us, hl with | [_], _ => rfl) (b_Machine___bool__ T C M)
  f_Machine___str__ := okME_def (k := k + 2) T.m_Machine___str__ sc_Machine___str__ fn_Machine___str__ rfl rfl rfl (fun _ _ _ _ _ _ us hl => match us, hl with | [_], _ => rfl) (b_Machine___str__ T C M)
  f_Machine___eq__ := okME_def (k := k + 2) T.m_Machine___eq__ sc_Machine___eq__ fn_Machine___eq__ rfl rfl rfl (fun _ _ _ _ _ _ us hl => match us, hl with | [_, _], _ => rfl) (b_Machine___eq__ T C M)
  f_Machine_read := okCE_def (k := k + 2) T.m_Machine_read sc_Machine_read fn_Machine_read rfl rfl rfl (b_Machine_read T C M)
}
theorem good0 (T : Txt K mg) : Good P w K mg base k none2 := {
  f_is_integer := okE_none T.d_is_integer (fun _ _ _ _ _ _ us hl => match us, hl with | [_, _, _], _ => rfl)
  f_is_word_of := okE_none T.d_is_word_of (fun _ _ _ _ _ _ us hl => match us, hl with | [_, _, _], _ => rfl)
  f_is_tuple_of := okE_none T.d_is_tuple_of (fun _ _ _ _ _ _ us hl => match us, hl with | [_, _], _ => rfl)
  f_are_letters := okE_none T.d_are_letters (fun _ _ _ _ _ _ us hl => match us, hl with | [_], _ => rfl)
  f_is_state := okE_none T.d_is_state (fun _ _ _ _ _ _ us hl => match us, hl with | [_, _, _], _ => rfl)
  f_digit_of := okE_none T.d_digit_of (fun _ _ _ _ _ _ us hl => match us, hl with | [_], _ => rfl)
  f_state_of := okE_none T.d_state_of (fun _ _ _ _ _ _ us hl => match us, hl with | [_], _ => rfl)
  f__law_bag := okE_none T.d__law_bag (fun _ _ _ _ _ _ us hl => match us, hl with | [_, _], _ => rfl)
  f__law_take := okE_none T.d__law_take (fun _ _ _ _ _ _ us hl => match us, hl with | [_, _], _ => rfl)
  f__law_signs := okE_none T.d__law_signs (fun _ _ _ _ _ _ us hl => match us, hl with | [_], _ => rfl)
  f__law_rows := okE_none T.d__law_rows (fun _ _ _ _ _ _ us hl => match us, hl with | [_, _, _], _ => rfl)
  f__law_page := okE_none T.d__law_page (fun _ _ _ _ _ _ us hl => match us, hl with | [_, _], _ => rfl)
  f__law_pair_right := okE_none T.d__law_pair_right (fun _ _ _ _ _ _ us hl => match us, hl with | [_, _, _], _ => rfl)
  f__law_others := okE_none T.d__law_others (fun _ _ _ _ _ _ us hl => match us, hl with | [_, _, _], _ => rfl)
  f__law_right := okE_none T.d__law_right (fun _ _ _ _ _ _ us hl => match us, hl with | [_], _ => rfl)
  f__law_quiet := okE_none T.d__law_quiet (fun _ _ _ _ _ _ us hl => match us, hl with | [_], _ => rfl)
  f_law := okE_none T.d_law (fun _ _ _ _ _ _ us hl => match us, hl with | [_], _ => rfl)
  f_Machine___init__ := okNE_none (mach_new T.M) (fun _ _ _ _ _ _ us hl => match us, hl with | [_, _, _], _ => rfl)
  f_Machine___len__ := okME_none T.m_Machine___len__ (fun _ _ _ _ _ _ us hl => match us, hl with | [_], _ => rfl)
  f_Machine___bool__ := okME_none T.m_Machine___bool__ (fun _ _ _ _ _ _ us hl => match us, hl with | [_], _ => rfl)
  f_Machine___str__ := okME_none T.m_Machine___str__ (fun _ _ _ _ _ _ us hl => match us, hl with | [_], _ => rfl)
  f_Machine___eq__ := okME_none T.m_Machine___eq__ (fun _ _ _ _ _ _ us hl => match us, hl with | [_, _], _ => rfl)
  f_Machine_read := okCE_none T.m_Machine_read 
}
theorem good2 (T : Txt K mg) : ∀ k, Good P w K mg base (k + 2) (ev2 tab k).1 ∧ Good P w K mg base (k + 1) (ev2 tab k).2
  | 0 => ⟨good0 T, good0 T⟩
  | k + 1 => ⟨step T (good2 T k).1 (good2 T k).2, (good2 T k).1⟩
theorem good (T : Txt K mg) (k : Nat) : Good P w K mg base (k + 2) (evF tab k) := (good2 T k).1
end
end EV
namespace EV
theorem evF_succ (T : Tab) (k : Nat) : evF T (k + 1) = evB T (evF T k) (ev2 T k).2 := rfl
theorem mkc_succ (T : Tab) (k : Nat) : (ev2 T (k + 1)).2 = evF T k := rfl
theorem run_def {T : Tab} {cal mkc : Cal} {f : String} {d : Def} {args : List Slot} (hd : T.fn f = some d) (hx : T.ext f = none) (h : (args.length == d.ps.length && decide (d.ps.length ≤ d.n) && sameKind args d.io) = true) : evB T cal mkc f args = endF args d.ps.length (evSs T cal mkc d.body (args ++ List.replicate (d.n - d.ps.length) .un)) := by
  simp only [Bool.and_eq_true, beq_iff_eq, decide_eq_true_eq] at h
  simp only [evB, hx, hd]
  rw [if_pos ⟨h.1.1, h.1.2, h.2⟩]
theorem set_id {α : Type} {l : List α} {i : Nat} {x : α} (h : l[i]? = some x) : l.set i x = l := by
  apply List.ext_getElem?
  intro j
  have hi := (List.getElem?_eq_some_iff.mp h).1
  rw [set_get hi]
  by_cases hj : j = i
  · rw [if_pos hj, hj, h]
  · rw [if_neg hj]
theorem lc_one {f : Ro → Res (Option Val)} {i : Nat} {g : Val → Option Val} {ρ : Ro} (hi : ρ[i]? = some .un) : ∀ {xs : List Val}, (∀ x ∈ xs, f (ρ.set i (.fz x)) = some (.ok (g x) (ρ.set i (.fz x)))) → lcLoop f (.nm i) [i] xs ρ = some (.ok (xs.filterMap g) ρ)
  | [], _ => rfl
  | x :: xs, h => by
    have hl := (List.getElem?_eq_some_iff.mp hi).1
    have ih := lc_one (f := f) (g := g) hi (xs := xs) fun y hy => h y (List.mem_cons_of_mem _ hy)
    have hw : wipeR (ρ.set i (.fz x)) [i] = ρ := by
      simp only [wipeR]
      rw [List.set_set, set_id hi]
    simp only [lcLoop, assn]
    rw [if_pos hl]
    simp only [h x List.mem_cons_self, bnd_ok, hw, ih, pur]
    rw [List.filterMap_cons]
    cases g x <;> rfl
section
variable {T : Tab} {cal mkc : Cal}
theorem ev_lc1 {i : Nat} {it : Iter} {c : Option Ex} {e : Ex} {ρ ρ1 : Ro} {xs : List Val} {s : Slot} {g : Val → Option Val} (hit : evIt T cal mkc it ρ = some (.ok xs ρ1)) (hl : xs.length ≤ cap) (hi : ρ1[i]? = some s) (hs : ∀ v, s ≠ .ow v)
    (h : ∀ x ∈ xs, lcF T cal mkc c e (ρ1.set i (.fz x)) = some (.ok (g x) (ρ1.set i (.fz x)))) : evE T cal mkc (.lc [i] (.nm i) it c e) ρ = some (.ok (.ow (.lst (xs.filterMap g))) ρ1) := by
  have hil := (List.getElem?_eq_some_iff.mp hi).1
  have hcl : clean [i] ρ1 = true := by
    cases s with
    | ow v => exact absurd rfl (hs v)
    | fz v => simp [clean, hi]
    | un => simp [clean, hi]
  have hu : (wipeR ρ1 [i])[i]? = some .un := by simp only [wipeR]; exact List.getElem?_set_self hil
  have hlp : lcLoop (lcF T cal mkc c e) (.nm i) [i] xs (wipeR ρ1 [i]) = some (.ok (xs.filterMap g) (wipeR ρ1 [i])) := by
    refine lc_one hu fun x hx => ?_
    have e1 : (wipeR ρ1 [i]).set i (.fz x) = ρ1.set i (.fz x) := by simp only [wipeR]; rw [List.set_set]
    rw [e1]; exact h x hx
  have hun : unwipe [i] ρ1 (wipeR ρ1 [i]) = ρ1 := by
    simp only [unwipe, wipeR, hi, Option.getD_some]
    first | done | (rw [List.set_set, set_id hi])
  simp only [evE, hit, bnd_ok]
  rw [if_pos ⟨hl, hcl⟩]
  have hlp' := hlp
  unfold lcF at hlp'
  rw [hlp']
  simp only [quiet, bnd_ok, pur, hun]
theorem ev_lcG {ns : List Nat} {t : Tg} {it : Iter} {c : Option Ex} {e : Ex} {ρ ρ1 ρ2 : Ro} {xs ys : List Val} (hit : evIt T cal mkc it ρ = some (.ok xs ρ1)) (hl : xs.length ≤ cap) (hc : clean ns ρ1 = true) (h : lcLoop (lcF T cal mkc c e) t ns xs (wipeR ρ1 ns) = some (.ok ys ρ2)) : evE T cal mkc (.lc ns t it c e) ρ = some (.ok (.ow (.lst ys)) (unwipe ns ρ1 ρ2)) := by
  simp only [evE, hit, bnd_ok]
  rw [if_pos ⟨hl, hc⟩]
  have h' := h
  unfold lcF at h'
  rw [h']
  simp only [quiet, bnd_ok, pur]
theorem forF_inv {body : Ro → Res Fl} {t : Tg} (I : Nat → Ro → Prop) : ∀ (xs : List Val) (n : Nat) (ρ : Ro), I n ρ → (∀ (m : Nat) (x : Val) (ρ : Ro), xs[m]? = some x → I (n + m) ρ → ∃ ρ1 ρ2, assn t (.fz x) ρ = some ρ1 ∧ body ρ1 = some (.ok .nx ρ2) ∧ I (n + m + 1) ρ2) → ∃ ρ', forF body t xs ρ = some (.ok .nx ρ') ∧ I (n + xs.length) ρ'
  | [], n, ρ, h0, _ => ⟨ρ, rfl, h0⟩
  | x :: xs, n, ρ, h0, hs => by
    obtain ⟨ρ1, ρ2, h1, h2, h3⟩ := hs 0 x ρ rfl h0
    obtain ⟨ρ', h4, h5⟩ := forF_inv I xs (n + 1) ρ2 h3 fun m y ρ hy hI => by
      have := hs (m + 1) y ρ (by simpa using hy) (by rw [show n + (m + 1) = n + 1 + m by omega]; exact hI)
      rw [show n + (m + 1) + 1 = n + 1 + m + 1 by omega] at this
      exact this
    refine ⟨ρ', ?_, by rw [List.length_cons, show n + (xs.length + 1) = n + 1 + xs.length by omega]; exact h5⟩
    simp only [forF, h1, h2, bnd_ok, h4]
theorem lc_inv {f : Ro → Res (Option Val)} {t : Tg} {ns : List Nat} (I : Nat → Ro → List Val → Prop) : ∀ (xs : List Val) (n : Nat) (ρ : Ro) (acc : List Val), I n ρ acc → (∀ (m : Nat) (x : Val) (ρ : Ro) (acc : List Val), xs[m]? = some x → I (n + m) ρ acc → ∃ ρ1 y ρ2, assn t (.fz x) ρ = some ρ1 ∧ f ρ1 = some (.ok y ρ2) ∧ I (n + m + 1) (wipeR ρ2 ns) (acc ++ y.toList)) → ∃ ys ρ', lcLoop f t ns xs ρ = some (.ok ys ρ') ∧ I (n + xs.length) ρ' (acc ++ ys)
  | [], n, ρ, acc, h0, _ => ⟨[], ρ, rfl, by simpa using h0⟩
  | x :: xs, n, ρ, acc, h0, hs => by
    obtain ⟨ρ1, y, ρ2, h1, h2, h3⟩ := hs 0 x ρ acc rfl h0
    obtain ⟨ys, ρ', h4, h5⟩ := lc_inv I xs (n + 1) (wipeR ρ2 ns) (acc ++ y.toList) h3 fun m z ρ acc hz hI => by
      have := hs (m + 1) z ρ acc (by simpa using hz) (by rw [show n + (m + 1) = n + 1 + m by omega]; exact hI)
      rw [show n + (m + 1) + 1 = n + 1 + m + 1 by omega] at this
      exact this
    refine ⟨y.toList ++ ys, ρ', ?_, by rw [List.length_cons, show n + (xs.length + 1) = n + 1 + xs.length by omega, ← List.append_assoc]; exact h5⟩
    simp only [lcLoop, h1, h2, bnd_ok, h4, pur]
    cases y <;> rfl
end
end EV
namespace GH
section
variable {α : Type} [DecidableEq α]
inductive RI (A : α → List α) (S : α → Prop) : α → α → Prop
  | one {a b : α} : b ∈ A a → S b → RI A S a b
  | more {a b c : α} : RI A S a b → c ∈ A b → S c → RI A S a c
namespace RI
variable {A : α → List α} {S S' : α → Prop} {a b c : α}
theorem trans (h : RI A S a b) (g : RI A S b c) : RI A S a c := by
  induction g with
  | one h1 h2 => exact .more h h1 h2
  | more _ h1 h2 ih => exact .more ih h1 h2
theorem mono (hS : ∀ x, S x → S' x) (h : RI A S a b) : RI A S' a b := by
  induction h with
  | one h1 h2 => exact .one h1 (hS _ h2)
  | more _ h1 h2 ih => exact .more ih h1 (hS _ h2)
theorem first (h : RI A S a b) : ∃ x ∈ A a, S x ∧ (x = b ∨ RI A S x b) := by
  induction h with
  | one h1 h2 => exact ⟨_, h1, h2, .inl rfl⟩
  | more _ h1 h2 ih =>
    obtain ⟨x, hx, hs, h⟩ := ih
    refine ⟨x, hx, hs, .inr ?_⟩
    rcases h with rfl | h
    · exact .one h1 h2
    · exact .more h h1 h2
end RI
def RR (A : α → List α) (S : α → Prop) (a b : α) : Prop := a = b ∨ RI A S a b
namespace RR
variable {A : α → List α} {S S' : α → Prop} {a b c : α}
theorem refl : RR A S a a := .inl rfl
theorem trans (h : RR A S a b) (g : RR A S b c) : RR A S a c := by
  rcases h with rfl | h
  · exact g
  · rcases g with rfl | g
    · exact .inr h
    · exact .inr (h.trans g)
theorem ri (h : RR A S a b) (g : RI A S b c) : RI A S a c := by
  rcases h with rfl | h
  · exact g
  · exact h.trans g
theorem mono (hS : ∀ x, S x → S' x) (h : RR A S a b) : RR A S' a b := h.imp id (RI.mono hS)
theorem step (h : RR A S a b) (h1 : c ∈ A b) (h2 : S c) : RR A S a c := .inr (ri h (.one h1 h2))
end RR
def Hang (A : α → List α) (S : α → Prop) (f x : α) : Prop := RR A S f x ∧ RR A S x f
theorem Hang.within {A : α → List α} {S : α → Prop} {f a b : α} (ha : Hang A S f a) (h : RI A S a b) : RR A S b f → RI A (Hang A S f) a b := by
  induction h with
  | one h1 h2 => exact fun hb => .one h1 ⟨ha.1.step h1 h2, hb⟩
  | more h0 h1 h2 ih => exact fun hb => .more (ih (RR.trans (.inr (.one h1 h2)) hb)) h1 ⟨(RR.trans ha.1 (.inr h0)).step h1 h2, hb⟩
theorem Hang.more {A : α → List α} {S : α → Prop} {f : α} (hf : S f) (h : RI A S f f) : f ∈ A f ∨ ∃ y, y ≠ f ∧ Hang A S f y := by
  cases h with
  | one h1 _ => exact .inl h1
  | @more b _ h0 h1 _ =>
    by_cases e : b = f
    · exact .inl (e ▸ h1)
    · exact .inr ⟨b, e, .inr h0, .inr (.one h1 hf)⟩
abbrev FndG (α : Type) := List (α × List Nat)
def keysG (f : FndG α) : List α := f.map (·.1)
def pushG (ins : List α) (u : List Nat) (f : FndG α) (a : Nat × α) : FndG α := if a.2 ∈ ins ∧ a.2 ∉ keysG f then f ++ [(a.2, u ++ [a.1])] else f
def spreadG (L : List Nat) (A : α → List α) (ins : List α) (f : FndG α) (p : α × List Nat) : FndG α := (L.zip (A p.1)).foldl (pushG ins p.2) f
def bfsG (L : List Nat) (A : α → List α) (ins : List α) (first : α) : Nat → FndG α
  | 0 => [(first, [])]
  | k + 1 => match (bfsG L A ins first k)[k]? with
    | some p => spreadG L A ins (bfsG L A ins first k) p
    | none => bfsG L A ins first k
theorem waysG_ex (L : List Nat) (A : α → List α) (ins : List α) (first : α) : ∃ f : FndG α, f = bfsG L A ins first 4096 := ⟨_, rfl⟩
noncomputable def waysG (L : List Nat) (A : α → List α) (ins : List α) (first : α) : FndG α := Classical.choose (waysG_ex L A ins first)
structure GrOk (L : List Nat) (D : List α) (A : α → List α) : Prop where
  small : D.length ≤ 400
  nodup : D.Nodup
  arr : ∀ a ∈ D, (A a).length = L.length
  tgt : ∀ a ∈ D, ∀ b ∈ A a, b ∈ D
section
variable {L : List Nat} {D : List α} {A : α → List α} (G : GrOk L D A)
include G
end
noncomputable def partG (L : List Nat) (A : α → List α) (ins : List α) (first : α) : List α := (keysG (waysG L A ins first)).filter fun p => decide (first ∈ keysG (waysG L A ins p))
noncomputable def partsStepG (L : List Nat) (A : α → List α) (ins : List α) (st : List (List α) × List α) (place : α) : List (List α) × List α :=
  if place ∈ st.2 then st else (if 1 < (partG L A ins place).length ∨ place ∈ A place then st.1 ++ [partG L A ins place] else st.1, st.2 ++ (partG L A ins place).filter fun x => decide (x ∉ st.2))
noncomputable def partsG (L : List Nat) (A : α → List α) (ins : List α) : List (List α) := (ins.foldl (partsStepG L A ins) ([], [])).1
section
variable {L : List Nat} {D : List α} {A : α → List α} (G : GrOk L D A) {ins : List α} (hi : ∀ x ∈ ins, x ∈ D)
include G hi
end
end
end GH
namespace GH
section
variable {α : Type} [DecidableEq α]
def uptoG (C : α → Int) (ins : List α) (c : Int) : List α := ins.filter fun p => decide (C p ≤ c)
def hasG (C : α → Int) (ins : List α) (c : Int) : List α := ins.filter fun p => decide (C p = c)
noncomputable def loopsG (L : List Nat) (A : α → List α) (C : α → Int) (ins : List α) (cs : List Int) : List (List α × α) := cs.flatMap fun c => (partsG L A (uptoG C ins c)).filterMap fun P => (hasG C P c).head?.map fun t => (P, t)
def Lot (A : α → List α) (X : List α) : Prop := ∀ a ∈ X, ∀ b ∈ X, RI A (· ∈ X) a b
def TopIs (C : α → Int) (X : List α) (c : Int) : Prop := (∀ a ∈ X, C a ≤ c) ∧ ∃ a ∈ X, C a = c
def EndsIn (A : α → List α) (C : α → Int) (D : List α) (par : Int → Prop) (p : α) : Prop := ∃ X c, (∀ x ∈ X, x ∈ D) ∧ Lot A X ∧ TopIs C X c ∧ par c ∧ ∃ g ∈ X, RR A (· ∈ D) p g
section
variable {L : List Nat} {D : List α} {A : α → List α} {C : α → Int} (G : GrOk L D A) {ins : List α} (hi : ∀ x ∈ ins, x ∈ D)
include G hi
end
noncomputable def leadsG (L : List Nat) (A : α → List α) (ins ends : List α) : List α := ins.filter fun p => ends.any fun e => decide (e ∈ keysG (waysG L A ins p))
open Classical in
noncomputable def endsG (A : α → List α) (C : α → Int) (D : List α) (par : Int → Prop) : List α := D.filter fun p => decide (EndsIn A C D par p)
section
variable {L : List Nat} {D : List α} {A : α → List α} {C : α → Int} (G : GrOk L D A)
include G
end
section
variable {A A' : α → List α} {C C' : α → Int} {D D' : List α} (hA : ∀ a ∈ D, A' a = A a) (hC : ∀ a ∈ D, C' a = C a) (hcl : ∀ a ∈ D, ∀ b ∈ A a, b ∈ D) (hDD : ∀ a ∈ D, a ∈ D')
def Sealed (A : α → List α) (C : α → Int) (D : List α) (e : α) : Prop := ¬ EndsIn A C D (fun c => c % 2 = 0) e ∨ ¬ EndsIn A C D (fun c => c % 2 = 1) e
def Wat (A : α → List α) (C : α → Int) (D : List α) (p : α) : Prop := ∀ q, RR A (· ∈ D) p q → ∃ e, RR A (· ∈ D) q e ∧ Sealed A C D e
end
end
def lotsF : Nat → List (List Int)
  | 0 => [[]]
  | n + 1 => lotsF n ++ (lotsF n).map fun X => X ++ [(n : Int)]
def zeroTo (n : Nat) : List Int := (List.range n).map fun k => ((k : Nat) : Int)
end GH
namespace EV
open PySem GH
def Sh (m : Nat) (v : Val) : Prop := ∃ d, toD v = some d ∧ d.canLay0 = true ∧ d.depth ≤ m
theorem Sh.shp {m : Nat} {v : Val} (h : Sh m v) (hm : m ≤ 64) : shp v = true := by
  obtain ⟨d, h1, h2, h3⟩ := h
  unfold EV.shp
  rw [h1]
  show (d.canLay0 && decide (d.depth ≤ 64)) = true
  rw [h2, decide_eq_true (by omega)]; rfl
theorem Sh.mono {m n : Nat} {v : Val} (h : Sh m v) (hm : m ≤ n) : Sh n v := by
  obtain ⟨d, h1, h2, h3⟩ := h
  exact ⟨d, h1, h2, by omega⟩
theorem Sh.int (i : Int) : Sh 0 (.int i) := ⟨_, rfl, rfl, by simp [PyData.depth]⟩
theorem Sh.all {m : Nat} : ∀ {xs : List Val}, (∀ x ∈ xs, Sh m x) → ∃ ds, toDs xs = some ds ∧ PyData.canLayAll0 ds = true ∧ PyData.depthAll ds ≤ m
  | [], _ => ⟨[], by simp [toDs], rfl, by simp [PyData.depthAll]⟩
  | x :: xs, h => by
    obtain ⟨d, h1, h2, h3⟩ := h x List.mem_cons_self
    obtain ⟨ds, g1, g2, g3⟩ := Sh.all (xs := xs) fun y hy => h y (List.mem_cons_of_mem _ hy)
    refine ⟨d :: ds, by simp [toDs, h1, g1], by simp [PyData.canLayAll0, h2, g2], ?_⟩
    simp only [PyData.depthAll]
    omega
theorem Sh.lst {m : Nat} {xs : List Val} (h : ∀ x ∈ xs, Sh m x) : Sh (m + 1) (.lst xs) := by
  obtain ⟨ds, g1, g2, g3⟩ := Sh.all h
  refine ⟨.list ds, by simp [toD, g1], by simp [PyData.canLay0, g2], ?_⟩
  simp only [PyData.depth]
  omega
theorem Sh.tup {m : Nat} {xs : List Val} (h : ∀ x ∈ xs, Sh m x) : Sh (m + 1) (.tup xs) := by
  obtain ⟨ds, g1, g2, g3⟩ := Sh.all h
  refine ⟨.tuple ds, by simp [toD, g1], by simp [PyData.canLay0, g2], ?_⟩
  simp only [PyData.depth]
  omega
class Pl (α : Type) [DecidableEq α] where
  pv : α → Val
  tp : Bool
  eq' : ∀ a b, eqv (pv a) (pv b) = decide (a = b)
  sh : ∀ a, Sh 2 (pv a)
  up : ∀ k l : List α, l.Nodup → l ≠ [] → updOk (k.map fun a => (pv a, .bl true)) (l.map fun a => (pv a, .bl true)) = true
  dk : ∀ a, dkey (pv a) = true
  tu : ∀ a, isTup (pv a) = tp
open Pl
instance : Pl Int where
  pv := .int
  tp := false
  eq' := fun a b => by simp [eqv]; rfl
  sh := fun a => (Sh.int a).mono (by omega)
  up := fun k l _ _ => by simp [updOk, keyOk]
  dk := fun _ => rfl
  tu := fun _ => rfl
section
variable {α β : Type} [DecidableEq α] [Pl α]
structure InsV (iv : Val) (ins : List α) : Prop where
  is : ∀ x : α, inF (pv x) iv = some (decide (x ∈ ins))
  items : itemsF iv = some (ins.map pv)
theorem lc_gen {f : Ro → Res (Option Val)} {t : Tg} {ns : List Nat} {ρ : Ro} (val : β → Val) (g : β → Option Val) : ∀ {xs : List β}, (∀ x ∈ xs, ∃ ρ1 ρ2, assn t (.fz (val x)) ρ = some ρ1 ∧ f ρ1 = some (.ok (g x) ρ2) ∧ wipeR ρ2 ns = ρ) → lcLoop f t ns (xs.map val) ρ = some (.ok (xs.filterMap g) ρ)
  | [], _ => rfl
  | x :: xs, h => by
    obtain ⟨ρ1, ρ2, h1, h2, h3⟩ := h x List.mem_cons_self
    have ih := lc_gen (f := f) val g (xs := xs) fun y hy => h y (List.mem_cons_of_mem _ hy)
    rw [List.map_cons]
    simp only [lcLoop, h1, h2, bnd_ok, h3, ih, pur]
    rw [List.filterMap_cons]
    cases g x <;> rfl
variable {T : Tab} {cal mkc : Cal}
end
section
variable {T : Tab} {cal mkc : Cal}
end
end EV
namespace EV.Y
def Vp {α : Type} (m : Res α) (Q : α → Ro → Prop) : Prop := ∃ a ρ, m = some (.ok a ρ) ∧ Q a ρ
def Up {α : Type} (o : Option α) (Q : α → Prop) : Prop := ∃ a, o = some a ∧ Q a
def IfV (d : Bool) (A B : Prop) : Prop := if d = true then A else B
theorem ifV_t {A B : Prop} : IfV true A B ↔ A := by simp [IfV]
theorem ifV_f {A B : Prop} : IfV false A B ↔ B := by simp [IfV]
theorem ifV_of {d : Bool} {A B : Prop} (h1 : d = true → A) (h2 : d = false → B) : IfV d A B := by
  cases d with
  | true => exact ifV_t.mpr (h1 rfl)
  | false => exact ifV_f.mpr (h2 rfl)
theorem vp_mono {α : Type} {m : Res α} {Q Q' : α → Ro → Prop} (h : Vp m Q) (hq : ∀ a ρ, Q a ρ → Q' a ρ) : Vp m Q' := let ⟨a, ρ, e, q⟩ := h; ⟨a, ρ, e, hq a ρ q⟩
def asInt : Slot → Option Int
  | .fz (.int i) => some i
  | _ => none
def asSeq : Val → Option (List Val)
  | .lst xs => some xs
  | .tup xs => some xs
  | _ => none
def asTp : Val → Option (List Val)
  | .tup xs => some xs
  | _ => none
def augS : Slot → Option Slot
  | .fz (.int i) => some (.fz (.int i))
  | .fz (.str i) => some (.fz (.str i))
  | _ => none
def asNew : Slot → List Slot → Option Val
  | .fz .non, .ow (.obj c fs) :: _ => some (.obj c fs)
  | _, _ => none
def asTwo : Slot → Option (Val × Val)
  | .fz (.tup [x, y]) => some (x, y)
  | _ => none
def setfT (T : Tab) (f : String) (x u : Val) : Option Val := match u with
  | .obj c fs => if fs.length < 20 ∧ T.fld c f = true then some (.obj c (putFs f x fs)) else none
  | _ => none
def asHd : Val → Option (Val × List Val)
  | .lst (x :: xs) => some (x, xs)
  | _ => none
def valAt (i : Nat) (ρ : Ro) : Option Val := (ρ[i]?).bind Slot.val
def isV : Ex → Bool
  | .v _ => true
  | _ => false
def isStar : Ex → Bool
  | .star _ => true
  | _ => false
section
variable {α β : Type} {Q : α → Ro → Prop} {P : α → Prop}
theorem v_cg {m : Res α} {Q' : α → Ro → Prop} (h : ∀ a ρ, Q a ρ ↔ Q' a ρ) : Vp m Q ↔ Vp m Q' := ⟨fun ⟨a, ρ, e, q⟩ => ⟨a, ρ, e, (h a ρ).mp q⟩, fun ⟨a, ρ, e, q⟩ => ⟨a, ρ, e, (h a ρ).mpr q⟩⟩
theorem v_bnd {m : Res β} {k : β → Ro → Res α} : Vp (bnd m k) Q ↔ Vp m fun a ρ => Vp (k a ρ) Q := by
  constructor
  · rintro ⟨a, ρ, e, q⟩
    match m, e with
    | some (.ok b ρ'), e => exact ⟨b, ρ', rfl, a, ρ, e, q⟩
  · rintro ⟨b, ρ', rfl, a, ρ, e, q⟩
    exact ⟨a, ρ, e, q⟩
theorem v_pur {a : α} {ρ : Ro} : Vp (pur a ρ) Q ↔ Q a ρ := by
  constructor
  · rintro ⟨b, ρ', e, q⟩
    cases e
    exact q
  · exact fun q => ⟨_, _, rfl, q⟩
theorem v_ok {a : α} {ρ : Ro} : Vp (some (.ok a ρ)) Q ↔ Q a ρ := v_pur
theorem u_some {a : α} : Up (some a) P ↔ P a := by
  constructor
  · rintro ⟨b, e, q⟩
    cases e
    exact q
  · exact fun q => ⟨_, rfl, q⟩
theorem u_none : Up none P ↔ False := ⟨fun ⟨_, e, _⟩ => (nomatch e), False.elim⟩
theorem v_none : Vp none Q ↔ False := ⟨fun ⟨_, _, e, _⟩ => (nomatch e), False.elim⟩
theorem v_ex {e : Exc} {ρ : Ro} : Vp (some (.ex e ρ)) Q ↔ False := ⟨fun ⟨_, _, e, _⟩ => (nomatch e), False.elim⟩
theorem v_lift {o : Option α} {ρ : Ro} : Vp (lift o ρ) Q ↔ Up o fun a => Q a ρ := by
  cases o with
  | none => exact ⟨fun ⟨_, _, e, _⟩ => (nomatch e), fun ⟨_, e, _⟩ => (nomatch e)⟩
  | some a => rw [lift_some, v_pur, u_some]
theorem u_bind {o : Option β} {k : β → Option α} : Up (o.bind k) P ↔ Up o fun a => Up (k a) P := by
  cases o with
  | none => exact ⟨fun ⟨_, e, _⟩ => (nomatch e), fun ⟨_, e, _⟩ => (nomatch e)⟩
  | some a => rw [Option.bind_some, u_some]
theorem u_map {o : Option β} {k : β → α} : Up (o.map k) P ↔ Up o fun a => P (k a) := by
  cases o with
  | none => exact ⟨fun ⟨_, e, _⟩ => (nomatch e), fun ⟨_, e, _⟩ => (nomatch e)⟩
  | some a => rw [Option.map_some, u_some, u_some]
theorem v_guard {c : Prop} [Decidable c] {x : Res α} : Vp (if c then x else none) Q ↔ c ∧ Vp x Q := by
  by_cases h : c
  · rw [if_pos h]; exact ⟨fun q => ⟨h, q⟩, fun q => q.2⟩
  · rw [if_neg h, v_none]; exact ⟨False.elim, fun q => h q.1⟩
theorem v_guardN {c : Prop} [Decidable c] {x : Res α} : Vp (if c then none else x) Q ↔ ¬ c ∧ Vp x Q := by
  by_cases h : c
  · rw [if_pos h, v_none]; exact ⟨False.elim, fun q => q.1 h⟩
  · rw [if_neg h]; exact ⟨fun q => ⟨h, q⟩, fun q => q.2⟩
theorem u_guard {c : Prop} [Decidable c] {x : Option α} : Up (if c then x else none) P ↔ c ∧ Up x P := by
  by_cases h : c
  · rw [if_pos h]; exact ⟨fun q => ⟨h, q⟩, fun q => q.2⟩
  · rw [if_neg h, u_none]; exact ⟨False.elim, fun q => h q.1⟩
theorem u_guardN {c : Prop} [Decidable c] {x : Option α} : Up (if c then none else x) P ↔ ¬ c ∧ Up x P := by
  by_cases h : c
  · rw [if_pos h, u_none]; exact ⟨False.elim, fun q => q.1 h⟩
  · rw [if_neg h]; exact ⟨fun q => ⟨h, q⟩, fun q => q.2⟩
end
section
variable {T : Tab} {cal mkc : Cal} {ρ : Ro} {Q : Slot → Ro → Prop}
theorem v_v {i : Nat} : Vp (evE T cal mkc (.v i) ρ) Q ↔ Vp (slotAt i ρ) Q := by rw [evE_v]
theorem v_g {x : String} : Vp (evE T cal mkc (.g x) ρ) Q ↔ Up (T.cst x) fun v => Q (.fz v) ρ := by
  rw [evE]
  cases h : T.cst x with
  | none => simp only [v_none, u_none]
  | some v => simp only [v_pur, u_some]
theorem v_non : Vp (evE T cal mkc .non ρ) Q ↔ Q (.fz .non) ρ := by rw [evE, v_pur]
theorem v_bl {b : Bool} : Vp (evE T cal mkc (.bl b) ρ) Q ↔ Q (.fz (.bl b)) ρ := by rw [evE, v_pur]
theorem v_int {i : Int} : Vp (evE T cal mkc (.int i) ρ) Q ↔ Q (.fz (.int i)) ρ := by rw [evE, v_pur]
theorem v_str {s : String} : Vp (evE T cal mkc (.str s) ρ) Q ↔ Q (.fz (.str (asStr s))) ρ := by rw [evE, v_pur]
theorem v_tup {es : List Ex} : Vp (evE T cal mkc (.tup es) ρ) Q ↔ Vp (evEs T cal mkc es ρ) fun vs ρ' => vs.length ≤ cap ∧ Q (.fz (.tup vs)) ρ' := by simp only [evE, v_bnd, v_guard, v_pur]
theorem v_lst {es : List Ex} : Vp (evE T cal mkc (.lst es) ρ) Q ↔ Vp (evEs T cal mkc es ρ) fun vs ρ' => vs.length ≤ cap ∧ Q (.ow (.lst vs)) ρ' := by simp only [evE, v_bnd, v_guard, v_pur]
theorem v_bin {o : Bin} {a b : Ex} : Vp (evE T cal mkc (.bin o a b) ρ) Q ↔ Vp (opnd a (evE T cal mkc a) ρ) fun x ρ1 => Vp (opnd b (evE T cal mkc b) ρ1) fun y ρ2 => Up (x.val ρ2) fun u => Up (y.val ρ2) fun w => Up (binF o u w) fun r => Q r ρ2 := by simp only [evE, v_bnd, v_lift, u_bind]
theorem v_cmp {o : Cmp} {a b : Ex} : Vp (evE T cal mkc (.cmp o a b) ρ) Q ↔ Vp (opnd a (evE T cal mkc a) ρ) fun x ρ1 => Vp (opnd b (evE T cal mkc b) ρ1) fun y ρ2 => Up (x.val ρ2) fun u => Up (y.val ρ2) fun w => Up (cmpF o u w) fun c => Q (.fz (.bl c)) ρ2 := by simp only [evE, v_bnd, v_lift, u_bind, u_map]
theorem v_idx {a b : Ex} : Vp (evE T cal mkc (.idx a b) ρ) Q ↔ Vp (opnd a (evE T cal mkc a) ρ) fun x ρ1 => Vp (opnd b (evE T cal mkc b) ρ1) fun y ρ2 => Up (x.val ρ2) fun u => Up (y.val ρ2) fun w => Up (idxF u w) fun c => Q (.fz c) ρ2 := by simp only [evE, v_bnd, v_lift, u_bind, u_map]
theorem v_chain {o p : Cmp} {a b c : Ex} : Vp (evE T cal mkc (.chain o p a b c) ρ) Q ↔ Vp (opnd a (evE T cal mkc a) ρ) fun x ρ1 => Vp (opnd b (evE T cal mkc b) ρ1) fun y ρ2 => Up (x.val ρ2) fun u => Up (y.val ρ2) fun w => Up (cmpF o u w) fun d => IfV d (Vp (opnd c (evE T cal mkc c) ρ2) fun z ρ3 => Up (y.val ρ3) fun u => Up (z.val ρ3) fun w => Up (cmpF p u w) fun e => Q (.fz (.bl e)) ρ3) (Q (.fz (.bl false)) ρ2) := by
  simp only [evE, v_bnd]
  refine v_cg fun x ρ1 => v_cg fun y ρ2 => ?_
  cases x.val ρ2 with
  | none => simp only [Option.bind_none, v_none, u_none]
  | some u =>
    cases y.val ρ2 with
    | none => simp only [Option.bind_none, Option.bind_some, v_none, u_none, u_some]
    | some v =>
      simp only [Option.bind_some, u_some]
      cases cmpF o u v with
      | none => simp only [v_none, u_none]
      | some d => cases d <;> simp only [u_some, v_bnd, v_lift, u_bind, u_map, v_pur, ifV_t, ifV_f]
theorem v_prim {p : String} {es : List Ex} : Vp (evE T cal mkc (.prim p es) ρ) Q ↔ Up (T.prm p) fun g => Vp (evEs T cal mkc es ρ) fun vs ρ1 => Up (g vs) fun r => Q r ρ1 := by
  simp only [evE]
  cases T.prm p with
  | none => simp only [v_none, u_none]
  | some g => simp only [u_some, v_bnd, v_lift]
theorem v_bor {a : Ex} : Vp (evE T cal mkc (.bor a) ρ) Q ↔ Vp (evE T cal mkc a (ρ.map bw)) fun r _ => smp r = true ∧ Q r ρ := by
  simp only [evE]
  constructor
  · rintro ⟨r, ρ1, e, q⟩
    match h : evE T cal mkc a (ρ.map bw), e with
    | some (.ok r2 ρ2), e =>
      unfold borEnd at e
      simp only at e
      split at e
      · rename_i hs
        cases e
        exact ⟨_, _, rfl, hs, q⟩
      · cases e
    | some (.ex _ _), e => cases e
    | none, e => cases e
  · rintro ⟨r, ρ1, e, hs, q⟩
    rw [e]
    refine ⟨r, ρ, ?_, q⟩
    unfold borEnd
    simp only
    rw [if_pos hs]
theorem v_neg {a : Ex} : Vp (evE T cal mkc (.neg a) ρ) Q ↔ Vp (evE T cal mkc a ρ) fun r ρ1 => Up (asInt r) fun i => Q (.fz (.int (-i))) ρ1 := by
  simp only [evE, v_bnd]
  refine v_cg fun r ρ1 => ?_
  match r with
  | .fz (.int i) => simp only [asInt, v_pur, u_some]
  | .un => simp only [asInt, v_none, u_none]
  | .ow _ => simp only [asInt, v_none, u_none]
  | .fz .non => simp only [asInt, v_none, u_none]
  | .fz (.bl _) => simp only [asInt, v_none, u_none]
  | .fz (.str _) => simp only [asInt, v_none, u_none]
  | .fz (.lst _) => simp only [asInt, v_none, u_none]
  | .fz (.tup _) => simp only [asInt, v_none, u_none]
  | .fz (.dct _) => simp only [asInt, v_none, u_none]
  | .fz (.obj _ _) => simp only [asInt, v_none, u_none]
  | .fz (.scr _) => simp only [asInt, v_none, u_none]
  | .fz (.wtp _) => simp only [asInt, v_none, u_none]
  | .fz (.cls _) => simp only [asInt, v_none, u_none]
theorem v_nt {a : Ex} : Vp (evE T cal mkc (.nt a) ρ) Q ↔ Vp (evE T cal mkc a ρ) fun r ρ1 => Vp (asBool r ρ1) fun b ρ2 => Q (.fz (.bl (!b))) ρ2 := by simp only [evE, v_bnd, v_pur]
theorem v_and {a b : Ex} : Vp (evE T cal mkc (.and a b) ρ) Q ↔ Vp (evE T cal mkc a ρ) fun r ρ1 => Vp (asBool r ρ1) fun c ρ2 => IfV c (Vp (evE T cal mkc b ρ2) Q) (Q (.fz (.bl false)) ρ2) := by
  simp only [evE, v_bnd]
  refine v_cg fun r ρ1 => v_cg fun c ρ2 => ?_
  cases c <;> simp only [ifV_t, ifV_f, if_true, Bool.false_eq_true, if_false, v_pur]
theorem v_or {a b : Ex} : Vp (evE T cal mkc (.or a b) ρ) Q ↔ Vp (evE T cal mkc a ρ) fun r ρ1 => Vp (asBool r ρ1) fun c ρ2 => IfV c (Q (.fz (.bl true)) ρ2) (Vp (evE T cal mkc b ρ2) Q) := by
  simp only [evE, v_bnd]
  refine v_cg fun r ρ1 => v_cg fun c ρ2 => ?_
  cases c <;> simp only [ifV_t, ifV_f, if_true, Bool.false_eq_true, if_false, v_pur]
theorem v_ite {c a b : Ex} : Vp (evE T cal mkc (.ite c a b) ρ) Q ↔ Vp (evE T cal mkc c ρ) fun r ρ1 => Vp (asBool r ρ1) fun d ρ2 => IfV d (Vp (evE T cal mkc a ρ2) Q) (Vp (evE T cal mkc b ρ2) Q) := by
  simp only [evE, v_bnd]
  refine v_cg fun r ρ1 => v_cg fun c ρ2 => ?_
  cases c <;> simp only [ifV_t, ifV_f, if_true, Bool.false_eq_true, if_false, v_pur]
theorem v_slc {a : Ex} {lo hi : Option Ex} : Vp (evE T cal mkc (.slc a lo hi) ρ) Q ↔ Vp (opnd a (evE T cal mkc a) ρ) fun x ρ1 => Vp (evOp T cal mkc lo ρ1) fun l ρ2 => Vp (evOp T cal mkc hi ρ2) fun h ρ3 => Up (x.val ρ3) fun u => Up (slcF u l h) fun r => Q r ρ3 := by simp only [evE, v_bnd, v_lift, u_bind]
def fldT (T : Tab) (f : String) (u : Val) : Option Val := match u with
    | .obj c fs => if T.fld c f then fs.lookup f else none
    | _ => none
def prpT (T : Tab) (c p f : String) (u : Val) : Option Val := match u with
    | .obj c' fs => if c' = c ∧ T.prp c p f = true then fs.lookup f else none
    | _ => none
theorem v_fld {a : Ex} {f : String} : Vp (evE T cal mkc (.fld a f) ρ) Q ↔ Vp (opnd a (evE T cal mkc a) ρ) fun x ρ1 => Up (x.val ρ1) fun u => Up (fldT T f u) fun v => Q (.fz v) ρ1 := by
  simp only [evE, v_bnd, v_lift, u_bind, u_map]; rfl
theorem v_prp {a : Ex} {c p f : String} : Vp (evE T cal mkc (.prp c p f a) ρ) Q ↔ Vp (opnd a (evE T cal mkc a) ρ) fun x ρ1 => Up (x.val ρ1) fun u => Up (prpT T c p f u) fun v => Q (.fz v) ρ1 := by
  simp only [evE, v_bnd, v_lift, u_bind, u_map]; rfl
theorem v_isi {a : Ex} {t : String} : Vp (evE T cal mkc (.isi a t) ρ) Q ↔ Vp (opnd a (evE T cal mkc a) ρ) fun x ρ1 => Up (x.val ρ1) fun u => Up (isiV T.isc u t) fun b => Q (.fz (.bl b)) ρ1 := by simp only [evE, v_bnd, v_lift, u_bind, u_map]
theorem v_blt1 {b : Bl} {a : Ex} : Vp (evE T cal mkc (.blt b [a]) ρ) Q ↔ Vp (opnd a (evE T cal mkc a) ρ) fun x ρ1 => Up (x.val ρ1) fun u => Up (bltF b [u]) fun r => Q r ρ1 := by simp only [evE, v_bnd, v_lift, u_bind]
theorem v_blt2 {b : Bl} {a c : Ex} {r : List Ex} : Vp (evE T cal mkc (.blt b (a :: c :: r)) ρ) Q ↔ Vp (evEs T cal mkc (a :: c :: r) ρ) fun vs ρ1 => Up (bltF b vs) fun r => Q r ρ1 := by simp only [evE, v_bnd, v_lift]
theorem v_bmt {a : Ex} {m : Bm} {es : List Ex} : Vp (evE T cal mkc (.bmt a m es) ρ) Q ↔ Vp (opnd a (evE T cal mkc a) ρ) fun x ρ1 => ((x.val ρ1).map (bmtK m)).getD false = true ∧ Vp (evEs T cal mkc es ρ1) fun vs ρ2 => Up (x.val ρ2) fun u => Up (bmtF u m vs) fun r => Q r ρ2 := by
  simp only [evE, v_bnd, v_guardN, v_lift, u_bind, Bool.not_eq_true', Bool.not_eq_false]
theorem v_lrg {e : Ex} : Vp (evE T cal mkc (.lrg e) ρ) Q ↔ Vp (evE T cal mkc e ρ) fun r ρ1 => Vp (fixv r ρ1) fun v ρ2 => Up (rngF [v]) fun xs => Q (.ow (.lst xs)) ρ2 := by simp only [evE, v_bnd, v_lift, u_map]
theorem v_dct0 : Vp (evE T cal mkc (.dct [] []) ρ) Q ↔ Q (.ow (.dct [])) ρ := by simp only [evE, v_pur]
theorem v_dct1 {k e : Ex} : Vp (evE T cal mkc (.dct [k] [e]) ρ) Q ↔ Vp (evE T cal mkc k ρ) fun r ρ1 => Vp (fixv r ρ1) fun a ρ2 => Vp (evE T cal mkc e ρ2) fun q ρ3 => Vp (fixv q ρ3) fun v ρ4 => dkey a = true ∧ Q (.ow (.dct [(a, v)])) ρ4 := by simp only [evE, v_bnd, v_guard, v_pur]
theorem v_dct2 {k e k2 e2 : Ex} : Vp (evE T cal mkc (.dct2 k e k2 e2) ρ) Q ↔ Vp (evE T cal mkc k ρ) fun r ρ1 => Vp (fixv r ρ1) fun a ρ2 => Vp (evE T cal mkc e ρ2) fun q ρ3 => Vp (fixv q ρ3) fun v ρ4 => Vp (evE T cal mkc k2 ρ4) fun r2 ρ5 => Vp (fixv r2 ρ5) fun b ρ6 => Vp (evE T cal mkc e2 ρ6) fun q2 ρ7 => Vp (fixv q2 ρ7) fun w ρ8 => (keyOk a && keyOk b) = true ∧ Q (.ow (.dct (put [(a, v)] b w))) ρ8 := by simp only [evE, v_bnd, v_guard, v_pur]
theorem v_tzp {a b : Ex} : Vp (evE T cal mkc (.tzp a b) ρ) Q ↔ Vp (evE T cal mkc a ρ) fun r ρ1 => Vp (fixv r ρ1) fun u ρ2 => Vp (evE T cal mkc b ρ2) fun q ρ3 => Vp (fixv q ρ3) fun w ρ4 => Up (tzpF u w) fun s => Q s ρ4 := by simp only [evE, v_bnd, v_lift]
theorem v_lzp {a b : Ex} : Vp (evE T cal mkc (.lzp a b) ρ) Q ↔ Vp (evE T cal mkc a ρ) fun r ρ1 => Vp (fixv r ρ1) fun u ρ2 => Vp (evE T cal mkc b ρ2) fun q ρ3 => Vp (fixv q ρ3) fun w ρ4 => Up (lzpF u w) fun s => Q s ρ4 := by simp only [evE, v_bnd, v_lift]
theorem v_dcl {e : Ex} : Vp (evE T cal mkc (.dcl e) ρ) Q ↔ Vp (evE T cal mkc e ρ) fun r ρ1 => Vp (fixv r ρ1) fun v ρ2 => Up (dclF v) fun s => Q s ρ2 := by simp only [evE, v_bnd, v_lift]
theorem v_rev {a : Ex} : Vp (evE T cal mkc (.rev a) ρ) Q ↔ Vp (opnd a (evE T cal mkc a) ρ) fun x ρ1 => Up (x.val ρ1) fun u => Up (revF u) fun s => Q s ρ1 := by simp only [evE, v_bnd, v_lift, u_bind]
def argsOf (ρ : Ro) : List Arg → Option (List Slot)
  | [] => some []
  | a :: r => (Arg.slot ρ a).bind fun s => (argsOf ρ r).map (s :: ·)
theorem mapM_args (ρ : Ro) : ∀ as : List Arg, as.mapM (Arg.slot ρ) = argsOf ρ as
  | [] => rfl
  | a :: r => by
    rw [List.mapM_cons, mapM_args ρ r, argsOf]
    cases Arg.slot ρ a <;> cases argsOf ρ r <;> rfl
theorem v_fin {as : List Arg} {m : Res Slot} : Vp (finish as m ρ) Q ↔ Vp m fun r fin => Up (putBack as fin ρ) fun ρ' => Q r ρ' := by
  match m with
  | none => simp only [finish, v_none]
  | some (.ex e fin) =>
    simp only [finish, v_ex]
    cases putBack as fin ρ <;> simp only [v_none, v_ex]
  | some (.ok r fin) =>
    simp only [finish, v_ok]
    cases putBack as fin ρ <;> simp only [v_none, u_none, v_ok, u_some]
theorem v_callF {ps : List String} {f : String} {as : List Arg} : Vp (callF cal ps f [] as ρ) Q ↔ ioNd as = true ∧ Up (argsOf ρ as) fun args => Vp (cal f args) fun r fin => Up (putBack as fin ρ) fun ρ' => Q r ρ' := by
  simp only [callF, v_guard, List.isEmpty_nil, Bool.true_or, Bool.and_true, mapM_args]
  refine and_congr_right fun _ => ?_
  cases h : argsOf ρ as with
  | none => simp only [Option.bind_none, v_none, u_none]
  | some args => simp only [Option.bind_some, order, if_true, v_fin, u_some]
theorem v_call {f : String} {d : Def} {es : List Ex} (hd : T.fn f = some d) : Vp (evE T cal mkc (.call f es []) ρ) Q ↔ Vp (evAs T cal mkc d.io es ρ) fun as ρ1 => Vp (callF cal d.ps f [] as ρ1) Q := by simp only [evE, hd, v_bnd]
theorem v_kwEnd {m : Res Slot} : Vp (kwEnd m ρ) Q ↔ Vp m fun r _ => Q r ρ := by
  match m with
  | none => simp only [kwEnd, v_none]
  | some (.ex e fin) => simp only [kwEnd, v_ex]
  | some (.ok r fin) => simp only [kwEnd, v_ok]
theorem v_callK {f : String} {d : Def} {es : List Ex} {k : String} {ks : List String} (hd : T.fn f = some d) : Vp (evE T cal mkc (.call f es (k :: ks)) ρ) Q ↔ Vp (evEs T cal mkc es ρ) fun vs ρ1 => vs.length = (k :: ks).length ∧ Up (byName d.ps (k :: ks) vs) fun ws => Vp (cal f (ws.map .fz)) fun r _ => Q r ρ1 := by
  simp only [evE, hd, v_bnd, v_guard]
  refine v_cg fun vs ρ1 => and_congr_right fun _ => ?_
  cases byName d.ps (k :: ks) vs <;> simp only [v_none, u_none, u_some, v_kwEnd]
theorem v_mth {k c m : String} {d : Def} {a : Ex} {es : List Ex} (hd : T.fn k = some d) : Vp (evE T cal mkc (.mth k c m a es) ρ) Q ↔ Vp (argOf (d.io.getD 0 false) a (evE T cal mkc a) ρ) fun r ρ0 => r.isObj ρ0 c m = true ∧ Vp (evAs T cal mkc (d.io.drop 1) es ρ0) fun as ρ1 => Vp (callF cal d.ps k [] (r :: as) ρ1) Q := by
  simp only [evE, hd, v_bnd, v_guardN, Bool.not_eq_true', Bool.not_eq_false]
theorem v_ln {f c : String} {d : Def} {es : List Ex} (hd : T.fn f = some d) : Vp (evE T cal mkc (.ln f c es) ρ) Q ↔ Vp (evAs T cal mkc d.io es ρ) fun as ρ1 => as.all (Arg.isObj ρ1 c "__len__") = true ∧ Vp (callF mkc d.ps f [] as ρ1) fun r ρ2 => Vp (lenEnd r ρ2) Q := by
  simp only [evE, hd, v_bnd, v_guardN, Bool.not_eq_true', Bool.not_eq_false]
theorem v_sp {f c m : String} {ne : Bool} {d : Def} {es : List Ex} (hd : T.fn f = some d) : Vp (evE T cal mkc (.sp f c m ne es) ρ) Q ↔ Vp (evAs T cal mkc d.io es ρ) fun as ρ1 => Up (spAs ρ1 c m as) fun bs => Vp (callF mkc d.ps f [] bs ρ1) fun r ρ2 => Vp (spEnd m ne r ρ2) Q := by
  simp only [evE, hd, v_bnd]
  refine v_cg fun as ρ1 => ?_
  cases spAs ρ1 c m as with
  | none => simp only [v_none, u_none]
  | some bs =>
    simp only [u_some, v_bnd]
    match callF mkc d.ps f [] bs ρ1 with
    | none => simp only [quiet]
    | some (.ex e fin) => simp only [quiet, v_none, v_ex]
    | some (.ok r fin) => simp only [quiet]
theorem v_spS {ne : Bool} {l : List Nat} : Vp (spEnd "__str__" ne (.fz (.str l)) ρ) Q ↔ Q (.fz (.str l)) ρ := by
  have e : spEnd "__str__" ne (.fz (.str l)) ρ = pur (.fz (.str l)) ρ := by simp [spEnd]
  rw [e, v_pur]
theorem v_spE {ne b : Bool} : Vp (spEnd "__eq__" ne (.fz (.bl b)) ρ) Q ↔ Q (.fz (.bl (b != ne))) ρ := by
  have e : spEnd "__eq__" ne (.fz (.bl b)) ρ = pur (.fz (.bl (b != ne))) ρ := by simp [spEnd]
  rw [e, v_pur]
theorem v_spB {ne b : Bool} : Vp (spEnd "__bool__" ne (.fz (.bl b)) ρ) Q ↔ Q (.fz (.bl (b != ne))) ρ := by
  have e : spEnd "__bool__" ne (.fz (.bl b)) ρ = pur (.fz (.bl (b != ne))) ρ := by simp [spEnd]
  rw [e, v_pur]
theorem v_qu {m : Res Slot} : Vp (bnd (quiet m) pur) Q ↔ Vp m Q := by
  match m with
  | none => simp only [quiet, bnd_none, v_none]
  | some (.ex e fin) => simp only [quiet, bnd_none, v_none, v_ex]
  | some (.ok r fin) => simp only [quiet, bnd_ok, v_pur, v_ok]
theorem v_pg {f c m : String} {d : Def} {a : Ex} (hd : T.fn f = some d) : Vp (evE T cal mkc (.pg f c m a) ρ) Q ↔ Vp (argOf (d.io.getD 0 false) a (evE T cal mkc a) ρ) fun r ρ1 => r.isObj ρ1 c m = true ∧ Vp (callF mkc d.ps f [] [r] ρ1) Q := by
  simp only [evE, hd, v_bnd, v_guardN, Bool.not_eq_true', Bool.not_eq_false]
  refine v_cg fun r ρ1 => and_congr_right fun _ => ?_
  rw [← v_bnd, v_qu]
theorem v_lenEnd {n : Int} : Vp (lenEnd (.fz (.int n)) ρ) Q ↔ (0 ≤ n ∧ n < 2 ^ 63) ∧ Q (.fz (.int n)) ρ := by simp only [lenEnd, v_guard, v_pur]
theorem v_mkEnd {m : Res Slot} : Vp (mkEnd m ρ) Q ↔ Vp m fun r fin => Up (asNew r fin) fun v => Q (.ow v) ρ := by
  constructor
  · rintro ⟨_, _, e, q⟩
    unfold mkEnd at e
    split at e
    · next c fs rest =>
      cases e
      exact ⟨_, _, rfl, _, rfl, q⟩
    · cases e
    · cases e
  · rintro ⟨r, fin, rfl, v, e, q⟩
    unfold asNew at e
    split at e
    · cases e
      exact ⟨_, _, rfl, q⟩
    · cases e
theorem v_mk {c : String} {d : Def} {es : List Ex} (hd : T.fn (c ++ ".__init__") = some d) : Vp (evE T cal mkc (.mk c es []) ρ) Q ↔ Vp (evEs T cal mkc es ρ) fun vs ρ1 => Vp (mkc (c ++ ".__init__") (.ow (.obj c []) :: vs.map .fz)) fun r fin => Up (asNew r fin) fun v => Q (.ow v) ρ1 := by
  simp only [evE, hd, v_bnd, v_mkEnd]
theorem v_mkv {c : String} {i : Nat} {d : Def} {es : List Ex} (hd : T.fn (c ++ ".__init__") = some d) : Vp (evE T cal mkc (.mkv i c es) ρ) Q ↔ isCls c (ρ[i]?) = true ∧ Vp (evEs T cal mkc es ρ) fun vs ρ1 => Vp (mkc (c ++ ".__init__") (.ow (.obj c []) :: vs.map .fz)) fun r fin => Up (asNew r fin) fun v => Q (.ow v) ρ1 := by
  simp only [evE, hd, v_guard, v_bnd, v_mkEnd]
theorem v_cm {f c : String} {d : Def} {es : List Ex} (hd : T.fn f = some d) : Vp (evE T cal mkc (.cm f c es []) ρ) Q ↔ Vp (evEs T cal mkc es ρ) fun vs ρ1 => Vp (cal f (.fz (.cls c) :: vs.map .fz)) fun r _ => Q r ρ1 := by
  simp only [evE, hd, v_bnd, v_kwEnd]
theorem v_cmK {f c k : String} {ks : List String} {d : Def} {es : List Ex} (hd : T.fn f = some d) : Vp (evE T cal mkc (.cm f c es (k :: ks)) ρ) Q ↔ Vp (evEs T cal mkc es ρ) fun vs ρ1 => vs.length = (k :: ks).length ∧ Up (byName (d.ps.drop 1) (k :: ks) vs) fun ws => Vp (cal f (.fz (.cls c) :: ws.map .fz)) fun r _ => Q r ρ1 := by
  simp only [evE, hd, v_bnd, v_guard]
  refine v_cg fun vs ρ1 => and_congr_right fun _ => ?_
  cases byName (d.ps.drop 1) (k :: ks) vs <;> simp only [v_none, u_none, u_some, v_kwEnd]
theorem v_mkK {c k : String} {ks : List String} {d : Def} {es : List Ex} (hd : T.fn (c ++ ".__init__") = some d) : Vp (evE T cal mkc (.mk c es (k :: ks)) ρ) Q ↔ Vp (evEs T cal mkc es ρ) fun vs ρ1 => vs.length = (k :: ks).length ∧ Up (byName (d.ps.drop 1) (k :: ks) vs) fun ws => Vp (mkc (c ++ ".__init__") (.ow (.obj c []) :: ws.map .fz)) fun r fin => Up (asNew r fin) fun v => Q (.ow v) ρ1 := by
  simp only [evE, hd, v_bnd, v_guard]
  refine v_cg fun vs ρ1 => and_congr_right fun _ => ?_
  cases byName (d.ps.drop 1) (k :: ks) vs <;> simp only [v_none, u_none, u_some, v_mkEnd]
end
section
variable {T : Tab} {cal mkc : Cal} {ρ : Ro}
theorem v_opE {e : Ex} {m : Ro → Res Slot} {Q : Opd → Ro → Prop} (he : isV e = false) : Vp (opnd e m ρ) Q ↔ Vp (m ρ) fun r ρ' => Vp (fixv r ρ') fun v ρ'' => Q (.tm v) ρ'' := by
  have : opnd e m ρ = bnd (m ρ) fun r ρ' => match r with
    | .fz v => pur (.tm v) ρ'
    | .ow v => pur (.tm v) ρ'
    | .un => none := by
    cases e <;> first | rfl | (exfalso; revert he; simp [isV]; done)
  rw [this, v_bnd]
  refine v_cg fun r ρ' => ?_
  cases r <;> simp only [fixv, v_pur, v_none]
theorem v_fixF {v : Val} {Q : Val → Ro → Prop} : Vp (fixv (.fz v) ρ) Q ↔ Q v ρ := by simp only [fixv, v_pur]
theorem v_fixO {v : Val} {Q : Val → Ro → Prop} : Vp (fixv (.ow v) ρ) Q ↔ Q v ρ := by simp only [fixv, v_pur]
theorem v_asBool {b : Bool} {Q : Bool → Ro → Prop} : Vp (asBool (.fz (.bl b)) ρ) Q ↔ Q b ρ := by simp only [asBool, v_pur]
theorem v_opN {Q : Option Int → Ro → Prop} : Vp (evOp T cal mkc none ρ) Q ↔ Q none ρ := by simp only [evOp, v_pur]
theorem v_opS {e : Ex} {Q : Option Int → Ro → Prop} : Vp (evOp T cal mkc (some e) ρ) Q ↔ Vp (evE T cal mkc e ρ) fun r ρ1 => Up (asInt r) fun i => Q (some i) ρ1 := by
  simp only [evOp, v_bnd]
  refine v_cg fun r ρ1 => ?_
  match r with
  | .fz (.int i) => simp only [asInt, v_pur, u_some]
  | .un => simp only [asInt, v_none, u_none]
  | .ow _ => simp only [asInt, v_none, u_none]
  | .fz .non => simp only [asInt, v_none, u_none]
  | .fz (.bl _) => simp only [asInt, v_none, u_none]
  | .fz (.str _) => simp only [asInt, v_none, u_none]
  | .fz (.lst _) => simp only [asInt, v_none, u_none]
  | .fz (.tup _) => simp only [asInt, v_none, u_none]
  | .fz (.dct _) => simp only [asInt, v_none, u_none]
  | .fz (.obj _ _) => simp only [asInt, v_none, u_none]
  | .fz (.scr _) => simp only [asInt, v_none, u_none]
  | .fz (.wtp _) => simp only [asInt, v_none, u_none]
  | .fz (.cls _) => simp only [asInt, v_none, u_none]
theorem v_cN {Q : Bool → Ro → Prop} : Vp (evC T cal mkc none ρ) Q ↔ Q true ρ := by simp only [evC, v_pur]
theorem v_cS {e : Ex} {Q : Bool → Ro → Prop} : Vp (evC T cal mkc (some e) ρ) Q ↔ Vp (evE T cal mkc e ρ) fun r ρ1 => Vp (asBool r ρ1) Q := by simp only [evC, v_bnd]
theorem v_esN {Q : List Val → Ro → Prop} : Vp (evEs T cal mkc [] ρ) Q ↔ Q [] ρ := by simp only [evEs, v_pur]
theorem v_esS {a : Ex} {r : List Ex} {Q : List Val → Ro → Prop} : Vp (evEs T cal mkc (.star a :: r) ρ) Q ↔ Vp (evE T cal mkc a ρ) fun q ρ1 => Vp (fixv q ρ1) fun v ρ2 => Up (asSeq v) fun xs => Vp (evEs T cal mkc r ρ2) fun vs ρ3 => Q (xs ++ vs) ρ3 := by
  simp only [evEs, v_bnd]
  refine v_cg fun q ρ1 => v_cg fun v ρ2 => ?_
  cases v <;> simp only [asSeq, v_none, u_none, u_some, v_bnd, v_pur]
theorem v_esC {e : Ex} {r : List Ex} {Q : List Val → Ro → Prop} (he : isStar e = false) : Vp (evEs T cal mkc (e :: r) ρ) Q ↔ Vp (evE T cal mkc e ρ) fun q ρ1 => Vp (fixv q ρ1) fun v ρ2 => Vp (evEs T cal mkc r ρ2) fun vs ρ3 => Q (v :: vs) ρ3 := by
  have : evEs T cal mkc (e :: r) ρ = bnd (evE T cal mkc e ρ) fun q ρ1 => bnd (fixv q ρ1) fun v ρ2 => bnd (evEs T cal mkc r ρ2) fun vs ρ3 => pur (v :: vs) ρ3 := by
    cases e <;> first | (simp only [evEs]; done) | (exfalso; revert he; simp [isStar]; done)
  simp only [this, v_bnd, v_pur]
theorem v_asN {io : List Bool} {Q : List Arg → Ro → Prop} : Vp (evAs T cal mkc io [] ρ) Q ↔ Q [] ρ := by simp only [evAs, v_pur]
theorem v_asC {io : List Bool} {e : Ex} {r : List Ex} {Q : List Arg → Ro → Prop} : Vp (evAs T cal mkc io (e :: r) ρ) Q ↔ Vp (argOf (io.getD 0 false) e (evE T cal mkc e) ρ) fun a ρ1 => (a.isN && !r.isEmpty) = false ∧ Vp (evAs T cal mkc (io.drop 1) r ρ1) fun as ρ2 => Q (a :: as) ρ2 := by
  simp only [evAs, v_bnd, v_guardN, v_pur, Bool.not_eq_true]
theorem v_argV {e : Ex} {m : Ro → Res Slot} {Q : Arg → Ro → Prop} : Vp (argOf false e m ρ) Q ↔ Vp (m ρ) fun r ρ1 => Vp (fixv r ρ1) fun v ρ2 => Q (.va v) ρ2 := by simp only [argOf, Bool.false_eq_true, if_false, v_bnd, v_pur]
theorem v_argI {i : Nat} {m : Ro → Res Slot} {Q : Arg → Ro → Prop} : Vp (argOf true (.v i) m ρ) Q ↔ (ownAt i ρ).isSome = true ∧ Q (.io i) ρ := by simp only [argOf, if_true, v_guard, v_pur]
theorem v_argN {e : Ex} {m : Ro → Res Slot} {Q : Arg → Ro → Prop} (he : isV e = false) : Vp (argOf true e m ρ) Q ↔ Vp (m ρ) fun r ρ1 => Vp (newArg r ρ1) Q := by
  have : argOf true e m ρ = bnd (m ρ) newArg := by cases e <;> first | rfl | (exfalso; revert he; simp [isV]; done)
  rw [this, v_bnd]
theorem v_newArg {v : Val} {Q : Arg → Ro → Prop} : Vp (newArg (.ow v) ρ) Q ↔ Q (.nw v) ρ := by simp only [newArg, v_pur]
variable {Q : List Val → Ro → Prop}
theorem v_itS {e : Ex} : Vp (evIt T cal mkc (.seq e) ρ) Q ↔ Vp (evE T cal mkc e ρ) fun r ρ1 => Vp (fixv r ρ1) fun v ρ2 => Up (itemsF v) fun xs => Q xs ρ2 := by simp only [evIt, v_bnd, v_lift]
theorem v_itR {e : Ex} : Vp (evIt T cal mkc (.rng e) ρ) Q ↔ Vp (evE T cal mkc e ρ) fun r ρ1 => Vp (fixv r ρ1) fun v ρ2 => Up (rngF [v]) fun xs => Q xs ρ2 := by simp only [evIt, v_bnd, v_lift]
theorem v_itR2 {a b : Ex} : Vp (evIt T cal mkc (.rng2 a b) ρ) Q ↔ Vp (evE T cal mkc a ρ) fun r ρ1 => Vp (fixv r ρ1) fun u ρ2 => Vp (evE T cal mkc b ρ2) fun r ρ3 => Vp (fixv r ρ3) fun v ρ4 => Up (rngF [u, v]) fun xs => Q xs ρ4 := by simp only [evIt, v_bnd, v_lift]
theorem v_itR3 {a b c : Ex} : Vp (evIt T cal mkc (.rng3 a b c) ρ) Q ↔ Vp (evE T cal mkc a ρ) fun r ρ1 => Vp (fixv r ρ1) fun u ρ2 => Vp (evE T cal mkc b ρ2) fun r ρ3 => Vp (fixv r ρ3) fun v ρ4 => Vp (evE T cal mkc c ρ4) fun r ρ5 => Vp (fixv r ρ5) fun w ρ6 => Up (rngF [u, v, w]) fun xs => Q xs ρ6 := by simp only [evIt, v_bnd, v_lift]
theorem v_itE {e : Ex} : Vp (evIt T cal mkc (.enum e) ρ) Q ↔ Vp (evE T cal mkc e ρ) fun r ρ1 => Vp (fixv r ρ1) fun v ρ2 => Up (seqOf v) fun xs => Q (enumL 0 xs) ρ2 := by simp only [evIt, v_bnd, v_lift, u_map]
theorem v_itZ {a b : Ex} : Vp (evIt T cal mkc (.zip a b) ρ) Q ↔ Vp (evE T cal mkc a ρ) fun r ρ1 => Vp (fixv r ρ1) fun u ρ2 => Vp (evE T cal mkc b ρ2) fun r ρ3 => Vp (fixv r ρ3) fun v ρ4 => Up (seqOf u) fun xs => Up (seqOf v) fun ys => Q (zipL xs ys) ρ4 := by simp only [evIt, v_bnd, v_lift, u_bind, u_map]
theorem v_itI {e : Ex} : Vp (evIt T cal mkc (.items e) ρ) Q ↔ Vp (evE T cal mkc e ρ) fun r ρ1 => Vp (fixv r ρ1) fun v ρ2 => Up (itmF v) fun xs => Q xs ρ2 := by simp only [evIt, v_bnd, v_lift]
end
def Nxt (f : Fl) (ρ : Ro) (r : Ro → Prop) (Q : Fl → Ro → Prop) : Prop := match f with
  | .nx => r ρ
  | .rt q => Q (.rt q) ρ
section
variable {T : Tab} {cal mkc : Cal} {ρ : Ro} {Q : Fl → Ro → Prop}
theorem v_sN : Vp (evSs T cal mkc [] ρ) Q ↔ Q .nx ρ := by simp only [evSs, v_pur]
theorem v_sC {s : Sx} {r : List Sx} : Vp (evSs T cal mkc (s :: r) ρ) Q ↔ Vp (evS T cal mkc s ρ) fun f ρ1 => Nxt f ρ1 (fun ρ2 => Vp (evSs T cal mkc r ρ2) Q) Q := by
  simp only [evSs, v_bnd]
  refine v_cg fun f ρ1 => ?_
  cases f <;> simp only [Nxt, v_pur]
theorem v_pass : Vp (evS T cal mkc .pass ρ) Q ↔ Q .nx ρ := by simp only [evS, v_pur]
theorem v_expr {e : Ex} : Vp (evS T cal mkc (.expr e) ρ) Q ↔ Vp (evE T cal mkc e ρ) fun _ ρ1 => Q .nx ρ1 := by simp only [evS, v_bnd, v_pur]
theorem v_asg {i : Nat} {e : Ex} : Vp (evS T cal mkc (.asg (.nm i) e) ρ) Q ↔ Vp (evE T cal mkc e ρ) fun r ρ1 => Up (assn (.nm i) r ρ1) fun ρ2 => Q .nx ρ2 := by
  simp only [evS, v_bnd]
  refine v_cg fun r ρ1 => ?_
  cases assn (.nm i) r ρ1 <;> simp only [v_none, u_none, v_pur, u_some]
theorem v_asgT {ts : List Tg} {e : Ex} : Vp (evS T cal mkc (.asg (.tp ts) e) ρ) Q ↔ Vp (evE T cal mkc e ρ) fun r ρ1 => Vp (fixv r ρ1) fun v ρ2 => Up (assn (.tp ts) (.fz v) ρ2) fun ρ3 => Q .nx ρ3 := by
  simp only [evS, v_bnd]
  refine v_cg fun r ρ1 => v_cg fun v ρ2 => ?_
  cases assn (.tp ts) (.fz v) ρ2 <;> simp only [v_none, u_none, v_pur, u_some]
theorem v_slN {Q : List Slot → Ro → Prop} : Vp (evSl T cal mkc [] ρ) Q ↔ Q [] ρ := by simp only [evSl, v_pur]
theorem v_slC {e : Ex} {r : List Ex} {Q : List Slot → Ro → Prop} : Vp (evSl T cal mkc (e :: r) ρ) Q ↔ Vp (evE T cal mkc e ρ) fun q ρ1 => Vp (evSl T cal mkc r ρ1) fun qs ρ2 => Q (q :: qs) ρ2 := by simp only [evSl, v_bnd, v_pur]
theorem v_par {is : List Nat} {es : List Ex} : Vp (evS T cal mkc (.par is es) ρ) Q ↔ Vp (evSl T cal mkc es ρ) fun rs ρ1 => Up (setAll is rs ρ1) fun ρ2 => Q .nx ρ2 := by
  simp only [evS, v_bnd]
  refine v_cg fun rs ρ1 => ?_
  cases setAll is rs ρ1 <;> simp only [v_none, u_none, v_pur, u_some]
theorem v_aug {i : Nat} {e : Ex} : Vp (evS T cal mkc (.aug i e) ρ) Q ↔ Up (valAt i ρ) fun _ => Vp (opnd e (evE T cal mkc e) ρ) fun y ρ1 => Up (valAt i ρ1) fun u => Up (y.val ρ1) fun w => Up (binF .add u w) fun r => Up (augS r) fun r => Q .nx (ρ1.set i r) := by
  simp only [evS, v_guardN, v_bnd, Bool.not_eq_true', Bool.not_eq_false, valAt]
  cases hv : (ρ[i]?).bind Slot.val with
  | none => simp only [Option.isSome_none, Bool.false_eq_true, false_and, u_none]
  | some v0 =>
    simp only [Option.isSome_some, true_and, u_some]
    refine v_cg fun y ρ1 => ?_
    cases (ρ1[i]?).bind Slot.val with
    | none => simp only [Option.bind_none, v_none, u_none]
    | some u =>
      cases y.val ρ1 with
      | none => simp only [Option.bind_none, Option.bind_some, v_none, u_none, u_some]
      | some v =>
        simp only [Option.bind_some, u_some]
        cases binF .add u v with
        | none => simp only [v_none, u_none]
        | some r =>
          simp only [u_some]
          constructor
          · intro q
            split at q
            · next e => cases e; exact ⟨_, rfl, v_pur.mp q⟩
            · next e => cases e; exact ⟨_, rfl, v_pur.mp q⟩
            · exact (v_none.mp q).elim
          · rintro ⟨r', e, q⟩
            unfold augS at e
            split at e
            · cases e; exact v_pur.mpr q
            · cases e; exact v_pur.mpr q
            · cases e
theorem v_sub {i : Nat} {k e : Ex} : Vp (evS T cal mkc (.sub i k e) ρ) Q ↔ Vp (evE T cal mkc e ρ) fun r ρ1 => Vp (fixv r ρ1) fun x ρ2 => (ownAt i ρ2).isSome = true ∧ Vp (opnd k (evE T cal mkc k) ρ2) fun y ρ3 => Up (ownAt i ρ3) fun u => Up (y.val ρ3) fun w => Up (setF u w x) fun v => Q .nx (ρ3.set i (.ow v)) := by
  simp only [evS, v_guardN, v_bnd, Bool.not_eq_true', Bool.not_eq_false]
  refine v_cg fun r ρ1 => v_cg fun x ρ2 => and_congr_right fun _ => v_cg fun y ρ3 => ?_
  cases ownAt i ρ3 with
  | none => simp only [Option.bind_none, v_none, u_none]
  | some u =>
    cases y.val ρ3 with
    | none => simp only [Option.bind_none, Option.bind_some, v_none, u_none, u_some]
    | some v =>
      simp only [Option.bind_some, u_some]
      cases setF u v x <;> simp only [v_none, u_none, v_pur, u_some]
theorem v_mut {i : Nat} {m : Mu} {es : List Ex} : Vp (evS T cal mkc (.mut i m es) ρ) Q ↔ ((ownAt i ρ).map (mutK m)).getD false = true ∧ Vp (evEs T cal mkc es ρ) fun vs ρ1 => Up (ownAt i ρ1) fun u => Up (mutF m u vs) fun v => Q .nx (ρ1.set i (.ow v)) := by
  simp only [evS, v_guardN, v_bnd, Bool.not_eq_true', Bool.not_eq_false]
  refine and_congr_right fun _ => v_cg fun vs ρ1 => ?_
  cases ownAt i ρ1 with
  | none => simp only [Option.bind_none, v_none, u_none]
  | some u =>
    simp only [Option.bind_some, u_some]
    cases mutF m u vs <;> simp only [v_none, u_none, v_pur, u_some]
theorem v_subs {i : Nat} {ks : List String} {e : Ex} : Vp (evS T cal mkc (.subs i ks e) ρ) Q ↔ Vp (evE T cal mkc e ρ) fun r ρ1 => Vp (fixv r ρ1) fun v ρ2 => Up (asTp v) fun xs => Up (ownAt i ρ2) fun u => Up (setKs ks xs u) fun w => Q .nx (ρ2.set i (.ow w)) := by
  simp only [evS, v_bnd]
  refine v_cg fun r ρ1 => v_cg fun v ρ2 => ?_
  cases v with
  | tup xs =>
    simp only [asTp, u_some]
    cases ownAt i ρ2 with
    | none => simp only [Option.bind_none, v_none, u_none]
    | some u =>
      simp only [Option.bind_some, u_some]
      cases setKs ks xs u <;> simp only [v_none, u_none, v_pur, u_some]
  | _ => simp only [asTp, v_none, u_none]
theorem v_ret {e : Ex} (he : isV e = false) : Vp (evS T cal mkc (.ret e) ρ) Q ↔ Vp (evE T cal mkc e ρ) fun r ρ1 => Q (.rt r) ρ1 := by
  have : evS T cal mkc (.ret e) ρ = bnd (evE T cal mkc e ρ) fun r ρ1 => pur (.rt r) ρ1 := by cases e <;> first | (simp only [evS]; done) | (exfalso; revert he; simp [isV]; done)
  simp only [this, v_bnd, v_pur]
theorem v_retN : Vp (evS T cal mkc .retN ρ) Q ↔ Q (.rt (.fz .non)) ρ := by simp only [evS, v_pur]
theorem v_ife {c : Ex} {a b : List Sx} : Vp (evS T cal mkc (.ife c a b) ρ) Q ↔ Vp (evE T cal mkc c ρ) fun r ρ1 => Vp (asBool r ρ1) fun d ρ2 => IfV d (Vp (evSs T cal mkc a ρ2) Q) (Vp (evSs T cal mkc b ρ2) Q) := by
  simp only [evS, v_bnd]
  refine v_cg fun r ρ1 => v_cg fun c ρ2 => ?_
  cases c <;> simp only [ifV_t, ifV_f, if_true, Bool.false_eq_true, if_false, v_pur]
theorem v_quiet {α : Type} {m : Res α} {Q : α → Ro → Prop} : Vp (quiet m) Q ↔ Vp m Q := by
  match m with
  | none => simp only [quiet]
  | some (.ex e fin) => simp only [quiet, v_none, v_ex]
  | some (.ok r fin) => simp only [quiet]
theorem v_tri {a : List Sx} {cs : List String} {n : Option Nat} {b : List Sx} : Vp (evS T cal mkc (.tri a cs n b) ρ) Q ↔ Vp (evSs T cal mkc a ρ) Q := by simp only [evS, v_quiet]
end
section
variable {T : Tab} {cal mkc : Cal} {ρ : Ro} {Q : Slot → Ro → Prop}
theorem v_lcF {c : Option Ex} {e : Ex} {Q : Option Val → Ro → Prop} : Vp (lcF T cal mkc c e ρ) Q ↔ Vp (evC T cal mkc c ρ) fun b ρ' => IfV b (Vp (evE T cal mkc e ρ') fun r ρ2 => Vp (fixv r ρ2) fun v ρ3 => Q (some v) ρ3) (Q none ρ') := by
  simp only [lcF, v_bnd]
  refine v_cg fun b ρ' => ?_
  cases b <;> simp only [ifV_t, ifV_f, if_true, Bool.false_eq_true, if_false, v_bnd, v_pur]
end
theorem v_subp {T : Tab} {cal mkc : Cal} {ρ : Ro} {Q : Fl → Ro → Prop} {i j : Nat} {k e : Ex} : Vp (evS T cal mkc (.subp i k j e) ρ) Q ↔ Vp (evE T cal mkc e ρ) fun r ρ1 => Up (asTwo r) fun xy => (ownAt i ρ1).isSome = true ∧ Vp (opnd k (evE T cal mkc k) ρ1) fun z ρ2 => Up (ownAt i ρ2) fun u => Up (z.val ρ2) fun w => Up (setF u w xy.1) fun v => (j < ρ2.length ∧ i ≠ j) ∧ Q .nx ((ρ2.set i (.ow v)).set j (.fz xy.2)) := by
  simp only [evS, v_bnd]
  refine v_cg fun r ρ1 => ?_
  constructor
  · intro q
    split at q
    · next x y =>
      simp only [v_guardN, v_bnd, Bool.not_eq_true', Bool.not_eq_false] at q
      refine ⟨(x, y), rfl, q.1, (v_cg fun z ρ2 => ?_).mp q.2⟩
      cases ownAt i ρ2 with
      | none => simp only [Option.bind_none, v_none, u_none]
      | some u =>
        cases z.val ρ2 with
        | none => simp only [Option.bind_none, Option.bind_some, v_none, u_none, u_some]
        | some v =>
          simp only [Option.bind_some, u_some]
          cases setF u v x <;> simp only [v_none, u_none, v_guard, v_pur, u_some]
    · exact (v_none.mp q).elim
  · rintro ⟨⟨x, y⟩, e, q⟩
    unfold asTwo at e
    split at e
    · cases e
      simp only [v_guardN, v_bnd, Bool.not_eq_true', Bool.not_eq_false]
      refine ⟨q.1, (v_cg fun z ρ2 => ?_).mpr q.2⟩
      cases ownAt i ρ2 with
      | none => simp only [Option.bind_none, v_none, u_none]
      | some u =>
        cases z.val ρ2 with
        | none => simp only [Option.bind_none, Option.bind_some, v_none, u_none, u_some]
        | some v =>
          simp only [Option.bind_some, u_some]
          cases setF u v x <;> simp only [v_none, u_none, v_guard, v_pur, u_some]
    · cases e
theorem v_forU {T : Tab} {cal mkc : Cal} {ρ : Ro} {Q : Fl → Ro → Prop} {t : Tg} {it : Iter} {a : List Sx} : Vp (evS T cal mkc (.for_ t it a) ρ) Q ↔ Vp (evIt T cal mkc it ρ) fun xs ρ1 => xs.length ≤ cap ∧ Vp (forF (evSs T cal mkc a) t xs ρ1) Q := by
  simp only [evS, v_bnd, v_guard]
theorem v_fN {body : Ro → Res Fl} {t : Tg} {ρ : Ro} {Q : Fl → Ro → Prop} : Vp (forF body t [] ρ) Q ↔ Q .nx ρ := by simp only [forF, v_pur]
theorem v_fC {body : Ro → Res Fl} {t : Tg} {ρ : Ro} {Q : Fl → Ro → Prop} {x : Val} {xs : List Val} : Vp (forF body t (x :: xs) ρ) Q ↔ Up (assn t (.fz x) ρ) fun ρ1 => Vp (body ρ1) fun f ρ2 => Nxt f ρ2 (fun ρ3 => Vp (forF body t xs ρ3) Q) Q := by
  simp only [forF]
  cases assn t (.fz x) ρ with
  | none => simp only [v_none, u_none]
  | some ρ1 =>
    simp only [u_some, v_bnd]
    refine v_cg fun f ρ2 => ?_
    cases f <;> simp only [Nxt, v_pur]
theorem v_setf {T : Tab} {cal mkc : Cal} {ρ : Ro} {Q : Fl → Ro → Prop} {i : Nat} {f : String} {e : Ex} : Vp (evS T cal mkc (.setf i f e) ρ) Q ↔ Vp (evE T cal mkc e ρ) fun r ρ1 => Vp (fixv r ρ1) fun x ρ2 => Up (ownAt i ρ2) fun u => Up (setfT T f x u) fun v => Q .nx (ρ2.set i (.ow v)) := by
  simp only [evS, v_bnd]
  refine v_cg fun r ρ1 => v_cg fun x ρ2 => ?_
  cases ownAt i ρ2 with
  | none => simp only [v_none, u_none]
  | some u =>
    simp only [u_some]
    cases u <;> simp only [setfT, v_none, u_none, v_guard, v_pur, u_guard, u_some]
theorem v_hd {T : Tab} {cal mkc : Cal} {ρ : Ro} {Q : Fl → Ro → Prop} {i j : Nat} {e : Ex} : Vp (evS T cal mkc (.hd i j e) ρ) Q ↔ Vp (evE T cal mkc e ρ) fun r ρ1 => Vp (fixv r ρ1) fun v ρ2 => Up (asHd v) fun p => (i < ρ2.length ∧ j < ρ2.length ∧ i ≠ j) ∧ Q .nx ((ρ2.set i (.fz p.1)).set j (.ow (.lst p.2))) := by
  simp only [evS, v_bnd]
  refine v_cg fun r ρ1 => v_cg fun v ρ2 => ?_
  cases v with
  | lst xs =>
    cases xs with
    | nil => simp only [asHd, v_none, u_none]
    | cons x xs => simp only [asHd, u_some, v_guard, v_pur]
  | _ => simp only [asHd, v_none, u_none]
theorem v_lcU {T : Tab} {cal mkc : Cal} {ρ : Ro} {Q : Slot → Ro → Prop} {ns : List Nat} {t : Tg} {it : Iter} {c : Option Ex} {e : Ex} : Vp (evE T cal mkc (.lc ns t it c e) ρ) Q ↔ Vp (evIt T cal mkc it ρ) fun xs ρ1 => (xs.length ≤ cap ∧ clean ns ρ1 = true) ∧ Vp (lcLoop (lcF T cal mkc c e) t ns xs (wipeR ρ1 ns)) fun ys ρ2 => Q (.ow (.lst ys)) (unwipe ns ρ1 ρ2) := by
  simp only [evE, v_bnd, v_guard, v_quiet, v_pur]
  rfl
theorem v_lN {f : Ro → Res (Option Val)} {t : Tg} {ns : List Nat} {ρ : Ro} {Q : List Val → Ro → Prop} : Vp (lcLoop f t ns [] ρ) Q ↔ Q [] ρ := by simp only [lcLoop, v_pur]
theorem v_lC {f : Ro → Res (Option Val)} {t : Tg} {ns : List Nat} {ρ : Ro} {Q : List Val → Ro → Prop} {x : Val} {xs : List Val} : Vp (lcLoop f t ns (x :: xs) ρ) Q ↔ Up (assn t (.fz x) ρ) fun ρ1 => Vp (f ρ1) fun y ρ2 => Vp (lcLoop f t ns xs (wipeR ρ2 ns)) fun ys ρ3 => Q (y.toList ++ ys) ρ3 := by
  simp only [lcLoop]
  cases assn t (.fz x) ρ with
  | none => simp only [v_none, u_none]
  | some ρ1 =>
    simp only [u_some, v_bnd, v_pur]
    refine v_cg fun y ρ2 => v_cg fun ys ρ3 => ?_
    cases y <;> rfl
theorem v_lc2U {T : Tab} {cal mkc : Cal} {ρ : Ro} {Q : Slot → Ro → Prop} {ns ns1 : List Nat} {t t1 : Tg} {it it1 : Iter} {e : Ex} : Vp (evE T cal mkc (.lc2 ns t it ns1 t1 it1 e) ρ) Q ↔ Vp (evIt T cal mkc it ρ) fun xs ρ1 => (clean ns ρ1 = true ∧ ns1.all (fun i => ns.contains i) = true) ∧ Vp (lc2Loop (lc2F T cal mkc ns1 t1 it1 e) t ns xs (wipeR ρ1 ns)) fun ys ρ2 => ys.length ≤ cap ∧ Q (.ow (.lst ys)) (unwipe ns ρ1 ρ2) := by
  simp only [evE, v_bnd, v_guard, v_quiet, v_pur]
  rfl
theorem v_l2F {T : Tab} {cal mkc : Cal} {ρ : Ro} {Q : List Val → Ro → Prop} {ns1 : List Nat} {t1 : Tg} {it1 : Iter} {e : Ex} : Vp (lc2F T cal mkc ns1 t1 it1 e ρ) Q ↔ Vp (evIt T cal mkc it1 ρ) fun ys ρ2 => Vp (lcLoop (lcF T cal mkc none e) t1 ns1 ys (wipeR ρ2 ns1)) Q := by
  simp only [lc2F, v_bnd]
theorem v_l2N {f : Ro → Res (List Val)} {t : Tg} {ns : List Nat} {ρ : Ro} {Q : List Val → Ro → Prop} : Vp (lc2Loop f t ns [] ρ) Q ↔ Q [] ρ := by simp only [lc2Loop, v_pur]
theorem v_l2C {f : Ro → Res (List Val)} {t : Tg} {ns : List Nat} {ρ : Ro} {Q : List Val → Ro → Prop} {x : Val} {xs : List Val} : Vp (lc2Loop f t ns (x :: xs) ρ) Q ↔ Up (assn t (.fz x) ρ) fun ρ1 => Vp (f ρ1) fun ys ρ2 => Vp (lc2Loop f t ns xs (wipeR ρ2 ns)) fun zs ρ3 => Q (ys ++ zs) ρ3 := by
  simp only [lc2Loop]
  cases assn t (.fz x) ρ with
  | none => simp only [v_none, u_none]
  | some ρ1 => simp only [u_some, v_bnd, v_pur]
def dcF (T : Tab) (cal mkc : Cal) (k e : Ex) (ρ : Ro) : Res (Val × Val) := bnd (evE T cal mkc k ρ) fun r ρ2 => bnd (fixv r ρ2) fun a ρ3 => bnd (evE T cal mkc e ρ3) fun q ρ4 => bnd (fixv q ρ4) fun v ρ5 => pur (a, v) ρ5
theorem v_dcF {T : Tab} {cal mkc : Cal} {ρ : Ro} {k e : Ex} {Q : Val × Val → Ro → Prop} : Vp (dcF T cal mkc k e ρ) Q ↔ Vp (evE T cal mkc k ρ) fun r ρ2 => Vp (fixv r ρ2) fun a ρ3 => Vp (evE T cal mkc e ρ3) fun q ρ4 => Vp (fixv q ρ4) fun v ρ5 => Q (a, v) ρ5 := by simp only [dcF, v_bnd, v_pur]
theorem v_dcU {T : Tab} {cal mkc : Cal} {ρ : Ro} {Q : Slot → Ro → Prop} {ns : List Nat} {t : Tg} {it : Iter} {k e : Ex} : Vp (evE T cal mkc (.dc ns t it k e) ρ) Q ↔ Vp (evIt T cal mkc it ρ) fun xs ρ1 => (xs.length ≤ cap ∧ clean ns ρ1 = true) ∧ Vp (dcLoop (dcF T cal mkc k e) t ns xs (wipeR ρ1 ns) []) fun ys ρ2 => Q (.ow (.dct ys)) (unwipe ns ρ1 ρ2) := by
  simp only [evE, v_bnd, v_guard, v_quiet, v_pur]
  rfl
theorem v_dN {f : Ro → Res (Val × Val)} {t : Tg} {ns : List Nat} {ρ : Ro} {acc : List (Val × Val)} {Q : List (Val × Val) → Ro → Prop} : Vp (dcLoop f t ns [] ρ acc) Q ↔ Q acc ρ := by simp only [dcLoop, v_pur]
theorem v_dC {f : Ro → Res (Val × Val)} {t : Tg} {ns : List Nat} {ρ : Ro} {acc : List (Val × Val)} {Q : List (Val × Val) → Ro → Prop} {x : Val} {xs : List Val} : Vp (dcLoop f t ns (x :: xs) ρ acc) Q ↔ Up (assn t (.fz x) ρ) fun ρ1 => Vp (f ρ1) fun y ρ2 => (dkey y.1 && fits acc y.1) = true ∧ Vp (dcLoop f t ns xs (wipeR ρ2 ns) (put acc y.1 y.2)) Q := by
  simp only [dcLoop]
  cases assn t (.fz x) ρ with
  | none => simp only [v_none, u_none]
  | some ρ1 => simp only [u_some, v_bnd, v_guard]
theorem v_lcL {β : Type} (m : β → Val) (as : List β) (g : β → Option Val) {f : Ro → Res (Option Val)} {t : Tg} {ns : List Nat} {ρ : Ro} {Q : List Val → Ro → Prop} (hb : ∀ a ∈ as, Up (assn t (.fz (m a)) ρ) fun ρ2 => Vp (f ρ2) fun y ρ3 => y = g a ∧ wipeR ρ3 ns = ρ) (hq : Q (as.filterMap g) ρ) : Vp (lcLoop f t ns (as.map m) ρ) Q := by
  have hb2 : ∀ x ∈ as, ∃ ρ2 ρ3, assn t (.fz (m x)) ρ = some ρ2 ∧ f ρ2 = some (.ok (g x) ρ3) ∧ wipeR ρ3 ns = ρ := by
    intro x hx
    obtain ⟨ρ2, e2, y, ρ3, e3, rfl, h3⟩ := hb x hx
    exact ⟨ρ2, ρ3, e2, e3, h3⟩
  exact ⟨_, _, lc_gen (f := f) (t := t) (ns := ns) (ρ := ρ) m g (xs := as) hb2, hq⟩
theorem v_forL {β : Type} (m : β → Val) (as : List β) (I : List β → Ro → Prop) {body : Ro → Res Fl} {t : Tg} {ρ : Ro} {Q : Fl → Ro → Prop} (h0 : I [] ρ)
    (hs : ∀ pre a suf, as = pre ++ a :: suf → ∀ ρ1, I pre ρ1 → Up (assn t (.fz (m a)) ρ1) fun ρ2 => Vp (body ρ2) fun f ρ3 => Nxt f ρ3 (I (pre ++ [a])) Q) (he : ∀ ρ1, I as ρ1 → Q .nx ρ1) : Vp (forF body t (as.map m) ρ) Q := by
  have key : ∀ (suf pre : List β) (ρ : Ro), as = pre ++ suf → I pre ρ → Vp (forF body t (suf.map m) ρ) Q := by
    intro suf
    induction suf with
    | nil =>
      intro pre ρ e h
      rw [List.append_nil] at e
      rw [List.map_nil, forF, v_pur]
      exact he _ (e ▸ h)
    | cons a suf ih =>
      intro pre ρ e h
      obtain ⟨ρ2, e2, f, ρ3, e3, h3⟩ := hs pre a suf e ρ h
      rw [List.map_cons]
      simp only [forF, e2, e3, bnd_ok]
      cases f with
      | nx => exact ih (pre ++ [a]) ρ3 (by simp [e]) h3
      | rt q => exact v_pur.mpr h3
  exact key as [] ρ rfl h0
theorem qv_of {T : Tab} {k : Nat} {f : String} {d : Def} {args fin : List Slot} {r : Slot} (hd : T.fn f = some d) (hx : T.ext f = none) (h : (args.length == d.ps.length && decide (d.ps.length ≤ d.n) && sameKind args d.io) = true) (hk : keptIo args fin = true)
    (hw : Vp (evSs T (evF T k) (ev2 T k).2 d.body (args ++ List.replicate (d.n - d.ps.length) .un)) fun f ρ => Nxt f ρ (fun ρ => r = .fz .non ∧ ρ.take d.ps.length = fin) fun f ρ => f = .rt r ∧ ρ.take d.ps.length = fin) : evF T (k + 1) f args = some (.ok r fin) := by
  rw [evF_succ, run_def hd hx h]
  obtain ⟨f, ρ, e, q⟩ := hw
  rw [e]
  cases f with
  | nx =>
    obtain ⟨rfl, rfl⟩ := q
    simp only [endF, hk, if_true]
  | rt r' =>
    obtain ⟨e, rfl⟩ := q
    cases e
    simp only [endF, hk, if_true]
theorem qv_ofP {T : Tab} {k : Nat} {f : String} {d : Def} {args : List Slot} {P : Slot → List Slot → Prop} (hd : T.fn f = some d) (hx : T.ext f = none) (h : (args.length == d.ps.length && decide (d.ps.length ≤ d.n) && sameKind args d.io) = true)
    (hw : Vp (evSs T (evF T k) (ev2 T k).2 d.body (args ++ List.replicate (d.n - d.ps.length) .un)) fun f ρ => keptIo args (ρ.take d.ps.length) = true ∧ Nxt f ρ (fun ρ => P (.fz .non) (ρ.take d.ps.length)) fun f ρ => ∃ r, f = .rt r ∧ P r (ρ.take d.ps.length)) : Vp (evF T (k + 1) f args) P := by
  rw [evF_succ, run_def hd hx h]
  obtain ⟨f, ρ, e, hk, q⟩ := hw
  rw [e]
  cases f with
  | nx =>
    simp only [endF, hk, if_true, v_ok]
    exact q
  | rt r' =>
    obtain ⟨r, e, q⟩ := q
    cases e
    simp only [endF, hk, if_true, v_ok]
    exact q
end EV.Y
namespace EV.Y
class Kn (α : Type) : Type where
  go : α → Ro → Prop
class Ko (α : Type) : Type where
  go : α → Prop
class Kt : Type where
  a : Prop
  b : Prop
def Wp {α : Type} (m : Res α) [c : Kn α] : Prop := Vp m c.go
def Op {α : Type} (m : Option α) [c : Ko α] : Prop := Up m c.go
def IfW (d : Bool) [c : Kt] : Prop := IfV d c.a c.b
theorem ifW_t {A B : Prop} : IfW true (c := ⟨A, B⟩) ↔ A := ifV_t
theorem ifW_f {A B : Prop} : IfW false (c := ⟨A, B⟩) ↔ B := ifV_f
theorem ifW_of {d : Bool} {A B : Prop} (h1 : d = true → A) (h2 : d = false → B) : IfW d (c := ⟨A, B⟩) := ifV_of h1 h2
theorem wp_mono {α : Type} {m : Res α} {Q Q' : α → Ro → Prop} (h : Wp m (c := ⟨Q⟩)) (hq : ∀ a ρ, Q a ρ → Q' a ρ) : Wp m (c := ⟨Q'⟩) := vp_mono h hq
section
variable {α β : Type} {Q : α → Ro → Prop} {P : α → Prop}
theorem w_bnd {m : Res β} {k : β → Ro → Res α} : Wp (bnd m k) (c := ⟨Q⟩) ↔ Wp m (c := ⟨fun a ρ => Wp (k a ρ) (c := ⟨Q⟩)⟩) := v_bnd
theorem w_pur {a : α} {ρ : Ro} : Wp (pur a ρ) (c := ⟨Q⟩) ↔ Q a ρ := v_pur
theorem w_ok {a : α} {ρ : Ro} : Wp (some (.ok a ρ)) (c := ⟨Q⟩) ↔ Q a ρ := v_ok
theorem o_some {a : α} : Op (some a) (c := ⟨P⟩) ↔ P a := u_some
theorem w_lift {o : Option α} {ρ : Ro} : Wp (lift o ρ) (c := ⟨Q⟩) ↔ Op o (c := ⟨fun a => Q a ρ⟩) := v_lift
theorem o_bind {o : Option β} {k : β → Option α} : Op (o.bind k) (c := ⟨P⟩) ↔ Op o (c := ⟨fun a => Op (k a) (c := ⟨P⟩)⟩) := u_bind
theorem o_map {o : Option β} {k : β → α} : Op (o.map k) (c := ⟨P⟩) ↔ Op o (c := ⟨fun a => P (k a)⟩) := u_map
theorem w_guard {c : Prop} [Decidable c] {x : Res α} : Wp (if c then x else none) (c := ⟨Q⟩) ↔ c ∧ Wp x (c := ⟨Q⟩) := v_guard
theorem w_guardN {c : Prop} [Decidable c] {x : Res α} : Wp (if c then none else x) (c := ⟨Q⟩) ↔ ¬ c ∧ Wp x (c := ⟨Q⟩) := v_guardN
theorem o_guard {c : Prop} [Decidable c] {x : Option α} : Op (if c then x else none) (c := ⟨P⟩) ↔ c ∧ Op x (c := ⟨P⟩) := u_guard
end
section
variable {T : Tab} {cal mkc : Cal} {ρ : Ro} {Q : Slot → Ro → Prop}
theorem w_v {i : Nat} : Wp (evE T cal mkc (.v i) ρ) (c := ⟨Q⟩) ↔ Wp (slotAt i ρ) (c := ⟨Q⟩) := v_v
theorem w_g {x : String} : Wp (evE T cal mkc (.g x) ρ) (c := ⟨Q⟩) ↔ Op (T.cst x) (c := ⟨fun v => Q (.fz v) ρ⟩) := v_g
theorem w_non : Wp (evE T cal mkc .non ρ) (c := ⟨Q⟩) ↔ Q (.fz .non) ρ := v_non
theorem w_bl {b : Bool} : Wp (evE T cal mkc (.bl b) ρ) (c := ⟨Q⟩) ↔ Q (.fz (.bl b)) ρ := v_bl
theorem w_int {i : Int} : Wp (evE T cal mkc (.int i) ρ) (c := ⟨Q⟩) ↔ Q (.fz (.int i)) ρ := v_int
theorem w_str {s : String} : Wp (evE T cal mkc (.str s) ρ) (c := ⟨Q⟩) ↔ Q (.fz (.str (asStr s))) ρ := v_str
theorem w_tup {es : List Ex} : Wp (evE T cal mkc (.tup es) ρ) (c := ⟨Q⟩) ↔ Wp (evEs T cal mkc es ρ) (c := ⟨fun vs ρ' => vs.length ≤ cap ∧ Q (.fz (.tup vs)) ρ'⟩) := v_tup
theorem w_lst {es : List Ex} : Wp (evE T cal mkc (.lst es) ρ) (c := ⟨Q⟩) ↔ Wp (evEs T cal mkc es ρ) (c := ⟨fun vs ρ' => vs.length ≤ cap ∧ Q (.ow (.lst vs)) ρ'⟩) := v_lst
theorem w_bin {o : Bin} {a b : Ex} : Wp (evE T cal mkc (.bin o a b) ρ) (c := ⟨Q⟩) ↔ Wp (opnd a (evE T cal mkc a) ρ) (c := ⟨fun x ρ1 => Wp (opnd b (evE T cal mkc b) ρ1) (c := ⟨fun y ρ2 => Op (x.val ρ2) (c := ⟨fun u => Op (y.val ρ2) (c := ⟨fun w => Op (binF o u w) (c := ⟨fun r => Q r ρ2⟩)⟩)⟩)⟩)⟩) := v_bin
theorem w_cmp {o : Cmp} {a b : Ex} : Wp (evE T cal mkc (.cmp o a b) ρ) (c := ⟨Q⟩) ↔ Wp (opnd a (evE T cal mkc a) ρ) (c := ⟨fun x ρ1 => Wp (opnd b (evE T cal mkc b) ρ1) (c := ⟨fun y ρ2 => Op (x.val ρ2) (c := ⟨fun u => Op (y.val ρ2) (c := ⟨fun w => Op (cmpF o u w) (c := ⟨fun c => Q (.fz (.bl c)) ρ2⟩)⟩)⟩)⟩)⟩) := v_cmp
theorem w_idx {a b : Ex} : Wp (evE T cal mkc (.idx a b) ρ) (c := ⟨Q⟩) ↔ Wp (opnd a (evE T cal mkc a) ρ) (c := ⟨fun x ρ1 => Wp (opnd b (evE T cal mkc b) ρ1) (c := ⟨fun y ρ2 => Op (x.val ρ2) (c := ⟨fun u => Op (y.val ρ2) (c := ⟨fun w => Op (idxF u w) (c := ⟨fun c => Q (.fz c) ρ2⟩)⟩)⟩)⟩)⟩) := v_idx
theorem w_chain {o p : Cmp} {a b c : Ex} : Wp (evE T cal mkc (.chain o p a b c) ρ) (c := ⟨Q⟩) ↔ Wp (opnd a (evE T cal mkc a) ρ) (c := ⟨fun x ρ1 => Wp (opnd b (evE T cal mkc b) ρ1) (c := ⟨fun y ρ2 => Op (x.val ρ2) (c := ⟨fun u => Op (y.val ρ2) (c := ⟨fun w => Op (cmpF o u w) (c := ⟨fun d => IfW d (c := ⟨Wp (opnd c (evE T cal mkc c) ρ2) (c := ⟨fun z ρ3 => Op (y.val ρ3) (c := ⟨fun u => Op (z.val ρ3) (c := ⟨fun w => Op (cmpF p u w) (c := ⟨fun e => Q (.fz (.bl e)) ρ3⟩)⟩)⟩)⟩), Q (.fz (.bl false)) ρ2⟩)⟩)⟩)⟩)⟩)⟩) := v_chain
theorem w_prim {p : String} {es : List Ex} : Wp (evE T cal mkc (.prim p es) ρ) (c := ⟨Q⟩) ↔ Op (T.prm p) (c := ⟨fun g => Wp (evEs T cal mkc es ρ) (c := ⟨fun vs ρ1 => Op (g vs) (c := ⟨fun r => Q r ρ1⟩)⟩)⟩) := v_prim
theorem w_bor {a : Ex} : Wp (evE T cal mkc (.bor a) ρ) (c := ⟨Q⟩) ↔ Wp (evE T cal mkc a (ρ.map bw)) (c := ⟨fun r _ => smp r = true ∧ Q r ρ⟩) := v_bor
theorem w_neg {a : Ex} : Wp (evE T cal mkc (.neg a) ρ) (c := ⟨Q⟩) ↔ Wp (evE T cal mkc a ρ) (c := ⟨fun r ρ1 => Op (asInt r) (c := ⟨fun i => Q (.fz (.int (-i))) ρ1⟩)⟩) := v_neg
theorem w_nt {a : Ex} : Wp (evE T cal mkc (.nt a) ρ) (c := ⟨Q⟩) ↔ Wp (evE T cal mkc a ρ) (c := ⟨fun r ρ1 => Wp (asBool r ρ1) (c := ⟨fun b ρ2 => Q (.fz (.bl (!b))) ρ2⟩)⟩) := v_nt
theorem w_and {a b : Ex} : Wp (evE T cal mkc (.and a b) ρ) (c := ⟨Q⟩) ↔ Wp (evE T cal mkc a ρ) (c := ⟨fun r ρ1 => Wp (asBool r ρ1) (c := ⟨fun c ρ2 => IfW c (c := ⟨Wp (evE T cal mkc b ρ2) (c := ⟨Q⟩), Q (.fz (.bl false)) ρ2⟩)⟩)⟩) := v_and
theorem w_or {a b : Ex} : Wp (evE T cal mkc (.or a b) ρ) (c := ⟨Q⟩) ↔ Wp (evE T cal mkc a ρ) (c := ⟨fun r ρ1 => Wp (asBool r ρ1) (c := ⟨fun c ρ2 => IfW c (c := ⟨Q (.fz (.bl true)) ρ2, Wp (evE T cal mkc b ρ2) (c := ⟨Q⟩)⟩)⟩)⟩) := v_or
theorem w_ite {c a b : Ex} : Wp (evE T cal mkc (.ite c a b) ρ) (c := ⟨Q⟩) ↔ Wp (evE T cal mkc c ρ) (c := ⟨fun r ρ1 => Wp (asBool r ρ1) (c := ⟨fun d ρ2 => IfW d (c := ⟨Wp (evE T cal mkc a ρ2) (c := ⟨Q⟩), Wp (evE T cal mkc b ρ2) (c := ⟨Q⟩)⟩)⟩)⟩) := v_ite
theorem w_slc {a : Ex} {lo hi : Option Ex} : Wp (evE T cal mkc (.slc a lo hi) ρ) (c := ⟨Q⟩) ↔ Wp (opnd a (evE T cal mkc a) ρ) (c := ⟨fun x ρ1 => Wp (evOp T cal mkc lo ρ1) (c := ⟨fun l ρ2 => Wp (evOp T cal mkc hi ρ2) (c := ⟨fun h ρ3 => Op (x.val ρ3) (c := ⟨fun u => Op (slcF u l h) (c := ⟨fun r => Q r ρ3⟩)⟩)⟩)⟩)⟩) := v_slc
theorem w_fld {a : Ex} {f : String} : Wp (evE T cal mkc (.fld a f) ρ) (c := ⟨Q⟩) ↔ Wp (opnd a (evE T cal mkc a) ρ) (c := ⟨fun x ρ1 => Op (x.val ρ1) (c := ⟨fun u => Op (fldT T f u) (c := ⟨fun v => Q (.fz v) ρ1⟩)⟩)⟩) := v_fld
theorem w_prp {a : Ex} {c p f : String} : Wp (evE T cal mkc (.prp c p f a) ρ) (c := ⟨Q⟩) ↔ Wp (opnd a (evE T cal mkc a) ρ) (c := ⟨fun x ρ1 => Op (x.val ρ1) (c := ⟨fun u => Op (prpT T c p f u) (c := ⟨fun v => Q (.fz v) ρ1⟩)⟩)⟩) := v_prp
theorem w_isi {a : Ex} {t : String} : Wp (evE T cal mkc (.isi a t) ρ) (c := ⟨Q⟩) ↔ Wp (opnd a (evE T cal mkc a) ρ) (c := ⟨fun x ρ1 => Op (x.val ρ1) (c := ⟨fun u => Op (isiV T.isc u t) (c := ⟨fun b => Q (.fz (.bl b)) ρ1⟩)⟩)⟩) := v_isi
theorem w_blt1 {b : Bl} {a : Ex} : Wp (evE T cal mkc (.blt b [a]) ρ) (c := ⟨Q⟩) ↔ Wp (opnd a (evE T cal mkc a) ρ) (c := ⟨fun x ρ1 => Op (x.val ρ1) (c := ⟨fun u => Op (bltF b [u]) (c := ⟨fun r => Q r ρ1⟩)⟩)⟩) := v_blt1
theorem w_blt2 {b : Bl} {a c : Ex} {r : List Ex} : Wp (evE T cal mkc (.blt b (a :: c :: r)) ρ) (c := ⟨Q⟩) ↔ Wp (evEs T cal mkc (a :: c :: r) ρ) (c := ⟨fun vs ρ1 => Op (bltF b vs) (c := ⟨fun r => Q r ρ1⟩)⟩) := v_blt2
theorem w_bmt {a : Ex} {m : Bm} {es : List Ex} : Wp (evE T cal mkc (.bmt a m es) ρ) (c := ⟨Q⟩) ↔ Wp (opnd a (evE T cal mkc a) ρ) (c := ⟨fun x ρ1 => ((x.val ρ1).map (bmtK m)).getD false = true ∧ Wp (evEs T cal mkc es ρ1) (c := ⟨fun vs ρ2 => Op (x.val ρ2) (c := ⟨fun u => Op (bmtF u m vs) (c := ⟨fun r => Q r ρ2⟩)⟩)⟩)⟩) := v_bmt
theorem w_lrg {e : Ex} : Wp (evE T cal mkc (.lrg e) ρ) (c := ⟨Q⟩) ↔ Wp (evE T cal mkc e ρ) (c := ⟨fun r ρ1 => Wp (fixv r ρ1) (c := ⟨fun v ρ2 => Op (rngF [v]) (c := ⟨fun xs => Q (.ow (.lst xs)) ρ2⟩)⟩)⟩) := v_lrg
theorem w_dct0 : Wp (evE T cal mkc (.dct [] []) ρ) (c := ⟨Q⟩) ↔ Q (.ow (.dct [])) ρ := v_dct0
theorem w_dct1 {k e : Ex} : Wp (evE T cal mkc (.dct [k] [e]) ρ) (c := ⟨Q⟩) ↔ Wp (evE T cal mkc k ρ) (c := ⟨fun r ρ1 => Wp (fixv r ρ1) (c := ⟨fun a ρ2 => Wp (evE T cal mkc e ρ2) (c := ⟨fun q ρ3 => Wp (fixv q ρ3) (c := ⟨fun v ρ4 => dkey a = true ∧ Q (.ow (.dct [(a, v)])) ρ4⟩)⟩)⟩)⟩) := v_dct1
theorem w_dct2 {k e k2 e2 : Ex} : Wp (evE T cal mkc (.dct2 k e k2 e2) ρ) (c := ⟨Q⟩) ↔ Wp (evE T cal mkc k ρ) (c := ⟨fun r ρ1 => Wp (fixv r ρ1) (c := ⟨fun a ρ2 => Wp (evE T cal mkc e ρ2) (c := ⟨fun q ρ3 => Wp (fixv q ρ3) (c := ⟨fun v ρ4 => Wp (evE T cal mkc k2 ρ4) (c := ⟨fun r2 ρ5 => Wp (fixv r2 ρ5) (c := ⟨fun b ρ6 => Wp (evE T cal mkc e2 ρ6) (c := ⟨fun q2 ρ7 => Wp (fixv q2 ρ7) (c := ⟨fun w ρ8 => (keyOk a && keyOk b) = true ∧ Q (.ow (.dct (put [(a, v)] b w))) ρ8⟩)⟩)⟩)⟩)⟩)⟩)⟩)⟩) := v_dct2
theorem w_tzp {a b : Ex} : Wp (evE T cal mkc (.tzp a b) ρ) (c := ⟨Q⟩) ↔ Wp (evE T cal mkc a ρ) (c := ⟨fun r ρ1 => Wp (fixv r ρ1) (c := ⟨fun u ρ2 => Wp (evE T cal mkc b ρ2) (c := ⟨fun q ρ3 => Wp (fixv q ρ3) (c := ⟨fun w ρ4 => Op (tzpF u w) (c := ⟨fun s => Q s ρ4⟩)⟩)⟩)⟩)⟩) := v_tzp
theorem w_lzp {a b : Ex} : Wp (evE T cal mkc (.lzp a b) ρ) (c := ⟨Q⟩) ↔ Wp (evE T cal mkc a ρ) (c := ⟨fun r ρ1 => Wp (fixv r ρ1) (c := ⟨fun u ρ2 => Wp (evE T cal mkc b ρ2) (c := ⟨fun q ρ3 => Wp (fixv q ρ3) (c := ⟨fun w ρ4 => Op (lzpF u w) (c := ⟨fun s => Q s ρ4⟩)⟩)⟩)⟩)⟩) := v_lzp
theorem w_dcl {e : Ex} : Wp (evE T cal mkc (.dcl e) ρ) (c := ⟨Q⟩) ↔ Wp (evE T cal mkc e ρ) (c := ⟨fun r ρ1 => Wp (fixv r ρ1) (c := ⟨fun v ρ2 => Op (dclF v) (c := ⟨fun s => Q s ρ2⟩)⟩)⟩) := v_dcl
theorem w_rev {a : Ex} : Wp (evE T cal mkc (.rev a) ρ) (c := ⟨Q⟩) ↔ Wp (opnd a (evE T cal mkc a) ρ) (c := ⟨fun x ρ1 => Op (x.val ρ1) (c := ⟨fun u => Op (revF u) (c := ⟨fun s => Q s ρ1⟩)⟩)⟩) := v_rev
theorem w_fin {as : List Arg} {m : Res Slot} : Wp (finish as m ρ) (c := ⟨Q⟩) ↔ Wp m (c := ⟨fun r fin => Op (putBack as fin ρ) (c := ⟨fun ρ' => Q r ρ'⟩)⟩) := v_fin
theorem w_callF {ps : List String} {f : String} {as : List Arg} : Wp (callF cal ps f [] as ρ) (c := ⟨Q⟩) ↔ ioNd as = true ∧ Op (argsOf ρ as) (c := ⟨fun args => Wp (cal f args) (c := ⟨fun r fin => Op (putBack as fin ρ) (c := ⟨fun ρ' => Q r ρ'⟩)⟩)⟩) := v_callF
theorem w_call {f : String} {d : Def} {es : List Ex} (hd : T.fn f = some d) : Wp (evE T cal mkc (.call f es []) ρ) (c := ⟨Q⟩) ↔ Wp (evAs T cal mkc d.io es ρ) (c := ⟨fun as ρ1 => Wp (callF cal d.ps f [] as ρ1) (c := ⟨Q⟩)⟩) := v_call hd
theorem w_kwEnd {m : Res Slot} : Wp (kwEnd m ρ) (c := ⟨Q⟩) ↔ Wp m (c := ⟨fun r _ => Q r ρ⟩) := v_kwEnd
theorem w_callK {f : String} {d : Def} {es : List Ex} {k : String} {ks : List String} (hd : T.fn f = some d) : Wp (evE T cal mkc (.call f es (k :: ks)) ρ) (c := ⟨Q⟩) ↔ Wp (evEs T cal mkc es ρ) (c := ⟨fun vs ρ1 => vs.length = (k :: ks).length ∧ Op (byName d.ps (k :: ks) vs) (c := ⟨fun ws => Wp (cal f (ws.map .fz)) (c := ⟨fun r _ => Q r ρ1⟩)⟩)⟩) := v_callK hd
theorem w_mth {k c m : String} {d : Def} {a : Ex} {es : List Ex} (hd : T.fn k = some d) : Wp (evE T cal mkc (.mth k c m a es) ρ) (c := ⟨Q⟩) ↔ Wp (argOf (d.io.getD 0 false) a (evE T cal mkc a) ρ) (c := ⟨fun r ρ0 => r.isObj ρ0 c m = true ∧ Wp (evAs T cal mkc (d.io.drop 1) es ρ0) (c := ⟨fun as ρ1 => Wp (callF cal d.ps k [] (r :: as) ρ1) (c := ⟨Q⟩)⟩)⟩) := v_mth hd
theorem w_ln {f c : String} {d : Def} {es : List Ex} (hd : T.fn f = some d) : Wp (evE T cal mkc (.ln f c es) ρ) (c := ⟨Q⟩) ↔ Wp (evAs T cal mkc d.io es ρ) (c := ⟨fun as ρ1 => as.all (Arg.isObj ρ1 c "__len__") = true ∧ Wp (callF mkc d.ps f [] as ρ1) (c := ⟨fun r ρ2 => Wp (lenEnd r ρ2) (c := ⟨Q⟩)⟩)⟩) := v_ln hd
theorem w_sp {f c m : String} {ne : Bool} {d : Def} {es : List Ex} (hd : T.fn f = some d) : Wp (evE T cal mkc (.sp f c m ne es) ρ) (c := ⟨Q⟩) ↔ Wp (evAs T cal mkc d.io es ρ) (c := ⟨fun as ρ1 => Op (spAs ρ1 c m as) (c := ⟨fun bs => Wp (callF mkc d.ps f [] bs ρ1) (c := ⟨fun r ρ2 => Wp (spEnd m ne r ρ2) (c := ⟨Q⟩)⟩)⟩)⟩) := v_sp hd
theorem w_spS {ne : Bool} {l : List Nat} : Wp (spEnd "__str__" ne (.fz (.str l)) ρ) (c := ⟨Q⟩) ↔ Q (.fz (.str l)) ρ := v_spS
theorem w_spE {ne b : Bool} : Wp (spEnd "__eq__" ne (.fz (.bl b)) ρ) (c := ⟨Q⟩) ↔ Q (.fz (.bl (b != ne))) ρ := v_spE
theorem w_spB {ne b : Bool} : Wp (spEnd "__bool__" ne (.fz (.bl b)) ρ) (c := ⟨Q⟩) ↔ Q (.fz (.bl (b != ne))) ρ := v_spB
theorem w_pg {f c m : String} {d : Def} {a : Ex} (hd : T.fn f = some d) : Wp (evE T cal mkc (.pg f c m a) ρ) (c := ⟨Q⟩) ↔ Wp (argOf (d.io.getD 0 false) a (evE T cal mkc a) ρ) (c := ⟨fun r ρ1 => r.isObj ρ1 c m = true ∧ Wp (callF mkc d.ps f [] [r] ρ1) (c := ⟨Q⟩)⟩) := v_pg hd
theorem w_lenEnd {n : Int} : Wp (lenEnd (.fz (.int n)) ρ) (c := ⟨Q⟩) ↔ (0 ≤ n ∧ n < 2 ^ 63) ∧ Q (.fz (.int n)) ρ := v_lenEnd
theorem w_mkEnd {m : Res Slot} : Wp (mkEnd m ρ) (c := ⟨Q⟩) ↔ Wp m (c := ⟨fun r fin => Op (asNew r fin) (c := ⟨fun v => Q (.ow v) ρ⟩)⟩) := v_mkEnd
theorem w_mk {c : String} {d : Def} {es : List Ex} (hd : T.fn (c ++ ".__init__") = some d) : Wp (evE T cal mkc (.mk c es []) ρ) (c := ⟨Q⟩) ↔ Wp (evEs T cal mkc es ρ) (c := ⟨fun vs ρ1 => Wp (mkc (c ++ ".__init__") (.ow (.obj c []) :: vs.map .fz)) (c := ⟨fun r fin => Op (asNew r fin) (c := ⟨fun v => Q (.ow v) ρ1⟩)⟩)⟩) := v_mk hd
theorem w_mkv {c : String} {i : Nat} {d : Def} {es : List Ex} (hd : T.fn (c ++ ".__init__") = some d) : Wp (evE T cal mkc (.mkv i c es) ρ) (c := ⟨Q⟩) ↔ isCls c (ρ[i]?) = true ∧ Wp (evEs T cal mkc es ρ) (c := ⟨fun vs ρ1 => Wp (mkc (c ++ ".__init__") (.ow (.obj c []) :: vs.map .fz)) (c := ⟨fun r fin => Op (asNew r fin) (c := ⟨fun v => Q (.ow v) ρ1⟩)⟩)⟩) := v_mkv hd
theorem w_cm {f c : String} {d : Def} {es : List Ex} (hd : T.fn f = some d) : Wp (evE T cal mkc (.cm f c es []) ρ) (c := ⟨Q⟩) ↔ Wp (evEs T cal mkc es ρ) (c := ⟨fun vs ρ1 => Wp (cal f (.fz (.cls c) :: vs.map .fz)) (c := ⟨fun r _ => Q r ρ1⟩)⟩) := v_cm hd
theorem w_cmK {f c k : String} {ks : List String} {d : Def} {es : List Ex} (hd : T.fn f = some d) : Wp (evE T cal mkc (.cm f c es (k :: ks)) ρ) (c := ⟨Q⟩) ↔ Wp (evEs T cal mkc es ρ) (c := ⟨fun vs ρ1 => vs.length = (k :: ks).length ∧ Op (byName (d.ps.drop 1) (k :: ks) vs) (c := ⟨fun ws => Wp (cal f (.fz (.cls c) :: ws.map .fz)) (c := ⟨fun r _ => Q r ρ1⟩)⟩)⟩) := v_cmK hd
theorem w_mkK {c k : String} {ks : List String} {d : Def} {es : List Ex} (hd : T.fn (c ++ ".__init__") = some d) : Wp (evE T cal mkc (.mk c es (k :: ks)) ρ) (c := ⟨Q⟩) ↔ Wp (evEs T cal mkc es ρ) (c := ⟨fun vs ρ1 => vs.length = (k :: ks).length ∧ Op (byName (d.ps.drop 1) (k :: ks) vs) (c := ⟨fun ws => Wp (mkc (c ++ ".__init__") (.ow (.obj c []) :: ws.map .fz)) (c := ⟨fun r fin => Op (asNew r fin) (c := ⟨fun v => Q (.ow v) ρ1⟩)⟩)⟩)⟩) := v_mkK hd
end
section
variable {T : Tab} {cal mkc : Cal} {ρ : Ro}
theorem w_opE {e : Ex} {m : Ro → Res Slot} {Q : Opd → Ro → Prop} (he : isV e = false) : Wp (opnd e m ρ) (c := ⟨Q⟩) ↔ Wp (m ρ) (c := ⟨fun r ρ' => Wp (fixv r ρ') (c := ⟨fun v ρ'' => Q (.tm v) ρ''⟩)⟩) := v_opE he
theorem w_fixF {v : Val} {Q : Val → Ro → Prop} : Wp (fixv (.fz v) ρ) (c := ⟨Q⟩) ↔ Q v ρ := v_fixF
theorem w_fixO {v : Val} {Q : Val → Ro → Prop} : Wp (fixv (.ow v) ρ) (c := ⟨Q⟩) ↔ Q v ρ := v_fixO
theorem w_asBool {b : Bool} {Q : Bool → Ro → Prop} : Wp (asBool (.fz (.bl b)) ρ) (c := ⟨Q⟩) ↔ Q b ρ := v_asBool
theorem w_opN {Q : Option Int → Ro → Prop} : Wp (evOp T cal mkc none ρ) (c := ⟨Q⟩) ↔ Q none ρ := v_opN
theorem w_opS {e : Ex} {Q : Option Int → Ro → Prop} : Wp (evOp T cal mkc (some e) ρ) (c := ⟨Q⟩) ↔ Wp (evE T cal mkc e ρ) (c := ⟨fun r ρ1 => Op (asInt r) (c := ⟨fun i => Q (some i) ρ1⟩)⟩) := v_opS
theorem w_cN {Q : Bool → Ro → Prop} : Wp (evC T cal mkc none ρ) (c := ⟨Q⟩) ↔ Q true ρ := v_cN
theorem w_cS {e : Ex} {Q : Bool → Ro → Prop} : Wp (evC T cal mkc (some e) ρ) (c := ⟨Q⟩) ↔ Wp (evE T cal mkc e ρ) (c := ⟨fun r ρ1 => Wp (asBool r ρ1) (c := ⟨Q⟩)⟩) := v_cS
theorem w_esN {Q : List Val → Ro → Prop} : Wp (evEs T cal mkc [] ρ) (c := ⟨Q⟩) ↔ Q [] ρ := v_esN
theorem w_esS {a : Ex} {r : List Ex} {Q : List Val → Ro → Prop} : Wp (evEs T cal mkc (.star a :: r) ρ) (c := ⟨Q⟩) ↔ Wp (evE T cal mkc a ρ) (c := ⟨fun q ρ1 => Wp (fixv q ρ1) (c := ⟨fun v ρ2 => Op (asSeq v) (c := ⟨fun xs => Wp (evEs T cal mkc r ρ2) (c := ⟨fun vs ρ3 => Q (xs ++ vs) ρ3⟩)⟩)⟩)⟩) := v_esS
theorem w_esC {e : Ex} {r : List Ex} {Q : List Val → Ro → Prop} (he : isStar e = false) : Wp (evEs T cal mkc (e :: r) ρ) (c := ⟨Q⟩) ↔ Wp (evE T cal mkc e ρ) (c := ⟨fun q ρ1 => Wp (fixv q ρ1) (c := ⟨fun v ρ2 => Wp (evEs T cal mkc r ρ2) (c := ⟨fun vs ρ3 => Q (v :: vs) ρ3⟩)⟩)⟩) := v_esC he
theorem w_asN {io : List Bool} {Q : List Arg → Ro → Prop} : Wp (evAs T cal mkc io [] ρ) (c := ⟨Q⟩) ↔ Q [] ρ := v_asN
theorem w_asC {io : List Bool} {e : Ex} {r : List Ex} {Q : List Arg → Ro → Prop} : Wp (evAs T cal mkc io (e :: r) ρ) (c := ⟨Q⟩) ↔ Wp (argOf (io.getD 0 false) e (evE T cal mkc e) ρ) (c := ⟨fun a ρ1 => (a.isN && !r.isEmpty) = false ∧ Wp (evAs T cal mkc (io.drop 1) r ρ1) (c := ⟨fun as ρ2 => Q (a :: as) ρ2⟩)⟩) := v_asC
theorem w_argV {e : Ex} {m : Ro → Res Slot} {Q : Arg → Ro → Prop} : Wp (argOf false e m ρ) (c := ⟨Q⟩) ↔ Wp (m ρ) (c := ⟨fun r ρ1 => Wp (fixv r ρ1) (c := ⟨fun v ρ2 => Q (.va v) ρ2⟩)⟩) := v_argV
theorem w_argI {i : Nat} {m : Ro → Res Slot} {Q : Arg → Ro → Prop} : Wp (argOf true (.v i) m ρ) (c := ⟨Q⟩) ↔ (ownAt i ρ).isSome = true ∧ Q (.io i) ρ := v_argI
theorem w_argN {e : Ex} {m : Ro → Res Slot} {Q : Arg → Ro → Prop} (he : isV e = false) : Wp (argOf true e m ρ) (c := ⟨Q⟩) ↔ Wp (m ρ) (c := ⟨fun r ρ1 => Wp (newArg r ρ1) (c := ⟨Q⟩)⟩) := v_argN he
theorem w_newArg {v : Val} {Q : Arg → Ro → Prop} : Wp (newArg (.ow v) ρ) (c := ⟨Q⟩) ↔ Q (.nw v) ρ := v_newArg
variable {Q : List Val → Ro → Prop}
theorem w_itS {e : Ex} : Wp (evIt T cal mkc (.seq e) ρ) (c := ⟨Q⟩) ↔ Wp (evE T cal mkc e ρ) (c := ⟨fun r ρ1 => Wp (fixv r ρ1) (c := ⟨fun v ρ2 => Op (itemsF v) (c := ⟨fun xs => Q xs ρ2⟩)⟩)⟩) := v_itS
theorem w_itR {e : Ex} : Wp (evIt T cal mkc (.rng e) ρ) (c := ⟨Q⟩) ↔ Wp (evE T cal mkc e ρ) (c := ⟨fun r ρ1 => Wp (fixv r ρ1) (c := ⟨fun v ρ2 => Op (rngF [v]) (c := ⟨fun xs => Q xs ρ2⟩)⟩)⟩) := v_itR
theorem w_itR2 {a b : Ex} : Wp (evIt T cal mkc (.rng2 a b) ρ) (c := ⟨Q⟩) ↔ Wp (evE T cal mkc a ρ) (c := ⟨fun r ρ1 => Wp (fixv r ρ1) (c := ⟨fun u ρ2 => Wp (evE T cal mkc b ρ2) (c := ⟨fun r ρ3 => Wp (fixv r ρ3) (c := ⟨fun v ρ4 => Op (rngF [u, v]) (c := ⟨fun xs => Q xs ρ4⟩)⟩)⟩)⟩)⟩) := v_itR2
theorem w_itR3 {a b c : Ex} : Wp (evIt T cal mkc (.rng3 a b c) ρ) (c := ⟨Q⟩) ↔ Wp (evE T cal mkc a ρ) (c := ⟨fun r ρ1 => Wp (fixv r ρ1) (c := ⟨fun u ρ2 => Wp (evE T cal mkc b ρ2) (c := ⟨fun r ρ3 => Wp (fixv r ρ3) (c := ⟨fun v ρ4 => Wp (evE T cal mkc c ρ4) (c := ⟨fun r ρ5 => Wp (fixv r ρ5) (c := ⟨fun w ρ6 => Op (rngF [u, v, w]) (c := ⟨fun xs => Q xs ρ6⟩)⟩)⟩)⟩)⟩)⟩)⟩) := v_itR3
theorem w_itE {e : Ex} : Wp (evIt T cal mkc (.enum e) ρ) (c := ⟨Q⟩) ↔ Wp (evE T cal mkc e ρ) (c := ⟨fun r ρ1 => Wp (fixv r ρ1) (c := ⟨fun v ρ2 => Op (seqOf v) (c := ⟨fun xs => Q (enumL 0 xs) ρ2⟩)⟩)⟩) := v_itE
theorem w_itZ {a b : Ex} : Wp (evIt T cal mkc (.zip a b) ρ) (c := ⟨Q⟩) ↔ Wp (evE T cal mkc a ρ) (c := ⟨fun r ρ1 => Wp (fixv r ρ1) (c := ⟨fun u ρ2 => Wp (evE T cal mkc b ρ2) (c := ⟨fun r ρ3 => Wp (fixv r ρ3) (c := ⟨fun v ρ4 => Op (seqOf u) (c := ⟨fun xs => Op (seqOf v) (c := ⟨fun ys => Q (zipL xs ys) ρ4⟩)⟩)⟩)⟩)⟩)⟩) := v_itZ
theorem w_itI {e : Ex} : Wp (evIt T cal mkc (.items e) ρ) (c := ⟨Q⟩) ↔ Wp (evE T cal mkc e ρ) (c := ⟨fun r ρ1 => Wp (fixv r ρ1) (c := ⟨fun v ρ2 => Op (itmF v) (c := ⟨fun xs => Q xs ρ2⟩)⟩)⟩) := v_itI
end
section
variable {T : Tab} {cal mkc : Cal} {ρ : Ro} {Q : Fl → Ro → Prop}
theorem w_sN : Wp (evSs T cal mkc [] ρ) (c := ⟨Q⟩) ↔ Q .nx ρ := v_sN
theorem w_sC {s : Sx} {r : List Sx} : Wp (evSs T cal mkc (s :: r) ρ) (c := ⟨Q⟩) ↔ Wp (evS T cal mkc s ρ) (c := ⟨fun f ρ1 => Nxt f ρ1 (fun ρ2 => Wp (evSs T cal mkc r ρ2) (c := ⟨Q⟩)) Q⟩) := v_sC
theorem w_pass : Wp (evS T cal mkc .pass ρ) (c := ⟨Q⟩) ↔ Q .nx ρ := v_pass
theorem w_expr {e : Ex} : Wp (evS T cal mkc (.expr e) ρ) (c := ⟨Q⟩) ↔ Wp (evE T cal mkc e ρ) (c := ⟨fun _ ρ1 => Q .nx ρ1⟩) := v_expr
theorem w_asg {i : Nat} {e : Ex} : Wp (evS T cal mkc (.asg (.nm i) e) ρ) (c := ⟨Q⟩) ↔ Wp (evE T cal mkc e ρ) (c := ⟨fun r ρ1 => Op (assn (.nm i) r ρ1) (c := ⟨fun ρ2 => Q .nx ρ2⟩)⟩) := v_asg
theorem w_asgT {ts : List Tg} {e : Ex} : Wp (evS T cal mkc (.asg (.tp ts) e) ρ) (c := ⟨Q⟩) ↔ Wp (evE T cal mkc e ρ) (c := ⟨fun r ρ1 => Wp (fixv r ρ1) (c := ⟨fun v ρ2 => Op (assn (.tp ts) (.fz v) ρ2) (c := ⟨fun ρ3 => Q .nx ρ3⟩)⟩)⟩) := v_asgT
theorem w_slN {Q : List Slot → Ro → Prop} : Wp (evSl T cal mkc [] ρ) (c := ⟨Q⟩) ↔ Q [] ρ := v_slN
theorem w_slC {e : Ex} {r : List Ex} {Q : List Slot → Ro → Prop} : Wp (evSl T cal mkc (e :: r) ρ) (c := ⟨Q⟩) ↔ Wp (evE T cal mkc e ρ) (c := ⟨fun q ρ1 => Wp (evSl T cal mkc r ρ1) (c := ⟨fun qs ρ2 => Q (q :: qs) ρ2⟩)⟩) := v_slC
theorem w_par {is : List Nat} {es : List Ex} : Wp (evS T cal mkc (.par is es) ρ) (c := ⟨Q⟩) ↔ Wp (evSl T cal mkc es ρ) (c := ⟨fun rs ρ1 => Op (setAll is rs ρ1) (c := ⟨fun ρ2 => Q .nx ρ2⟩)⟩) := v_par
theorem w_aug {i : Nat} {e : Ex} : Wp (evS T cal mkc (.aug i e) ρ) (c := ⟨Q⟩) ↔ Op (valAt i ρ) (c := ⟨fun _ => Wp (opnd e (evE T cal mkc e) ρ) (c := ⟨fun y ρ1 => Op (valAt i ρ1) (c := ⟨fun u => Op (y.val ρ1) (c := ⟨fun w => Op (binF .add u w) (c := ⟨fun r => Op (augS r) (c := ⟨fun r => Q .nx (ρ1.set i r)⟩)⟩)⟩)⟩)⟩)⟩) := v_aug
theorem w_sub {i : Nat} {k e : Ex} : Wp (evS T cal mkc (.sub i k e) ρ) (c := ⟨Q⟩) ↔ Wp (evE T cal mkc e ρ) (c := ⟨fun r ρ1 => Wp (fixv r ρ1) (c := ⟨fun x ρ2 => (ownAt i ρ2).isSome = true ∧ Wp (opnd k (evE T cal mkc k) ρ2) (c := ⟨fun y ρ3 => Op (ownAt i ρ3) (c := ⟨fun u => Op (y.val ρ3) (c := ⟨fun w => Op (setF u w x) (c := ⟨fun v => Q .nx (ρ3.set i (.ow v))⟩)⟩)⟩)⟩)⟩)⟩) := v_sub
theorem w_mut {i : Nat} {m : Mu} {es : List Ex} : Wp (evS T cal mkc (.mut i m es) ρ) (c := ⟨Q⟩) ↔ ((ownAt i ρ).map (mutK m)).getD false = true ∧ Wp (evEs T cal mkc es ρ) (c := ⟨fun vs ρ1 => Op (ownAt i ρ1) (c := ⟨fun u => Op (mutF m u vs) (c := ⟨fun v => Q .nx (ρ1.set i (.ow v))⟩)⟩)⟩) := v_mut
theorem w_subs {i : Nat} {ks : List String} {e : Ex} : Wp (evS T cal mkc (.subs i ks e) ρ) (c := ⟨Q⟩) ↔ Wp (evE T cal mkc e ρ) (c := ⟨fun r ρ1 => Wp (fixv r ρ1) (c := ⟨fun v ρ2 => Op (asTp v) (c := ⟨fun xs => Op (ownAt i ρ2) (c := ⟨fun u => Op (setKs ks xs u) (c := ⟨fun w => Q .nx (ρ2.set i (.ow w))⟩)⟩)⟩)⟩)⟩) := v_subs
theorem w_ret {e : Ex} (he : isV e = false) : Wp (evS T cal mkc (.ret e) ρ) (c := ⟨Q⟩) ↔ Wp (evE T cal mkc e ρ) (c := ⟨fun r ρ1 => Q (.rt r) ρ1⟩) := v_ret he
theorem w_retN : Wp (evS T cal mkc .retN ρ) (c := ⟨Q⟩) ↔ Q (.rt (.fz .non)) ρ := v_retN
theorem w_ife {c : Ex} {a b : List Sx} : Wp (evS T cal mkc (.ife c a b) ρ) (c := ⟨Q⟩) ↔ Wp (evE T cal mkc c ρ) (c := ⟨fun r ρ1 => Wp (asBool r ρ1) (c := ⟨fun d ρ2 => IfW d (c := ⟨Wp (evSs T cal mkc a ρ2) (c := ⟨Q⟩), Wp (evSs T cal mkc b ρ2) (c := ⟨Q⟩)⟩)⟩)⟩) := v_ife
theorem w_quiet {α : Type} {m : Res α} {Q : α → Ro → Prop} : Wp (quiet m) (c := ⟨Q⟩) ↔ Wp m (c := ⟨Q⟩) := v_quiet
theorem w_tri {a : List Sx} {cs : List String} {n : Option Nat} {b : List Sx} : Wp (evS T cal mkc (.tri a cs n b) ρ) (c := ⟨Q⟩) ↔ Wp (evSs T cal mkc a ρ) (c := ⟨Q⟩) := v_tri
end
section
variable {T : Tab} {cal mkc : Cal} {ρ : Ro} {Q : Slot → Ro → Prop}
theorem w_lcF {c : Option Ex} {e : Ex} {Q : Option Val → Ro → Prop} : Wp (lcF T cal mkc c e ρ) (c := ⟨Q⟩) ↔ Wp (evC T cal mkc c ρ) (c := ⟨fun b ρ' => IfW b (c := ⟨Wp (evE T cal mkc e ρ') (c := ⟨fun r ρ2 => Wp (fixv r ρ2) (c := ⟨fun v ρ3 => Q (some v) ρ3⟩)⟩), Q none ρ'⟩)⟩) := v_lcF
end
theorem w_subp {T : Tab} {cal mkc : Cal} {ρ : Ro} {Q : Fl → Ro → Prop} {i j : Nat} {k e : Ex} : Wp (evS T cal mkc (.subp i k j e) ρ) (c := ⟨Q⟩) ↔ Wp (evE T cal mkc e ρ) (c := ⟨fun r ρ1 => Op (asTwo r) (c := ⟨fun xy => (ownAt i ρ1).isSome = true ∧ Wp (opnd k (evE T cal mkc k) ρ1) (c := ⟨fun z ρ2 => Op (ownAt i ρ2) (c := ⟨fun u => Op (z.val ρ2) (c := ⟨fun w => Op (setF u w xy.1) (c := ⟨fun v => (j < ρ2.length ∧ i ≠ j) ∧ Q .nx ((ρ2.set i (.ow v)).set j (.fz xy.2))⟩)⟩)⟩)⟩)⟩)⟩) := v_subp
theorem w_forU {T : Tab} {cal mkc : Cal} {ρ : Ro} {Q : Fl → Ro → Prop} {t : Tg} {it : Iter} {a : List Sx} : Wp (evS T cal mkc (.for_ t it a) ρ) (c := ⟨Q⟩) ↔ Wp (evIt T cal mkc it ρ) (c := ⟨fun xs ρ1 => xs.length ≤ cap ∧ Wp (forF (evSs T cal mkc a) t xs ρ1) (c := ⟨Q⟩)⟩) := v_forU
theorem w_fN {body : Ro → Res Fl} {t : Tg} {ρ : Ro} {Q : Fl → Ro → Prop} : Wp (forF body t [] ρ) (c := ⟨Q⟩) ↔ Q .nx ρ := v_fN
theorem w_fC {body : Ro → Res Fl} {t : Tg} {ρ : Ro} {Q : Fl → Ro → Prop} {x : Val} {xs : List Val} : Wp (forF body t (x :: xs) ρ) (c := ⟨Q⟩) ↔ Op (assn t (.fz x) ρ) (c := ⟨fun ρ1 => Wp (body ρ1) (c := ⟨fun f ρ2 => Nxt f ρ2 (fun ρ3 => Wp (forF body t xs ρ3) (c := ⟨Q⟩)) Q⟩)⟩) := v_fC
theorem w_setf {T : Tab} {cal mkc : Cal} {ρ : Ro} {Q : Fl → Ro → Prop} {i : Nat} {f : String} {e : Ex} : Wp (evS T cal mkc (.setf i f e) ρ) (c := ⟨Q⟩) ↔ Wp (evE T cal mkc e ρ) (c := ⟨fun r ρ1 => Wp (fixv r ρ1) (c := ⟨fun x ρ2 => Op (ownAt i ρ2) (c := ⟨fun u => Op (setfT T f x u) (c := ⟨fun v => Q .nx (ρ2.set i (.ow v))⟩)⟩)⟩)⟩) := v_setf
theorem w_hd {T : Tab} {cal mkc : Cal} {ρ : Ro} {Q : Fl → Ro → Prop} {i j : Nat} {e : Ex} : Wp (evS T cal mkc (.hd i j e) ρ) (c := ⟨Q⟩) ↔ Wp (evE T cal mkc e ρ) (c := ⟨fun r ρ1 => Wp (fixv r ρ1) (c := ⟨fun v ρ2 => Op (asHd v) (c := ⟨fun p => (i < ρ2.length ∧ j < ρ2.length ∧ i ≠ j) ∧ Q .nx ((ρ2.set i (.fz p.1)).set j (.ow (.lst p.2)))⟩)⟩)⟩) := v_hd
theorem w_lcU {T : Tab} {cal mkc : Cal} {ρ : Ro} {Q : Slot → Ro → Prop} {ns : List Nat} {t : Tg} {it : Iter} {c : Option Ex} {e : Ex} : Wp (evE T cal mkc (.lc ns t it c e) ρ) (c := ⟨Q⟩) ↔ Wp (evIt T cal mkc it ρ) (c := ⟨fun xs ρ1 => (xs.length ≤ cap ∧ clean ns ρ1 = true) ∧ Wp (lcLoop (lcF T cal mkc c e) t ns xs (wipeR ρ1 ns)) (c := ⟨fun ys ρ2 => Q (.ow (.lst ys)) (unwipe ns ρ1 ρ2)⟩)⟩) := v_lcU
theorem w_lN {f : Ro → Res (Option Val)} {t : Tg} {ns : List Nat} {ρ : Ro} {Q : List Val → Ro → Prop} : Wp (lcLoop f t ns [] ρ) (c := ⟨Q⟩) ↔ Q [] ρ := v_lN
theorem w_lC {f : Ro → Res (Option Val)} {t : Tg} {ns : List Nat} {ρ : Ro} {Q : List Val → Ro → Prop} {x : Val} {xs : List Val} : Wp (lcLoop f t ns (x :: xs) ρ) (c := ⟨Q⟩) ↔ Op (assn t (.fz x) ρ) (c := ⟨fun ρ1 => Wp (f ρ1) (c := ⟨fun y ρ2 => Wp (lcLoop f t ns xs (wipeR ρ2 ns)) (c := ⟨fun ys ρ3 => Q (y.toList ++ ys) ρ3⟩)⟩)⟩) := v_lC
theorem w_lc2U {T : Tab} {cal mkc : Cal} {ρ : Ro} {Q : Slot → Ro → Prop} {ns ns1 : List Nat} {t t1 : Tg} {it it1 : Iter} {e : Ex} : Wp (evE T cal mkc (.lc2 ns t it ns1 t1 it1 e) ρ) (c := ⟨Q⟩) ↔ Wp (evIt T cal mkc it ρ) (c := ⟨fun xs ρ1 => (clean ns ρ1 = true ∧ ns1.all (fun i => ns.contains i) = true) ∧ Wp (lc2Loop (lc2F T cal mkc ns1 t1 it1 e) t ns xs (wipeR ρ1 ns)) (c := ⟨fun ys ρ2 => ys.length ≤ cap ∧ Q (.ow (.lst ys)) (unwipe ns ρ1 ρ2)⟩)⟩) := v_lc2U
theorem w_l2F {T : Tab} {cal mkc : Cal} {ρ : Ro} {Q : List Val → Ro → Prop} {ns1 : List Nat} {t1 : Tg} {it1 : Iter} {e : Ex} : Wp (lc2F T cal mkc ns1 t1 it1 e ρ) (c := ⟨Q⟩) ↔ Wp (evIt T cal mkc it1 ρ) (c := ⟨fun ys ρ2 => Wp (lcLoop (lcF T cal mkc none e) t1 ns1 ys (wipeR ρ2 ns1)) (c := ⟨Q⟩)⟩) := v_l2F
theorem w_l2N {f : Ro → Res (List Val)} {t : Tg} {ns : List Nat} {ρ : Ro} {Q : List Val → Ro → Prop} : Wp (lc2Loop f t ns [] ρ) (c := ⟨Q⟩) ↔ Q [] ρ := v_l2N
theorem w_l2C {f : Ro → Res (List Val)} {t : Tg} {ns : List Nat} {ρ : Ro} {Q : List Val → Ro → Prop} {x : Val} {xs : List Val} : Wp (lc2Loop f t ns (x :: xs) ρ) (c := ⟨Q⟩) ↔ Op (assn t (.fz x) ρ) (c := ⟨fun ρ1 => Wp (f ρ1) (c := ⟨fun ys ρ2 => Wp (lc2Loop f t ns xs (wipeR ρ2 ns)) (c := ⟨fun zs ρ3 => Q (ys ++ zs) ρ3⟩)⟩)⟩) := v_l2C
theorem w_dcF {T : Tab} {cal mkc : Cal} {ρ : Ro} {k e : Ex} {Q : Val × Val → Ro → Prop} : Wp (dcF T cal mkc k e ρ) (c := ⟨Q⟩) ↔ Wp (evE T cal mkc k ρ) (c := ⟨fun r ρ2 => Wp (fixv r ρ2) (c := ⟨fun a ρ3 => Wp (evE T cal mkc e ρ3) (c := ⟨fun q ρ4 => Wp (fixv q ρ4) (c := ⟨fun v ρ5 => Q (a, v) ρ5⟩)⟩)⟩)⟩) := v_dcF
theorem w_dcU {T : Tab} {cal mkc : Cal} {ρ : Ro} {Q : Slot → Ro → Prop} {ns : List Nat} {t : Tg} {it : Iter} {k e : Ex} : Wp (evE T cal mkc (.dc ns t it k e) ρ) (c := ⟨Q⟩) ↔ Wp (evIt T cal mkc it ρ) (c := ⟨fun xs ρ1 => (xs.length ≤ cap ∧ clean ns ρ1 = true) ∧ Wp (dcLoop (dcF T cal mkc k e) t ns xs (wipeR ρ1 ns) []) (c := ⟨fun ys ρ2 => Q (.ow (.dct ys)) (unwipe ns ρ1 ρ2)⟩)⟩) := v_dcU
theorem w_dN {f : Ro → Res (Val × Val)} {t : Tg} {ns : List Nat} {ρ : Ro} {acc : List (Val × Val)} {Q : List (Val × Val) → Ro → Prop} : Wp (dcLoop f t ns [] ρ acc) (c := ⟨Q⟩) ↔ Q acc ρ := v_dN
theorem w_dC {f : Ro → Res (Val × Val)} {t : Tg} {ns : List Nat} {ρ : Ro} {acc : List (Val × Val)} {Q : List (Val × Val) → Ro → Prop} {x : Val} {xs : List Val} : Wp (dcLoop f t ns (x :: xs) ρ acc) (c := ⟨Q⟩) ↔ Op (assn t (.fz x) ρ) (c := ⟨fun ρ1 => Wp (f ρ1) (c := ⟨fun y ρ2 => (dkey y.1 && fits acc y.1) = true ∧ Wp (dcLoop f t ns xs (wipeR ρ2 ns) (put acc y.1 y.2)) (c := ⟨Q⟩)⟩)⟩) := v_dC
theorem w_lcL {β : Type} (m : β → Val) (as : List β) (g : β → Option Val) {f : Ro → Res (Option Val)} {t : Tg} {ns : List Nat} {ρ : Ro} {Q : List Val → Ro → Prop} (hb : ∀ a ∈ as, Op (assn t (.fz (m a)) ρ) (c := ⟨fun ρ2 => Wp (f ρ2) (c := ⟨fun y ρ3 => y = g a ∧ wipeR ρ3 ns = ρ⟩)⟩)) (hq : Q (as.filterMap g) ρ) : Wp (lcLoop f t ns (as.map m) ρ) (c := ⟨Q⟩) := v_lcL m as g hb hq
theorem w_forL {β : Type} (m : β → Val) (as : List β) (I : List β → Ro → Prop) {body : Ro → Res Fl} {t : Tg} {ρ : Ro} {Q : Fl → Ro → Prop} (h0 : I [] ρ)
    (hs : ∀ pre a suf, as = pre ++ a :: suf → ∀ ρ1, I pre ρ1 → Op (assn t (.fz (m a)) ρ1) (c := ⟨fun ρ2 => Wp (body ρ2) (c := ⟨fun f ρ3 => Nxt f ρ3 (I (pre ++ [a])) Q⟩)⟩)) (he : ∀ ρ1, I as ρ1 → Q .nx ρ1) : Wp (forF body t (as.map m) ρ) (c := ⟨Q⟩) := v_forL m as I h0 hs he
theorem q_of {T : Tab} {k : Nat} {f : String} {d : Def} {args fin : List Slot} {r : Slot} (hd : T.fn f = some d) (hx : T.ext f = none) (h : (args.length == d.ps.length && decide (d.ps.length ≤ d.n) && sameKind args d.io) = true) (hk : keptIo args fin = true)
    (hw : Wp (evSs T (evF T k) (ev2 T k).2 d.body (args ++ List.replicate (d.n - d.ps.length) .un)) (c := ⟨fun f ρ => Nxt f ρ (fun ρ => r = .fz .non ∧ ρ.take d.ps.length = fin) fun f ρ => f = .rt r ∧ ρ.take d.ps.length = fin⟩)) : evF T (k + 1) f args = some (.ok r fin) := qv_of hd hx h hk hw
theorem q_ofP {T : Tab} {k : Nat} {f : String} {d : Def} {args : List Slot} {P : Slot → List Slot → Prop} (hd : T.fn f = some d) (hx : T.ext f = none) (h : (args.length == d.ps.length && decide (d.ps.length ≤ d.n) && sameKind args d.io) = true)
    (hw : Wp (evSs T (evF T k) (ev2 T k).2 d.body (args ++ List.replicate (d.n - d.ps.length) .un)) (c := ⟨fun f ρ => keptIo args (ρ.take d.ps.length) = true ∧ Nxt f ρ (fun ρ => P (.fz .non) (ρ.take d.ps.length)) fun f ρ => ∃ r, f = .rt r ∧ P r (ρ.take d.ps.length)⟩)) : Wp (evF T (k + 1) f args) (c := ⟨P⟩) := qv_ofP hd hx h hw
theorem nx_nx {ρ : Ro} {r : Ro → Prop} {Q : Fl → Ro → Prop} : Nxt .nx ρ r Q ↔ r ρ := Iff.rfl
theorem nx_rt {ρ : Ro} {q : Slot} {r : Ro → Prop} {Q : Fl → Ro → Prop} : Nxt (.rt q) ρ r Q ↔ Q (.rt q) ρ := Iff.rfl
theorem isS_v {a0} : isStar (@Ex.v a0) = false := rfl
theorem isV_g {a0} : isV (@Ex.g a0) = false := rfl
theorem isS_g {a0} : isStar (@Ex.g a0) = false := rfl
theorem isV_non : isV (Ex.non) = false := rfl
theorem isS_non : isStar (Ex.non) = false := rfl
theorem isV_bl {a0} : isV (@Ex.bl a0) = false := rfl
theorem isS_bl {a0} : isStar (@Ex.bl a0) = false := rfl
theorem isV_int {a0} : isV (@Ex.int a0) = false := rfl
theorem isS_int {a0} : isStar (@Ex.int a0) = false := rfl
theorem isV_str {a0} : isV (@Ex.str a0) = false := rfl
theorem isS_str {a0} : isStar (@Ex.str a0) = false := rfl
theorem isV_tup {a0} : isV (@Ex.tup a0) = false := rfl
theorem isS_tup {a0} : isStar (@Ex.tup a0) = false := rfl
theorem isV_lst {a0} : isV (@Ex.lst a0) = false := rfl
theorem isS_lst {a0} : isStar (@Ex.lst a0) = false := rfl
theorem isV_star {a0} : isV (@Ex.star a0) = false := rfl
theorem isV_bin {a0} {a1} {a2} : isV (@Ex.bin a0 a1 a2) = false := rfl
theorem isS_bin {a0} {a1} {a2} : isStar (@Ex.bin a0 a1 a2) = false := rfl
theorem isV_neg {a0} : isV (@Ex.neg a0) = false := rfl
theorem isS_neg {a0} : isStar (@Ex.neg a0) = false := rfl
theorem isV_nt {a0} : isV (@Ex.nt a0) = false := rfl
theorem isS_nt {a0} : isStar (@Ex.nt a0) = false := rfl
theorem isV_and {a0} {a1} : isV (@Ex.and a0 a1) = false := rfl
theorem isS_and {a0} {a1} : isStar (@Ex.and a0 a1) = false := rfl
theorem isV_or {a0} {a1} : isV (@Ex.or a0 a1) = false := rfl
theorem isS_or {a0} {a1} : isStar (@Ex.or a0 a1) = false := rfl
theorem isV_cmp {a0} {a1} {a2} : isV (@Ex.cmp a0 a1 a2) = false := rfl
theorem isS_cmp {a0} {a1} {a2} : isStar (@Ex.cmp a0 a1 a2) = false := rfl
theorem isV_chain {a0} {a1} {a2} {a3} {a4} : isV (@Ex.chain a0 a1 a2 a3 a4) = false := rfl
theorem isS_chain {a0} {a1} {a2} {a3} {a4} : isStar (@Ex.chain a0 a1 a2 a3 a4) = false := rfl
theorem isV_ite {a0} {a1} {a2} : isV (@Ex.ite a0 a1 a2) = false := rfl
theorem isS_ite {a0} {a1} {a2} : isStar (@Ex.ite a0 a1 a2) = false := rfl
theorem isV_idx {a0} {a1} : isV (@Ex.idx a0 a1) = false := rfl
theorem isS_idx {a0} {a1} : isStar (@Ex.idx a0 a1) = false := rfl
theorem isV_slc {a0} {a1} {a2} : isV (@Ex.slc a0 a1 a2) = false := rfl
theorem isS_slc {a0} {a1} {a2} : isStar (@Ex.slc a0 a1 a2) = false := rfl
theorem isV_fld {a0} {a1} : isV (@Ex.fld a0 a1) = false := rfl
theorem isS_fld {a0} {a1} : isStar (@Ex.fld a0 a1) = false := rfl
theorem isV_prp {a0} {a1} {a2} {a3} : isV (@Ex.prp a0 a1 a2 a3) = false := rfl
theorem isS_prp {a0} {a1} {a2} {a3} : isStar (@Ex.prp a0 a1 a2 a3) = false := rfl
theorem isV_call {a0} {a1} {a2} : isV (@Ex.call a0 a1 a2) = false := rfl
theorem isS_call {a0} {a1} {a2} : isStar (@Ex.call a0 a1 a2) = false := rfl
theorem isV_mk {a0} {a1} {a2} : isV (@Ex.mk a0 a1 a2) = false := rfl
theorem isS_mk {a0} {a1} {a2} : isStar (@Ex.mk a0 a1 a2) = false := rfl
theorem isV_mth {a0} {a1} {a2} {a3} {a4} : isV (@Ex.mth a0 a1 a2 a3 a4) = false := rfl
theorem isS_mth {a0} {a1} {a2} {a3} {a4} : isStar (@Ex.mth a0 a1 a2 a3 a4) = false := rfl
theorem isV_isi {a0} {a1} : isV (@Ex.isi a0 a1) = false := rfl
theorem isS_isi {a0} {a1} : isStar (@Ex.isi a0 a1) = false := rfl
theorem isV_blt {a0} {a1} : isV (@Ex.blt a0 a1) = false := rfl
theorem isS_blt {a0} {a1} : isStar (@Ex.blt a0 a1) = false := rfl
theorem isV_bmt {a0} {a1} {a2} : isV (@Ex.bmt a0 a1 a2) = false := rfl
theorem isS_bmt {a0} {a1} {a2} : isStar (@Ex.bmt a0 a1 a2) = false := rfl
theorem isV_lrg {a0} : isV (@Ex.lrg a0) = false := rfl
theorem isS_lrg {a0} : isStar (@Ex.lrg a0) = false := rfl
theorem isV_lc {a0} {a1} {a2} {a3} {a4} : isV (@Ex.lc a0 a1 a2 a3 a4) = false := rfl
theorem isS_lc {a0} {a1} {a2} {a3} {a4} : isStar (@Ex.lc a0 a1 a2 a3 a4) = false := rfl
theorem isV_dc {a0} {a1} {a2} {a3} {a4} : isV (@Ex.dc a0 a1 a2 a3 a4) = false := rfl
theorem isS_dc {a0} {a1} {a2} {a3} {a4} : isStar (@Ex.dc a0 a1 a2 a3 a4) = false := rfl
theorem isV_dct {a0} {a1} : isV (@Ex.dct a0 a1) = false := rfl
theorem isS_dct {a0} {a1} : isStar (@Ex.dct a0 a1) = false := rfl
theorem isV_ln {a0} {a1} {a2} : isV (@Ex.ln a0 a1 a2) = false := rfl
theorem isS_ln {a0} {a1} {a2} : isStar (@Ex.ln a0 a1 a2) = false := rfl
theorem isV_tzp {a0} {a1} : isV (@Ex.tzp a0 a1) = false := rfl
theorem isS_tzp {a0} {a1} : isStar (@Ex.tzp a0 a1) = false := rfl
theorem isV_rev {a0} : isV (@Ex.rev a0) = false := rfl
theorem isS_rev {a0} : isStar (@Ex.rev a0) = false := rfl
theorem isV_dct2 {a0} {a1} {a2} {a3} : isV (@Ex.dct2 a0 a1 a2 a3) = false := rfl
theorem isS_dct2 {a0} {a1} {a2} {a3} : isStar (@Ex.dct2 a0 a1 a2 a3) = false := rfl
theorem isV_lzp {a0} {a1} : isV (@Ex.lzp a0 a1) = false := rfl
theorem isS_lzp {a0} {a1} : isStar (@Ex.lzp a0 a1) = false := rfl
theorem isV_dcl {a0} : isV (@Ex.dcl a0) = false := rfl
theorem isS_dcl {a0} : isStar (@Ex.dcl a0) = false := rfl
theorem isV_cm {a0} {a1} {a2} {a3} : isV (@Ex.cm a0 a1 a2 a3) = false := rfl
theorem isS_cm {a0} {a1} {a2} {a3} : isStar (@Ex.cm a0 a1 a2 a3) = false := rfl
theorem isV_mkv {a0} {a1} {a2} : isV (@Ex.mkv a0 a1 a2) = false := rfl
theorem isS_mkv {a0} {a1} {a2} : isStar (@Ex.mkv a0 a1 a2) = false := rfl
theorem isV_sp {a0} {a1} {a2} {a3} {a4} : isV (@Ex.sp a0 a1 a2 a3 a4) = false := rfl
theorem isS_sp {a0} {a1} {a2} {a3} {a4} : isStar (@Ex.sp a0 a1 a2 a3 a4) = false := rfl
theorem isV_lc2 {a0} {a1} {a2} {a3} {a4} {a5} {a6} : isV (@Ex.lc2 a0 a1 a2 a3 a4 a5 a6) = false := rfl
theorem isS_lc2 {a0} {a1} {a2} {a3} {a4} {a5} {a6} : isStar (@Ex.lc2 a0 a1 a2 a3 a4 a5 a6) = false := rfl
theorem isV_prim {a0} {a1} : isV (@Ex.prim a0 a1) = false := rfl
theorem isS_prim {a0} {a1} : isStar (@Ex.prim a0 a1) = false := rfl
theorem isV_pg {a0} {a1} {a2} {a3} : isV (@Ex.pg a0 a1 a2 a3) = false := rfl
theorem isS_pg {a0} {a1} {a2} {a3} : isStar (@Ex.pg a0 a1 a2 a3) = false := rfl
theorem isV_thk {a0} {a1} : isV (@Ex.thk a0 a1) = false := rfl
theorem isS_thk {a0} {a1} : isStar (@Ex.thk a0 a1) = false := rfl
theorem isV_bor {a0} : isV (@Ex.bor a0) = false := rfl
theorem isS_bor {a0} : isStar (@Ex.bor a0) = false := rfl
theorem b_add {a b : Int} : binF .add (.int a) (.int b) = some (.fz (.int (a + b))) := rfl
theorem b_sub {a b : Int} : binF .sub (.int a) (.int b) = some (.fz (.int (a - b))) := rfl
theorem c_le {a b : Int} : cmpF .le (.int a) (.int b) = some (decide (a ≤ b)) := rfl
theorem c_lt {a b : Int} : cmpF .lt (.int a) (.int b) = some (decide (a < b)) := rfl
theorem c_ge {a b : Int} : cmpF .ge (.int a) (.int b) = some (decide (b ≤ a)) := rfl
theorem c_gt {a b : Int} : cmpF .gt (.int a) (.int b) = some (decide (b < a)) := rfl
theorem c_eq {a b : Val} : cmpF .eq a b = eqF a b := by cases a <;> cases b <;> rfl
theorem c_ne {a b : Val} : cmpF .ne a b = (eqF a b).map (!·) := by cases a <;> cases b <;> rfl
theorem c_in {a b : Val} : cmpF .isin a b = inF a b := by cases a <;> cases b <;> rfl
theorem c_ni {a b : Val} : cmpF .notin a b = (inF a b).map (!·) := by cases a <;> cases b <;> rfl
theorem eq_ii {a b : Int} : eqF (.int a) (.int b) = some (decide (a = b)) := by
  have : eqF (.int a) (.int b) = some (eqv (.int a) (.int b)) := if_pos rfl
  rw [this]
  by_cases h : a = b
  · subst h; simp [eqv]
  · simp [eqv, h]
theorem eq_ss {a b : List Nat} : eqF (.str a) (.str b) = some (decide (a = b)) := by
  have : eqF (.str a) (.str b) = some (eqv (.str a) (.str b)) := if_pos rfl
  rw [this]
  by_cases h : a = b
  · subst h; simp [eqv]
  · simp [eqv, h]
theorem eq_bb {a b : Bool} : eqF (.bl a) (.bl b) = some (a == b) := by cases a <;> cases b <;> rfl
theorem l_lst {xs : List Val} : bltF .len [.lst xs] = some (.fz (.int (xs.length : Nat))) := rfl
theorem l_tup {xs : List Val} : bltF .len [.tup xs] = some (.fz (.int (xs.length : Nat))) := rfl
theorem l_dct {xs : List (Val × Val)} : bltF .len [.dct xs] = some (.fz (.int (xs.length : Nat))) := rfl
theorem rv_tup {xs : List Val} : revF (.tup xs) = some (.fz (.tup xs.reverse)) := rfl
theorem rv_lst {xs : List Val} : revF (.lst xs) = some (.ow (.lst xs.reverse)) := rfl
theorem dk_int {i : Int} : dkey (.int i) = true := rfl
theorem dk_str {l : List Nat} : dkey (.str l) = true := rfl
theorem ko_int {i : Int} : keyOk (.int i) = true := rfl
theorem ko_str {l : List Nat} : keyOk (.str l) = true := rfl
theorem l_scr {xs : List Int} : bltF .len [.scr xs] = some (.fz (.int (xs.length : Nat))) := rfl
theorem t_lst {xs : List Val} : bltF .tuple [.lst xs] = some (.fz (.tup xs)) := rfl
theorem t_tup {xs : List Val} : bltF .tuple [.tup xs] = some (.fz (.tup xs)) := rfl
theorem k_lst {xs : List Val} : bltF .list [.lst xs] = some (.ow (.lst xs)) := rfl
theorem k_tup {xs : List Val} : bltF .list [.tup xs] = some (.ow (.lst xs)) := rfl
theorem i_int {i : Int} : bltF .int [.int i] = some (.fz (.int i)) := rfl
theorem i_bl {b : Bool} : bltF .int [.bl b] = some (.fz (.int (if b then 1 else 0))) := rfl
theorem x_max {i j : Int} : bltF .max [.int i, .int j] = some (.fz (.int (if j > i then j else i))) := rfl
theorem x_min {i j : Int} : bltF .min [.int i, .int j] = some (.fz (.int (if j < i then j else i))) := rfl
theorem m_lst {xs : List Val} : itemsF (.lst xs) = some xs := rfl
theorem m_tup {xs : List Val} : itemsF (.tup xs) = some xs := rfl
theorem m_str {l : List Nat} : itemsF (.str l) = some (l.map fun c => .str [c]) := rfl
theorem q_tup {xs : List Val} : seqOf (.tup xs) = some xs := rfl
theorem q_str {l : List Nat} : seqOf (.str l) = some (l.map fun c => .str [c]) := rfl
theorem ai_int {i : Int} : asInt (.fz (.int i)) = some i := rfl
theorem as_lst {xs : List Val} : asSeq (.lst xs) = some xs := rfl
theorem as_tup {xs : List Val} : asSeq (.tup xs) = some xs := rfl
theorem as_tpl {xs : List Val} : asTp (.tup xs) = some xs := rfl
theorem as_two {x y : Val} : asTwo (.fz (.tup [x, y])) = some (x, y) := rfl
theorem au_int {i : Int} : augS (.fz (.int i)) = some (.fz (.int i)) := rfl
theorem au_str {l : List Nat} : augS (.fz (.str l)) = some (.fz (.str l)) := rfl
theorem an_obj {c : String} {fs : List (String × Val)} {r : List Slot} : asNew (.fz .non) (.ow (.obj c fs) :: r) = some (.obj c fs) := rfl
theorem bw_f {v : Val} : bw (.fz v) = .fz v := rfl
theorem bw_l {xs : List Val} : bw (.ow (.lst xs)) = .fz (.lst xs) := rfl
theorem bw_u : bw .un = .un := rfl
theorem sm_b {b : Bool} : smp (.fz (.bl b)) = true := rfl
theorem sm_i {i : Int} : smp (.fz (.int i)) = true := rfl
theorem sm_s {l : List Nat} : smp (.fz (.str l)) = true := rfl
theorem d_tm {v : Val} {ρ : Ro} : Opd.val (.tm v) ρ = some v := rfl
theorem ar_n {ρ : Ro} : argsOf ρ [] = some [] := rfl
theorem ar_v {ρ : Ro} {v : Val} {r : List Arg} {P : List Slot → Prop} : Op (argsOf ρ (.va v :: r)) (c := ⟨P⟩) ↔ Op (argsOf ρ r) (c := ⟨fun s => P (.fz v :: s)⟩) := by
  show Up _ _ ↔ Up _ _
  simp only [argsOf, Arg.slot, Option.bind_some, u_map]
theorem ar_w {ρ : Ro} {v : Val} {r : List Arg} {P : List Slot → Prop} : Op (argsOf ρ (.nw v :: r)) (c := ⟨P⟩) ↔ Op (argsOf ρ r) (c := ⟨fun s => P (.ow v :: s)⟩) := by
  show Up _ _ ↔ Up _ _
  simp only [argsOf, Arg.slot, Option.bind_some, u_map]
theorem ar_i {ρ : Ro} {i : Nat} {r : List Arg} {P : List Slot → Prop} : Op (argsOf ρ (.io i :: r)) (c := ⟨P⟩) ↔ Op (Arg.slot ρ (.io i)) (c := ⟨fun a => Op (argsOf ρ r) (c := ⟨fun s => P (a :: s)⟩)⟩) := by
  show Up _ _ ↔ Up _ fun a => Up _ _
  simp only [argsOf, u_bind, u_map]
theorem nd_n : ioNd [] = true := rfl
theorem nd_v {v : Val} {r : List Arg} : ioNd (.va v :: r) = ioNd r := rfl
theorem nd_i {i : Nat} {r : List Arg} : ioNd (.io i :: r) = (!(r.any (Arg.isAt i)) && ioNd r) := rfl
theorem nd_w {v : Val} {r : List Arg} : ioNd (.nw v :: r) = (!(r.any Arg.isN) && ioNd r) := rfl
theorem at_v {i : Nat} {v : Val} : Arg.isAt i (.va v) = false := rfl
theorem at_w {i : Nat} {v : Val} : Arg.isAt i (.nw v) = false := rfl
theorem at_i {i j : Nat} : Arg.isAt i (.io j) = (i == j) := rfl
theorem n_v {v : Val} : Arg.isN (.va v) = false := rfl
theorem n_w {v : Val} : Arg.isN (.nw v) = true := rfl
theorem n_i {i : Nat} : Arg.isN (.io i) = false := rfl
theorem pb_n {ρ : Ro} {s : List Slot} : putBack [] s ρ = some ρ := rfl
theorem pb_v {ρ : Ro} {v : Val} {x : Slot} {r : List Arg} {s : List Slot} : putBack (.va v :: r) (x :: s) ρ = putBack r s ρ := rfl
theorem pb_w {ρ : Ro} {v : Val} {x : Slot} {r : List Arg} {s : List Slot} : putBack (.nw v :: r) (x :: s) ρ = putBack r s ρ := rfl
theorem pb_i {ρ : Ro} {i : Nat} {v : Val} {r : List Arg} {s : List Slot} {P : Ro → Prop} : Op (putBack (.io i :: r) (.ow v :: s) ρ) (c := ⟨P⟩) ↔ Op (putBack r s ρ) (c := ⟨fun ρ' => P (ρ'.set i (.ow v))⟩) := by
  show Up _ _ ↔ Up _ _
  simp only [putBack, u_map]
theorem tg_1 {ts : List Tg} {xs : List Val} {ρ : Ro} : assn (.tp ts) (.fz (.tup xs)) ρ = if xs.length = ts.length then assns ts xs ρ else none := by rw [assn]
theorem tg_n {xs : List Val} {ρ : Ro} : assns [] xs ρ = some ρ := by rw [assns]
theorem tg_c {t : Tg} {ts : List Tg} {x : Val} {xs : List Val} {ρ : Ro} {P : Ro → Prop} : Op (assns (t :: ts) (x :: xs) ρ) (c := ⟨P⟩) ↔ Op (assn t (.fz x) ρ) (c := ⟨fun ρ1 => Op (assns ts xs ρ1) (c := ⟨P⟩)⟩) := by
  show Up _ _ ↔ Up _ fun a => Up _ _
  simp only [assns, u_bind]
theorem sk_n {u : Val} : setKs [] [] u = some u := rfl
theorem sk_c {k : String} {ks : List String} {x u : Val} {xs : List Val} {P : Val → Prop} : Op (setKs (k :: ks) (x :: xs) u) (c := ⟨P⟩) ↔ Op (setF u (.str (asStr k)) x) (c := ⟨fun w => Op (setKs ks xs w) (c := ⟨P⟩)⟩) := by
  show Up _ _ ↔ Up _ fun a => Up _ _
  simp only [setKs, u_bind]
theorem sa_n {ρ : Ro} : setAll [] [] ρ = some ρ := rfl
theorem sa_c {i : Nat} {is : List Nat} {x : Slot} {rs : List Slot} {ρ : Ro} {P : Ro → Prop} : Op (setAll (i :: is) (x :: rs) ρ) (c := ⟨P⟩) ↔ Op (assn (.nm i) x ρ) (c := ⟨fun ρ1 => Op (setAll is rs ρ1) (c := ⟨P⟩)⟩) := by
  show Up _ _ ↔ Up _ fun a => Up _ _
  simp only [setAll, assn, u_guard, u_some]
theorem wi_n {ρ : Ro} : wipeR ρ [] = ρ := rfl
theorem wi_c {ρ : Ro} {i : Nat} {is : List Nat} : wipeR ρ (i :: is) = (wipeR ρ is).set i .un := rfl
theorem uw_n {ρ ρ' : Ro} : unwipe [] ρ ρ' = ρ' := rfl
theorem uw_c {ρ ρ' : Ro} {i : Nat} {is : List Nat} : unwipe (i :: is) ρ ρ' = (unwipe is ρ ρ').set i ((ρ[i]?).getD .un) := rfl
theorem cl_n {ρ : Ro} : clean [] ρ = true := rfl
def cleanS : Option Slot → Bool
  | some (.ow _) => false
  | some _ => true
  | none => false
theorem cl_c {ρ : Ro} {i : Nat} {is : List Nat} : clean (i :: is) ρ = (cleanS ρ[i]? && clean is ρ) := by
  unfold clean
  rw [List.all_cons]
  congr 1
theorem cs_f {v : Val} : cleanS (some (.fz v)) = true := rfl
theorem cs_u : cleanS (some .un) = true := rfl
theorem ca_0 : (0 ≤ cap) = True := by simp [cap]
theorem ca_1 : (1 ≤ cap) = True := by simp [cap]
theorem ca_2 : (2 ≤ cap) = True := by simp [cap]
theorem ca_3 : (3 ≤ cap) = True := by simp [cap]
theorem ca_4 : (4 ≤ cap) = True := by simp [cap]
theorem ca_5 : (5 ≤ cap) = True := by simp [cap]
theorem ca_6 : (6 ≤ cap) = True := by simp [cap]
theorem ca_7 : (7 ≤ cap) = True := by simp [cap]
theorem ca_8 : (8 ≤ cap) = True := by simp [cap]
theorem mK_a {xs : List Val} : mutK .append (.lst xs) = true := rfl
theorem mK_i {xs : List Val} : mutK .insert (.lst xs) = true := rfl
theorem mK_e {xs : List Val} : mutK .extend (.lst xs) = true := rfl
theorem mK_u {xs : List (Val × Val)} : mutK .update (.dct xs) = true := rfl
theorem mK_s {xs : List (Val × Val)} : mutK .setdefault (.dct xs) = true := rfl
theorem mK_p {xs : List Val} : mutK .pop (.lst xs) = true := rfl
theorem mF_p {xs : List Val} {P : Val → Prop} : Op (mutF .pop (.lst xs) []) (c := ⟨P⟩) ↔ xs.isEmpty = false ∧ P (.lst xs.dropLast) := by
  show Up _ _ ↔ _
  simp only [mutF, u_guardN, u_some, Bool.not_eq_true]
theorem mF_a {xs : List Val} {y : Val} {P : Val → Prop} : Op (mutF .append (.lst xs) [y]) (c := ⟨P⟩) ↔ xs.length < cap ∧ P (.lst (xs ++ [y])) := by
  show Up _ _ ↔ _
  simp only [mutF, u_guard, u_some]
theorem mF_i {xs : List Val} {i : Int} {y : Val} {P : Val → Prop} : Op (mutF .insert (.lst xs) [.int i, y]) (c := ⟨P⟩) ↔ (0 ≤ i ∧ i ≤ xs.length ∧ xs.length < cap) ∧ P (.lst (xs.take i.toNat ++ y :: xs.drop i.toNat)) := by
  show Up _ _ ↔ _
  simp only [mutF, u_guard, u_some]
theorem mF_e {xs ys : List Val} {P : Val → Prop} : Op (mutF .extend (.lst xs) [.lst ys]) (c := ⟨P⟩) ↔ xs.length + ys.length < cap ∧ P (.lst (xs ++ ys)) := by
  show Up _ _ ↔ _
  simp only [mutF, u_guard, u_some]
theorem b_lst {xs ys : List Val} {P : Slot → Prop} : Op (binF .add (.lst xs) (.lst ys)) (c := ⟨P⟩) ↔ xs.length + ys.length ≤ cap ∧ P (.ow (.lst (xs ++ ys))) := by
  show Up _ _ ↔ _
  simp only [binF, u_guard, u_some]
theorem b_tup {xs ys : List Val} {P : Slot → Prop} : Op (binF .add (.tup xs) (.tup ys)) (c := ⟨P⟩) ↔ xs.length + ys.length ≤ cap ∧ P (.fz (.tup (xs ++ ys))) := by
  show Up _ _ ↔ _
  simp only [binF, u_guard, u_some]
theorem b_str {xs ys : List Nat} {P : Slot → Prop} : Op (binF .add (.str xs) (.str ys)) (c := ⟨P⟩) ↔ xs.length + ys.length ≤ cap ∧ P (.fz (.str (xs ++ ys))) := by
  show Up _ _ ↔ _
  simp only [binF, u_guard, u_some]
theorem bK_s {l : List Nat} : bmtK .sindex (.str l) = true := rfl
theorem bK_l {l : List Val} : bmtK .lindex (.lst l) = true := rfl
theorem bK_j {l : List Nat} : bmtK .join (.str l) = true := rfl
theorem bK_g {l : List (Val × Val)} : bmtK .get (.dct l) = true := rfl
theorem tz_tt {xs ys : List Val} {P : Slot → Prop} : Op (tzpF (.tup xs) (.tup ys)) (c := ⟨P⟩) ↔ min xs.length ys.length ≤ 1000 ∧ P (.fz (.tup (zipL xs ys))) := by
  show Up _ _ ↔ _
  simp only [tzpF, u_guard, u_some]
theorem lz_tt {xs ys : List Val} {P : Slot → Prop} : Op (lzpF (.tup xs) (.tup ys)) (c := ⟨P⟩) ↔ min xs.length ys.length ≤ 1000 ∧ P (.ow (.lst (zipL xs ys))) := by
  show Up _ _ ↔ _
  simp only [lzpF, u_guard, u_some]
theorem bK_x {l : List Nat} : bmtK .split (.str l) = true := rfl
theorem ic_t {c : String} {c' : String} : isCls c (some (.fz (.cls c'))) = (c' == c) := rfl
theorem hd_c {x : Val} {xs : List Val} : asHd (.lst (x :: xs)) = some (x, xs) := rfl
theorem s_str {l : List Nat} : bltF .str [.str l] = some (.fz (.str l)) := rfl
theorem sx_s {l : List Nat} {c : Nat} {P : Slot → Prop} : Op (bmtF (.str l) .split [.str [c]]) (c := ⟨P⟩) ↔ (l.length ≤ 100000 ∧ c < 128) ∧ P (.ow (.lst ((splS c l).map .str))) := by
  show Up _ _ ↔ _
  simp only [bmtF, u_guard, u_some]
theorem s_int {i : Int} {P : Slot → Prop} : Op (bltF .str [.int i]) (c := ⟨P⟩) ↔ i.natAbs < 1000 ∧ P (.fz (.str (intS i))) := by
  show Up _ _ ↔ _
  simp only [bltF, u_guard, u_some]
theorem bK_t {l : List (List Nat)} : bmtK .tindex (.wtp l) = true := rfl
def isNon : Val → Bool
  | .non => true
  | _ => false
theorem cF_is {a : Val} : cmpF .is a .non = some (isNon a) := by cases a <;> rfl
theorem cF_nt {a : Val} : cmpF .isnt a .non = some (!isNon a) := by cases a <;> rfl
theorem cB_is {a b : Bool} : cmpF .is (.bl a) (.bl b) = some (a == b) := rfl
theorem cB_nt {a b : Bool} : cmpF .isnt (.bl a) (.bl b) = some (a != b) := rfl
theorem nn_0 : isNon .non = true := rfl
theorem nn_t {xs : List Val} : isNon (.tup xs) = false := rfl
theorem nn_s {xs : List Nat} : isNon (.str xs) = false := rfl
theorem nn_i {i : Int} : isNon (.int i) = false := rfl
theorem nc_0 : ((0 : Nat) : Int) = 0 := rfl
theorem nc_1 : ((1 : Nat) : Int) = 1 := rfl
theorem nc_2 : ((2 : Nat) : Int) = 2 := rfl
theorem nc_3 : ((3 : Nat) : Int) = 3 := rfl
theorem nc_4 : ((4 : Nat) : Int) = 4 := rfl
theorem nc_5 : ((5 : Nat) : Int) = 5 := rfl
theorem nc_6 : ((6 : Nat) : Int) = 6 := rfl
theorem tl_s {v : Val} : (some v).toList = [v] := rfl
theorem tl_n : (none : Option Val).toList = [] := rfl
theorem x2_0 {a b : Val} : idxF (.tup [a, b]) (.int 0) = some a := rfl
theorem x2_1 {a b : Val} : idxF (.tup [a, b]) (.int 1) = some b := rfl
theorem x3_0 {a b c : Val} : idxF (.tup [a, b, c]) (.int 0) = some a := rfl
theorem x3_1 {a b c : Val} : idxF (.tup [a, b, c]) (.int 1) = some b := rfl
theorem x3_2 {a b c : Val} : idxF (.tup [a, b, c]) (.int 2) = some c := rfl
theorem y2_0 {a b : Val} : idxF (.lst [a, b]) (.int 0) = some a := rfl
theorem y2_1 {a b : Val} : idxF (.lst [a, b]) (.int 1) = some b := rfl
theorem y3_0 {a b c : Val} : idxF (.lst [a, b, c]) (.int 0) = some a := rfl
theorem y3_1 {a b c : Val} : idxF (.lst [a, b, c]) (.int 1) = some b := rfl
theorem y3_2 {a b c : Val} : idxF (.lst [a, b, c]) (.int 2) = some c := rfl
theorem md_2 {a : Int} : binF .mod (.int a) (.int 2) = some (.fz (.int (a % 2))) := rfl
theorem ml_2 {a : Int} : binF .mul (.int a) (.int 2) = some (.fz (.int (a * 2))) := by simp [binF, small]
theorem is_s {c : String → Bool} {l : List Nat} : isiV c (.str l) "str" = some true := rfl
theorem is_t {c : String → Bool} {l : List Val} : isiV c (.tup l) "tuple" = some true := rfl
theorem is_i {c : String → Bool} {i : Int} : isiV c (.int i) "int" = some true := rfl
theorem is_b {c : String → Bool} {i : Int} : isiV c (.int i) "bool" = some false := rfl
theorem aI {a b : Prop} (x : a) (y : b) : a ∧ b := ⟨x, y⟩
def WA := (aI (aI (aI (aI (aI (aI @w_bnd (aI @w_lift @w_v)) (aI (aI @w_g @w_non) (aI @w_bl @w_int))) (aI (aI (aI @w_str @w_tup) (aI @w_lst @w_bin)) (aI (aI @w_cmp @w_idx) (aI @w_chain @w_prim)))) (aI (aI (aI @w_bor (aI @w_neg @w_nt)) (aI (aI @w_and @w_or) (aI @w_ite @w_slc))) (aI (aI (aI @w_fld @w_prp) (aI @w_isi @w_blt1)) (aI (aI @w_blt2 @w_bmt) (aI @w_lrg @w_dct0))))) (aI (aI (aI (aI @w_dct1 (aI @w_dct2 @w_tzp)) (aI (aI @w_lzp @w_dcl) (aI @w_rev @w_fin))) (aI (aI (aI @w_kwEnd @w_spS) (aI @w_spE @w_spB)) (aI (aI @w_lenEnd @w_mkEnd) (aI @w_fixF @w_fixO)))) (aI (aI (aI @w_asBool (aI @w_opN @w_opS)) (aI (aI @w_cN @w_cS) (aI @w_esN @w_esS))) (aI (aI (aI @w_asN @w_asC) (aI @w_argV @w_argI)) (aI (aI @w_newArg @w_itS) (aI @w_itR @w_itR2)))))) (aI (aI (aI (aI (aI @w_itR3 (aI @w_itE @w_itZ)) (aI (aI @w_itI @w_sN) (aI @w_sC @w_pass))) (aI (aI (aI @w_expr @w_asg) (aI @w_asgT @w_slN)) (aI (aI @w_slC @w_par) (aI @w_aug @w_sub)))) (aI (aI (aI @w_mut (aI @w_subs @w_retN)) (aI (aI @w_ife @w_quiet) (aI @w_tri @w_lcF))) (aI (aI (aI @w_subp @w_fN) (aI @w_fC @w_setf)) (aI (aI @w_hd @w_lN) (aI @w_lC @w_l2F))))) (aI (aI (aI (aI @w_l2N (aI @w_l2C @w_dcF)) (aI (aI @w_dN @w_dC) (aI @w_opE @w_esC))) (aI (aI (aI @w_argN @w_ret) (aI @sx_s @s_int)) (aI (aI @tz_tt @lz_tt) (aI @ar_v @ar_w)))) (aI (aI (aI (aI @ar_i @pb_i) (aI @tg_c @sa_c)) (aI (aI @sk_c @mF_p) (aI @mF_a @mF_i))) (aI (aI (aI @mF_e @b_lst) (aI @b_tup @b_str)) (aI (aI @nx_nx @nx_rt) (aI @w_pur @w_callF)))))))
def WB := (aI (aI (aI (aI (aI (aI (aI @bw_f (aI @bw_l @bw_u)) (aI (aI @sm_b @sm_i) (aI @sm_s @rv_tup))) (aI (aI @rv_lst (aI @dk_int @dk_str)) (aI (aI @ko_int @ko_str) (aI @bK_g @b_add)))) (aI (aI (aI @b_sub (aI @c_le @c_lt)) (aI (aI @c_ge @c_gt) (aI @c_eq @c_ne))) (aI (aI @c_in (aI @c_ni @eq_ii)) (aI (aI @eq_ss @eq_bb) (aI @l_lst @l_tup))))) (aI (aI (aI (aI @l_dct (aI @l_scr @t_lst)) (aI (aI @t_tup @k_lst) (aI @k_tup @i_int))) (aI (aI @i_bl (aI @x_max @x_min)) (aI (aI @m_lst @m_tup) (aI @m_str @q_tup)))) (aI (aI (aI @q_str (aI @ai_int @as_lst)) (aI (aI @as_tup @as_tpl) (aI @as_two @au_int))) (aI (aI (aI @au_str @an_obj) (aI @d_tm @ar_n)) (aI (aI @nd_n @nd_v) (aI @nd_i @nd_w)))))) (aI (aI (aI (aI (aI @at_v (aI @at_w @at_i)) (aI (aI @n_v @n_w) (aI @n_i @pb_n))) (aI (aI @pb_v (aI @pb_w @tg_1)) (aI (aI @tg_n @sa_n) (aI @sk_n @wi_n)))) (aI (aI (aI @wi_c (aI @uw_n @uw_c)) (aI (aI @cl_n @cl_c) (aI @cs_f @cs_u))) (aI (aI (aI @ca_0 @ca_1) (aI @ca_2 @ca_3)) (aI (aI @ca_4 @ca_5) (aI @ca_6 @ca_7))))) (aI (aI (aI (aI @ca_8 (aI @mK_a @mK_i)) (aI (aI @mK_e @mK_u) (aI @mK_s @mK_p))) (aI (aI @cF_is (aI @cF_nt @cB_is)) (aI (aI @cB_nt @nn_0) (aI @nn_t @nn_s)))) (aI (aI (aI @nn_i (aI @nc_0 @nc_1)) (aI (aI @nc_2 @nc_3) (aI @nc_4 @nc_5))) (aI (aI (aI @nc_6 @tl_s) (aI @tl_n @x2_0)) (aI (aI @x2_1 @x3_0) (aI @x3_1 @x3_2))))))) (aI (aI (aI (aI (aI (aI @y2_0 (aI @y2_1 @y3_0)) (aI (aI @y3_1 @y3_2) (aI @md_2 @ml_2))) (aI (aI @is_s (aI @is_t @is_i)) (aI (aI @is_b @bK_s) (aI @bK_l @bK_j)))) (aI (aI (aI @bK_t (aI @bK_x @ic_t)) (aI (aI @hd_c @s_str) (aI @isS_v @isV_g))) (aI (aI (aI @isS_g @isV_non) (aI @isS_non @isV_bl)) (aI (aI @isS_bl @isV_int) (aI @isS_int @isV_str))))) (aI (aI (aI (aI @isS_str (aI @isV_tup @isS_tup)) (aI (aI @isV_lst @isS_lst) (aI @isV_star @isV_bin))) (aI (aI @isS_bin (aI @isV_neg @isS_neg)) (aI (aI @isV_nt @isS_nt) (aI @isV_and @isS_and)))) (aI (aI (aI @isV_or (aI @isS_or @isV_cmp)) (aI (aI @isS_cmp @isV_chain) (aI @isS_chain @isV_ite))) (aI (aI (aI @isS_ite @isV_idx) (aI @isS_idx @isV_slc)) (aI (aI @isS_slc @isV_fld) (aI @isS_fld @isV_prp)))))) (aI (aI (aI (aI (aI @isS_prp (aI @isV_call @isS_call)) (aI (aI @isV_mk @isS_mk) (aI @isV_mth @isS_mth))) (aI (aI @isV_isi (aI @isS_isi @isV_blt)) (aI (aI @isS_blt @isV_bmt) (aI @isS_bmt @isV_lrg)))) (aI (aI (aI @isS_lrg (aI @isV_lc @isS_lc)) (aI (aI @isV_dc @isS_dc) (aI @isV_dct @isS_dct))) (aI (aI (aI @isV_ln @isS_ln) (aI @isV_tzp @isS_tzp)) (aI (aI @isV_rev @isS_rev) (aI @isV_dct2 @isS_dct2))))) (aI (aI (aI (aI @isV_lzp (aI @isS_lzp @isV_dcl)) (aI (aI @isS_dcl @isV_cm) (aI @isS_cm @isV_mkv))) (aI (aI @isS_mkv (aI @isV_sp @isS_sp)) (aI (aI @isV_lc2 @isS_lc2) (aI @isV_prim @isS_prim)))) (aI (aI (aI @isV_pg (aI @isS_pg @isV_thk)) (aI (aI @isS_thk @isV_bor) (aI @isS_bor @ifW_t))) (aI (aI (aI @ifW_f @o_bind) (aI @o_map @o_some)) (aI (aI @w_ok @w_guard) (aI @w_guardN @o_guard))))))))
end EV.Y
namespace EV.Y
theorem xs_F0 {v : Val} {r : Ro} {Q : Slot → Ro → Prop} : Wp (slotAt 0 (.fz v :: r)) (c := ⟨Q⟩) ↔ Q (.fz v) (.fz v :: r) := v_pur
theorem xs_O0 {v : Val} {r : Ro} {Q : Slot → Ro → Prop} : Wp (slotAt 0 (.ow v :: r)) (c := ⟨Q⟩) ↔ Q (.fz v) (.fz v :: r) := v_pur
theorem xp_F0 {v : Val} {r : Ro} {m : Ro → Res Slot} {Q : Opd → Ro → Prop} : Wp (opnd (.v 0) m (.fz v :: r)) (c := ⟨Q⟩) ↔ Q (.pl 0) (.fz v :: r) := v_pur
theorem xp_O0 {v : Val} {r : Ro} {m : Ro → Res Slot} {Q : Opd → Ro → Prop} : Wp (opnd (.v 0) m (.ow v :: r)) (c := ⟨Q⟩) ↔ Q (.pl 0) (.ow v :: r) := v_pur
theorem xv_F0 {v : Val} {r : Ro} {P : Val → Prop} : Op (Opd.val (.pl 0) (.fz v :: r)) (c := ⟨P⟩) ↔ P v := u_some
theorem xv_O0 {v : Val} {r : Ro} {P : Val → Prop} : Op (Opd.val (.pl 0) (.ow v :: r)) (c := ⟨P⟩) ↔ P v := u_some
theorem xx_F0 {v : Val} {r : Ro} : Opd.val (.pl 0) (.fz v :: r) = some v := rfl
theorem xx_O0 {v : Val} {r : Ro} : Opd.val (.pl 0) (.ow v :: r) = some v := rfl
theorem xw_F0 {v : Val} {r : Ro} {P : Val → Prop} : Op (valAt 0 (.fz v :: r)) (c := ⟨P⟩) ↔ P v := u_some
theorem xw_O0 {v : Val} {r : Ro} {P : Val → Prop} : Op (valAt 0 (.ow v :: r)) (c := ⟨P⟩) ↔ P v := u_some
theorem xo_0 {v : Val} {r : Ro} : ownAt 0 (.ow v :: r) = some v := rfl
theorem xt_0 {x y : Slot} {r : Ro} : List.set (x :: r) 0 y = (y :: r) := rfl
theorem xl_0 {x : Slot} {r : Ro} : (0 < List.length (x :: r)) = True := by simp
theorem xa_0 {x y : Slot} {r : Ro} : assn (.nm 0) y (x :: r) = some (y :: r) := by unfold assn; rw [if_pos (by simp)]; rfl
theorem xr_F0 {v : Val} {r : Ro} {T : Tab} {cal mkc : Cal} {Q : Fl → Ro → Prop} : Wp (evS T cal mkc (.ret (.v 0)) (.fz v :: r)) (c := ⟨Q⟩) ↔ Q (.rt (.fz v)) (.fz v :: r) := v_pur
theorem xr_O0 {v : Val} {r : Ro} {T : Tab} {cal mkc : Cal} {Q : Fl → Ro → Prop} : Wp (evS T cal mkc (.ret (.v 0)) (.ow v :: r)) (c := ⟨Q⟩) ↔ Q (.rt (.ow v)) (.un :: r) := v_pur
theorem xc_0 {v : Val} {r : Ro} {P : Slot → Prop} : Op (Arg.slot (.ow v :: r) (.io 0)) (c := ⟨P⟩) ↔ P (.ow v) := u_some
theorem xg_0 {x : Slot} {r : Ro} : (x :: r)[0]? = some x := rfl
theorem xs_F1 {a0 : Slot} {v : Val} {r : Ro} {Q : Slot → Ro → Prop} : Wp (slotAt 1 (a0 :: .fz v :: r)) (c := ⟨Q⟩) ↔ Q (.fz v) (a0 :: .fz v :: r) := v_pur
theorem xs_O1 {a0 : Slot} {v : Val} {r : Ro} {Q : Slot → Ro → Prop} : Wp (slotAt 1 (a0 :: .ow v :: r)) (c := ⟨Q⟩) ↔ Q (.fz v) (a0 :: .fz v :: r) := v_pur
theorem xp_F1 {a0 : Slot} {v : Val} {r : Ro} {m : Ro → Res Slot} {Q : Opd → Ro → Prop} : Wp (opnd (.v 1) m (a0 :: .fz v :: r)) (c := ⟨Q⟩) ↔ Q (.pl 1) (a0 :: .fz v :: r) := v_pur
theorem xp_O1 {a0 : Slot} {v : Val} {r : Ro} {m : Ro → Res Slot} {Q : Opd → Ro → Prop} : Wp (opnd (.v 1) m (a0 :: .ow v :: r)) (c := ⟨Q⟩) ↔ Q (.pl 1) (a0 :: .ow v :: r) := v_pur
theorem xv_F1 {a0 : Slot} {v : Val} {r : Ro} {P : Val → Prop} : Op (Opd.val (.pl 1) (a0 :: .fz v :: r)) (c := ⟨P⟩) ↔ P v := u_some
theorem xv_O1 {a0 : Slot} {v : Val} {r : Ro} {P : Val → Prop} : Op (Opd.val (.pl 1) (a0 :: .ow v :: r)) (c := ⟨P⟩) ↔ P v := u_some
theorem xx_F1 {a0 : Slot} {v : Val} {r : Ro} : Opd.val (.pl 1) (a0 :: .fz v :: r) = some v := rfl
theorem xx_O1 {a0 : Slot} {v : Val} {r : Ro} : Opd.val (.pl 1) (a0 :: .ow v :: r) = some v := rfl
theorem xw_F1 {a0 : Slot} {v : Val} {r : Ro} {P : Val → Prop} : Op (valAt 1 (a0 :: .fz v :: r)) (c := ⟨P⟩) ↔ P v := u_some
theorem xw_O1 {a0 : Slot} {v : Val} {r : Ro} {P : Val → Prop} : Op (valAt 1 (a0 :: .ow v :: r)) (c := ⟨P⟩) ↔ P v := u_some
theorem xo_1 {a0 : Slot} {v : Val} {r : Ro} : ownAt 1 (a0 :: .ow v :: r) = some v := rfl
theorem xt_1 {a0 : Slot} {x y : Slot} {r : Ro} : List.set (a0 :: x :: r) 1 y = (a0 :: y :: r) := rfl
theorem xl_1 {a0 : Slot} {x : Slot} {r : Ro} : (1 < List.length (a0 :: x :: r)) = True := by simp
theorem xa_1 {a0 : Slot} {x y : Slot} {r : Ro} : assn (.nm 1) y (a0 :: x :: r) = some (a0 :: y :: r) := by unfold assn; rw [if_pos (by simp)]; rfl
theorem xr_F1 {a0 : Slot} {v : Val} {r : Ro} {T : Tab} {cal mkc : Cal} {Q : Fl → Ro → Prop} : Wp (evS T cal mkc (.ret (.v 1)) (a0 :: .fz v :: r)) (c := ⟨Q⟩) ↔ Q (.rt (.fz v)) (a0 :: .fz v :: r) := v_pur
theorem xr_O1 {a0 : Slot} {v : Val} {r : Ro} {T : Tab} {cal mkc : Cal} {Q : Fl → Ro → Prop} : Wp (evS T cal mkc (.ret (.v 1)) (a0 :: .ow v :: r)) (c := ⟨Q⟩) ↔ Q (.rt (.ow v)) (a0 :: .un :: r) := v_pur
theorem xc_1 {a0 : Slot} {v : Val} {r : Ro} {P : Slot → Prop} : Op (Arg.slot (a0 :: .ow v :: r) (.io 1)) (c := ⟨P⟩) ↔ P (.ow v) := u_some
theorem xg_1 {a0 : Slot} {x : Slot} {r : Ro} : (a0 :: x :: r)[1]? = some x := rfl
theorem xs_F2 {a0 a1 : Slot} {v : Val} {r : Ro} {Q : Slot → Ro → Prop} : Wp (slotAt 2 (a0 :: a1 :: .fz v :: r)) (c := ⟨Q⟩) ↔ Q (.fz v) (a0 :: a1 :: .fz v :: r) := v_pur
theorem xs_O2 {a0 a1 : Slot} {v : Val} {r : Ro} {Q : Slot → Ro → Prop} : Wp (slotAt 2 (a0 :: a1 :: .ow v :: r)) (c := ⟨Q⟩) ↔ Q (.fz v) (a0 :: a1 :: .fz v :: r) := v_pur
theorem xp_F2 {a0 a1 : Slot} {v : Val} {r : Ro} {m : Ro → Res Slot} {Q : Opd → Ro → Prop} : Wp (opnd (.v 2) m (a0 :: a1 :: .fz v :: r)) (c := ⟨Q⟩) ↔ Q (.pl 2) (a0 :: a1 :: .fz v :: r) := v_pur
theorem xp_O2 {a0 a1 : Slot} {v : Val} {r : Ro} {m : Ro → Res Slot} {Q : Opd → Ro → Prop} : Wp (opnd (.v 2) m (a0 :: a1 :: .ow v :: r)) (c := ⟨Q⟩) ↔ Q (.pl 2) (a0 :: a1 :: .ow v :: r) := v_pur
theorem xv_F2 {a0 a1 : Slot} {v : Val} {r : Ro} {P : Val → Prop} : Op (Opd.val (.pl 2) (a0 :: a1 :: .fz v :: r)) (c := ⟨P⟩) ↔ P v := u_some
theorem xv_O2 {a0 a1 : Slot} {v : Val} {r : Ro} {P : Val → Prop} : Op (Opd.val (.pl 2) (a0 :: a1 :: .ow v :: r)) (c := ⟨P⟩) ↔ P v := u_some
theorem xx_F2 {a0 a1 : Slot} {v : Val} {r : Ro} : Opd.val (.pl 2) (a0 :: a1 :: .fz v :: r) = some v := rfl
theorem xx_O2 {a0 a1 : Slot} {v : Val} {r : Ro} : Opd.val (.pl 2) (a0 :: a1 :: .ow v :: r) = some v := rfl
theorem xw_F2 {a0 a1 : Slot} {v : Val} {r : Ro} {P : Val → Prop} : Op (valAt 2 (a0 :: a1 :: .fz v :: r)) (c := ⟨P⟩) ↔ P v := u_some
theorem xw_O2 {a0 a1 : Slot} {v : Val} {r : Ro} {P : Val → Prop} : Op (valAt 2 (a0 :: a1 :: .ow v :: r)) (c := ⟨P⟩) ↔ P v := u_some
theorem xo_2 {a0 a1 : Slot} {v : Val} {r : Ro} : ownAt 2 (a0 :: a1 :: .ow v :: r) = some v := rfl
theorem xt_2 {a0 a1 : Slot} {x y : Slot} {r : Ro} : List.set (a0 :: a1 :: x :: r) 2 y = (a0 :: a1 :: y :: r) := rfl
theorem xl_2 {a0 a1 : Slot} {x : Slot} {r : Ro} : (2 < List.length (a0 :: a1 :: x :: r)) = True := by simp
theorem xa_2 {a0 a1 : Slot} {x y : Slot} {r : Ro} : assn (.nm 2) y (a0 :: a1 :: x :: r) = some (a0 :: a1 :: y :: r) := by unfold assn; rw [if_pos (by simp)]; rfl
theorem xr_F2 {a0 a1 : Slot} {v : Val} {r : Ro} {T : Tab} {cal mkc : Cal} {Q : Fl → Ro → Prop} : Wp (evS T cal mkc (.ret (.v 2)) (a0 :: a1 :: .fz v :: r)) (c := ⟨Q⟩) ↔ Q (.rt (.fz v)) (a0 :: a1 :: .fz v :: r) := v_pur
theorem xr_O2 {a0 a1 : Slot} {v : Val} {r : Ro} {T : Tab} {cal mkc : Cal} {Q : Fl → Ro → Prop} : Wp (evS T cal mkc (.ret (.v 2)) (a0 :: a1 :: .ow v :: r)) (c := ⟨Q⟩) ↔ Q (.rt (.ow v)) (a0 :: a1 :: .un :: r) := v_pur
theorem xc_2 {a0 a1 : Slot} {v : Val} {r : Ro} {P : Slot → Prop} : Op (Arg.slot (a0 :: a1 :: .ow v :: r) (.io 2)) (c := ⟨P⟩) ↔ P (.ow v) := u_some
theorem xg_2 {a0 a1 : Slot} {x : Slot} {r : Ro} : (a0 :: a1 :: x :: r)[2]? = some x := rfl
theorem xs_F3 {a0 a1 a2 : Slot} {v : Val} {r : Ro} {Q : Slot → Ro → Prop} : Wp (slotAt 3 (a0 :: a1 :: a2 :: .fz v :: r)) (c := ⟨Q⟩) ↔ Q (.fz v) (a0 :: a1 :: a2 :: .fz v :: r) := v_pur
theorem xs_O3 {a0 a1 a2 : Slot} {v : Val} {r : Ro} {Q : Slot → Ro → Prop} : Wp (slotAt 3 (a0 :: a1 :: a2 :: .ow v :: r)) (c := ⟨Q⟩) ↔ Q (.fz v) (a0 :: a1 :: a2 :: .fz v :: r) := v_pur
theorem xp_F3 {a0 a1 a2 : Slot} {v : Val} {r : Ro} {m : Ro → Res Slot} {Q : Opd → Ro → Prop} : Wp (opnd (.v 3) m (a0 :: a1 :: a2 :: .fz v :: r)) (c := ⟨Q⟩) ↔ Q (.pl 3) (a0 :: a1 :: a2 :: .fz v :: r) := v_pur
theorem xp_O3 {a0 a1 a2 : Slot} {v : Val} {r : Ro} {m : Ro → Res Slot} {Q : Opd → Ro → Prop} : Wp (opnd (.v 3) m (a0 :: a1 :: a2 :: .ow v :: r)) (c := ⟨Q⟩) ↔ Q (.pl 3) (a0 :: a1 :: a2 :: .ow v :: r) := v_pur
theorem xv_F3 {a0 a1 a2 : Slot} {v : Val} {r : Ro} {P : Val → Prop} : Op (Opd.val (.pl 3) (a0 :: a1 :: a2 :: .fz v :: r)) (c := ⟨P⟩) ↔ P v := u_some
theorem xv_O3 {a0 a1 a2 : Slot} {v : Val} {r : Ro} {P : Val → Prop} : Op (Opd.val (.pl 3) (a0 :: a1 :: a2 :: .ow v :: r)) (c := ⟨P⟩) ↔ P v := u_some
theorem xx_F3 {a0 a1 a2 : Slot} {v : Val} {r : Ro} : Opd.val (.pl 3) (a0 :: a1 :: a2 :: .fz v :: r) = some v := rfl
theorem xx_O3 {a0 a1 a2 : Slot} {v : Val} {r : Ro} : Opd.val (.pl 3) (a0 :: a1 :: a2 :: .ow v :: r) = some v := rfl
theorem xw_F3 {a0 a1 a2 : Slot} {v : Val} {r : Ro} {P : Val → Prop} : Op (valAt 3 (a0 :: a1 :: a2 :: .fz v :: r)) (c := ⟨P⟩) ↔ P v := u_some
theorem xw_O3 {a0 a1 a2 : Slot} {v : Val} {r : Ro} {P : Val → Prop} : Op (valAt 3 (a0 :: a1 :: a2 :: .ow v :: r)) (c := ⟨P⟩) ↔ P v := u_some
theorem xo_3 {a0 a1 a2 : Slot} {v : Val} {r : Ro} : ownAt 3 (a0 :: a1 :: a2 :: .ow v :: r) = some v := rfl
theorem xt_3 {a0 a1 a2 : Slot} {x y : Slot} {r : Ro} : List.set (a0 :: a1 :: a2 :: x :: r) 3 y = (a0 :: a1 :: a2 :: y :: r) := rfl
theorem xl_3 {a0 a1 a2 : Slot} {x : Slot} {r : Ro} : (3 < List.length (a0 :: a1 :: a2 :: x :: r)) = True := by simp
theorem xa_3 {a0 a1 a2 : Slot} {x y : Slot} {r : Ro} : assn (.nm 3) y (a0 :: a1 :: a2 :: x :: r) = some (a0 :: a1 :: a2 :: y :: r) := by unfold assn; rw [if_pos (by simp)]; rfl
theorem xr_F3 {a0 a1 a2 : Slot} {v : Val} {r : Ro} {T : Tab} {cal mkc : Cal} {Q : Fl → Ro → Prop} : Wp (evS T cal mkc (.ret (.v 3)) (a0 :: a1 :: a2 :: .fz v :: r)) (c := ⟨Q⟩) ↔ Q (.rt (.fz v)) (a0 :: a1 :: a2 :: .fz v :: r) := v_pur
theorem xr_O3 {a0 a1 a2 : Slot} {v : Val} {r : Ro} {T : Tab} {cal mkc : Cal} {Q : Fl → Ro → Prop} : Wp (evS T cal mkc (.ret (.v 3)) (a0 :: a1 :: a2 :: .ow v :: r)) (c := ⟨Q⟩) ↔ Q (.rt (.ow v)) (a0 :: a1 :: a2 :: .un :: r) := v_pur
theorem xc_3 {a0 a1 a2 : Slot} {v : Val} {r : Ro} {P : Slot → Prop} : Op (Arg.slot (a0 :: a1 :: a2 :: .ow v :: r) (.io 3)) (c := ⟨P⟩) ↔ P (.ow v) := u_some
theorem xg_3 {a0 a1 a2 : Slot} {x : Slot} {r : Ro} : (a0 :: a1 :: a2 :: x :: r)[3]? = some x := rfl
theorem xs_F4 {a0 a1 a2 a3 : Slot} {v : Val} {r : Ro} {Q : Slot → Ro → Prop} : Wp (slotAt 4 (a0 :: a1 :: a2 :: a3 :: .fz v :: r)) (c := ⟨Q⟩) ↔ Q (.fz v) (a0 :: a1 :: a2 :: a3 :: .fz v :: r) := v_pur
theorem xs_O4 {a0 a1 a2 a3 : Slot} {v : Val} {r : Ro} {Q : Slot → Ro → Prop} : Wp (slotAt 4 (a0 :: a1 :: a2 :: a3 :: .ow v :: r)) (c := ⟨Q⟩) ↔ Q (.fz v) (a0 :: a1 :: a2 :: a3 :: .fz v :: r) := v_pur
theorem xp_F4 {a0 a1 a2 a3 : Slot} {v : Val} {r : Ro} {m : Ro → Res Slot} {Q : Opd → Ro → Prop} : Wp (opnd (.v 4) m (a0 :: a1 :: a2 :: a3 :: .fz v :: r)) (c := ⟨Q⟩) ↔ Q (.pl 4) (a0 :: a1 :: a2 :: a3 :: .fz v :: r) := v_pur
theorem xp_O4 {a0 a1 a2 a3 : Slot} {v : Val} {r : Ro} {m : Ro → Res Slot} {Q : Opd → Ro → Prop} : Wp (opnd (.v 4) m (a0 :: a1 :: a2 :: a3 :: .ow v :: r)) (c := ⟨Q⟩) ↔ Q (.pl 4) (a0 :: a1 :: a2 :: a3 :: .ow v :: r) := v_pur
theorem xv_F4 {a0 a1 a2 a3 : Slot} {v : Val} {r : Ro} {P : Val → Prop} : Op (Opd.val (.pl 4) (a0 :: a1 :: a2 :: a3 :: .fz v :: r)) (c := ⟨P⟩) ↔ P v := u_some
theorem xv_O4 {a0 a1 a2 a3 : Slot} {v : Val} {r : Ro} {P : Val → Prop} : Op (Opd.val (.pl 4) (a0 :: a1 :: a2 :: a3 :: .ow v :: r)) (c := ⟨P⟩) ↔ P v := u_some
theorem xx_F4 {a0 a1 a2 a3 : Slot} {v : Val} {r : Ro} : Opd.val (.pl 4) (a0 :: a1 :: a2 :: a3 :: .fz v :: r) = some v := rfl
theorem xx_O4 {a0 a1 a2 a3 : Slot} {v : Val} {r : Ro} : Opd.val (.pl 4) (a0 :: a1 :: a2 :: a3 :: .ow v :: r) = some v := rfl
theorem xw_F4 {a0 a1 a2 a3 : Slot} {v : Val} {r : Ro} {P : Val → Prop} : Op (valAt 4 (a0 :: a1 :: a2 :: a3 :: .fz v :: r)) (c := ⟨P⟩) ↔ P v := u_some
theorem xw_O4 {a0 a1 a2 a3 : Slot} {v : Val} {r : Ro} {P : Val → Prop} : Op (valAt 4 (a0 :: a1 :: a2 :: a3 :: .ow v :: r)) (c := ⟨P⟩) ↔ P v := u_some
theorem xo_4 {a0 a1 a2 a3 : Slot} {v : Val} {r : Ro} : ownAt 4 (a0 :: a1 :: a2 :: a3 :: .ow v :: r) = some v := rfl
theorem xt_4 {a0 a1 a2 a3 : Slot} {x y : Slot} {r : Ro} : List.set (a0 :: a1 :: a2 :: a3 :: x :: r) 4 y = (a0 :: a1 :: a2 :: a3 :: y :: r) := rfl
theorem xl_4 {a0 a1 a2 a3 : Slot} {x : Slot} {r : Ro} : (4 < List.length (a0 :: a1 :: a2 :: a3 :: x :: r)) = True := by simp
theorem xa_4 {a0 a1 a2 a3 : Slot} {x y : Slot} {r : Ro} : assn (.nm 4) y (a0 :: a1 :: a2 :: a3 :: x :: r) = some (a0 :: a1 :: a2 :: a3 :: y :: r) := by unfold assn; rw [if_pos (by simp)]; rfl
theorem xr_F4 {a0 a1 a2 a3 : Slot} {v : Val} {r : Ro} {T : Tab} {cal mkc : Cal} {Q : Fl → Ro → Prop} : Wp (evS T cal mkc (.ret (.v 4)) (a0 :: a1 :: a2 :: a3 :: .fz v :: r)) (c := ⟨Q⟩) ↔ Q (.rt (.fz v)) (a0 :: a1 :: a2 :: a3 :: .fz v :: r) := v_pur
theorem xr_O4 {a0 a1 a2 a3 : Slot} {v : Val} {r : Ro} {T : Tab} {cal mkc : Cal} {Q : Fl → Ro → Prop} : Wp (evS T cal mkc (.ret (.v 4)) (a0 :: a1 :: a2 :: a3 :: .ow v :: r)) (c := ⟨Q⟩) ↔ Q (.rt (.ow v)) (a0 :: a1 :: a2 :: a3 :: .un :: r) := v_pur
theorem xc_4 {a0 a1 a2 a3 : Slot} {v : Val} {r : Ro} {P : Slot → Prop} : Op (Arg.slot (a0 :: a1 :: a2 :: a3 :: .ow v :: r) (.io 4)) (c := ⟨P⟩) ↔ P (.ow v) := u_some
theorem xg_4 {a0 a1 a2 a3 : Slot} {x : Slot} {r : Ro} : (a0 :: a1 :: a2 :: a3 :: x :: r)[4]? = some x := rfl
theorem xs_F5 {a0 a1 a2 a3 a4 : Slot} {v : Val} {r : Ro} {Q : Slot → Ro → Prop} : Wp (slotAt 5 (a0 :: a1 :: a2 :: a3 :: a4 :: .fz v :: r)) (c := ⟨Q⟩) ↔ Q (.fz v) (a0 :: a1 :: a2 :: a3 :: a4 :: .fz v :: r) := v_pur
theorem xs_O5 {a0 a1 a2 a3 a4 : Slot} {v : Val} {r : Ro} {Q : Slot → Ro → Prop} : Wp (slotAt 5 (a0 :: a1 :: a2 :: a3 :: a4 :: .ow v :: r)) (c := ⟨Q⟩) ↔ Q (.fz v) (a0 :: a1 :: a2 :: a3 :: a4 :: .fz v :: r) := v_pur
theorem xp_F5 {a0 a1 a2 a3 a4 : Slot} {v : Val} {r : Ro} {m : Ro → Res Slot} {Q : Opd → Ro → Prop} : Wp (opnd (.v 5) m (a0 :: a1 :: a2 :: a3 :: a4 :: .fz v :: r)) (c := ⟨Q⟩) ↔ Q (.pl 5) (a0 :: a1 :: a2 :: a3 :: a4 :: .fz v :: r) := v_pur
theorem xp_O5 {a0 a1 a2 a3 a4 : Slot} {v : Val} {r : Ro} {m : Ro → Res Slot} {Q : Opd → Ro → Prop} : Wp (opnd (.v 5) m (a0 :: a1 :: a2 :: a3 :: a4 :: .ow v :: r)) (c := ⟨Q⟩) ↔ Q (.pl 5) (a0 :: a1 :: a2 :: a3 :: a4 :: .ow v :: r) := v_pur
theorem xv_F5 {a0 a1 a2 a3 a4 : Slot} {v : Val} {r : Ro} {P : Val → Prop} : Op (Opd.val (.pl 5) (a0 :: a1 :: a2 :: a3 :: a4 :: .fz v :: r)) (c := ⟨P⟩) ↔ P v := u_some
theorem xv_O5 {a0 a1 a2 a3 a4 : Slot} {v : Val} {r : Ro} {P : Val → Prop} : Op (Opd.val (.pl 5) (a0 :: a1 :: a2 :: a3 :: a4 :: .ow v :: r)) (c := ⟨P⟩) ↔ P v := u_some
theorem xx_F5 {a0 a1 a2 a3 a4 : Slot} {v : Val} {r : Ro} : Opd.val (.pl 5) (a0 :: a1 :: a2 :: a3 :: a4 :: .fz v :: r) = some v := rfl
theorem xx_O5 {a0 a1 a2 a3 a4 : Slot} {v : Val} {r : Ro} : Opd.val (.pl 5) (a0 :: a1 :: a2 :: a3 :: a4 :: .ow v :: r) = some v := rfl
theorem xw_F5 {a0 a1 a2 a3 a4 : Slot} {v : Val} {r : Ro} {P : Val → Prop} : Op (valAt 5 (a0 :: a1 :: a2 :: a3 :: a4 :: .fz v :: r)) (c := ⟨P⟩) ↔ P v := u_some
theorem xw_O5 {a0 a1 a2 a3 a4 : Slot} {v : Val} {r : Ro} {P : Val → Prop} : Op (valAt 5 (a0 :: a1 :: a2 :: a3 :: a4 :: .ow v :: r)) (c := ⟨P⟩) ↔ P v := u_some
theorem xo_5 {a0 a1 a2 a3 a4 : Slot} {v : Val} {r : Ro} : ownAt 5 (a0 :: a1 :: a2 :: a3 :: a4 :: .ow v :: r) = some v := rfl
theorem xt_5 {a0 a1 a2 a3 a4 : Slot} {x y : Slot} {r : Ro} : List.set (a0 :: a1 :: a2 :: a3 :: a4 :: x :: r) 5 y = (a0 :: a1 :: a2 :: a3 :: a4 :: y :: r) := rfl
theorem xl_5 {a0 a1 a2 a3 a4 : Slot} {x : Slot} {r : Ro} : (5 < List.length (a0 :: a1 :: a2 :: a3 :: a4 :: x :: r)) = True := by simp
theorem xa_5 {a0 a1 a2 a3 a4 : Slot} {x y : Slot} {r : Ro} : assn (.nm 5) y (a0 :: a1 :: a2 :: a3 :: a4 :: x :: r) = some (a0 :: a1 :: a2 :: a3 :: a4 :: y :: r) := by unfold assn; rw [if_pos (by simp)]; rfl
theorem xr_F5 {a0 a1 a2 a3 a4 : Slot} {v : Val} {r : Ro} {T : Tab} {cal mkc : Cal} {Q : Fl → Ro → Prop} : Wp (evS T cal mkc (.ret (.v 5)) (a0 :: a1 :: a2 :: a3 :: a4 :: .fz v :: r)) (c := ⟨Q⟩) ↔ Q (.rt (.fz v)) (a0 :: a1 :: a2 :: a3 :: a4 :: .fz v :: r) := v_pur
theorem xr_O5 {a0 a1 a2 a3 a4 : Slot} {v : Val} {r : Ro} {T : Tab} {cal mkc : Cal} {Q : Fl → Ro → Prop} : Wp (evS T cal mkc (.ret (.v 5)) (a0 :: a1 :: a2 :: a3 :: a4 :: .ow v :: r)) (c := ⟨Q⟩) ↔ Q (.rt (.ow v)) (a0 :: a1 :: a2 :: a3 :: a4 :: .un :: r) := v_pur
theorem xc_5 {a0 a1 a2 a3 a4 : Slot} {v : Val} {r : Ro} {P : Slot → Prop} : Op (Arg.slot (a0 :: a1 :: a2 :: a3 :: a4 :: .ow v :: r) (.io 5)) (c := ⟨P⟩) ↔ P (.ow v) := u_some
theorem xg_5 {a0 a1 a2 a3 a4 : Slot} {x : Slot} {r : Ro} : (a0 :: a1 :: a2 :: a3 :: a4 :: x :: r)[5]? = some x := rfl
theorem xs_F6 {a0 a1 a2 a3 a4 a5 : Slot} {v : Val} {r : Ro} {Q : Slot → Ro → Prop} : Wp (slotAt 6 (a0 :: a1 :: a2 :: a3 :: a4 :: a5 :: .fz v :: r)) (c := ⟨Q⟩) ↔ Q (.fz v) (a0 :: a1 :: a2 :: a3 :: a4 :: a5 :: .fz v :: r) := v_pur
theorem xs_O6 {a0 a1 a2 a3 a4 a5 : Slot} {v : Val} {r : Ro} {Q : Slot → Ro → Prop} : Wp (slotAt 6 (a0 :: a1 :: a2 :: a3 :: a4 :: a5 :: .ow v :: r)) (c := ⟨Q⟩) ↔ Q (.fz v) (a0 :: a1 :: a2 :: a3 :: a4 :: a5 :: .fz v :: r) := v_pur
theorem xp_F6 {a0 a1 a2 a3 a4 a5 : Slot} {v : Val} {r : Ro} {m : Ro → Res Slot} {Q : Opd → Ro → Prop} : Wp (opnd (.v 6) m (a0 :: a1 :: a2 :: a3 :: a4 :: a5 :: .fz v :: r)) (c := ⟨Q⟩) ↔ Q (.pl 6) (a0 :: a1 :: a2 :: a3 :: a4 :: a5 :: .fz v :: r) := v_pur
theorem xp_O6 {a0 a1 a2 a3 a4 a5 : Slot} {v : Val} {r : Ro} {m : Ro → Res Slot} {Q : Opd → Ro → Prop} : Wp (opnd (.v 6) m (a0 :: a1 :: a2 :: a3 :: a4 :: a5 :: .ow v :: r)) (c := ⟨Q⟩) ↔ Q (.pl 6) (a0 :: a1 :: a2 :: a3 :: a4 :: a5 :: .ow v :: r) := v_pur
theorem xv_F6 {a0 a1 a2 a3 a4 a5 : Slot} {v : Val} {r : Ro} {P : Val → Prop} : Op (Opd.val (.pl 6) (a0 :: a1 :: a2 :: a3 :: a4 :: a5 :: .fz v :: r)) (c := ⟨P⟩) ↔ P v := u_some
theorem xv_O6 {a0 a1 a2 a3 a4 a5 : Slot} {v : Val} {r : Ro} {P : Val → Prop} : Op (Opd.val (.pl 6) (a0 :: a1 :: a2 :: a3 :: a4 :: a5 :: .ow v :: r)) (c := ⟨P⟩) ↔ P v := u_some
theorem xx_F6 {a0 a1 a2 a3 a4 a5 : Slot} {v : Val} {r : Ro} : Opd.val (.pl 6) (a0 :: a1 :: a2 :: a3 :: a4 :: a5 :: .fz v :: r) = some v := rfl
theorem xx_O6 {a0 a1 a2 a3 a4 a5 : Slot} {v : Val} {r : Ro} : Opd.val (.pl 6) (a0 :: a1 :: a2 :: a3 :: a4 :: a5 :: .ow v :: r) = some v := rfl
theorem xw_F6 {a0 a1 a2 a3 a4 a5 : Slot} {v : Val} {r : Ro} {P : Val → Prop} : Op (valAt 6 (a0 :: a1 :: a2 :: a3 :: a4 :: a5 :: .fz v :: r)) (c := ⟨P⟩) ↔ P v := u_some
theorem xw_O6 {a0 a1 a2 a3 a4 a5 : Slot} {v : Val} {r : Ro} {P : Val → Prop} : Op (valAt 6 (a0 :: a1 :: a2 :: a3 :: a4 :: a5 :: .ow v :: r)) (c := ⟨P⟩) ↔ P v := u_some
theorem xo_6 {a0 a1 a2 a3 a4 a5 : Slot} {v : Val} {r : Ro} : ownAt 6 (a0 :: a1 :: a2 :: a3 :: a4 :: a5 :: .ow v :: r) = some v := rfl
theorem xt_6 {a0 a1 a2 a3 a4 a5 : Slot} {x y : Slot} {r : Ro} : List.set (a0 :: a1 :: a2 :: a3 :: a4 :: a5 :: x :: r) 6 y = (a0 :: a1 :: a2 :: a3 :: a4 :: a5 :: y :: r) := rfl
theorem xl_6 {a0 a1 a2 a3 a4 a5 : Slot} {x : Slot} {r : Ro} : (6 < List.length (a0 :: a1 :: a2 :: a3 :: a4 :: a5 :: x :: r)) = True := by simp
theorem xa_6 {a0 a1 a2 a3 a4 a5 : Slot} {x y : Slot} {r : Ro} : assn (.nm 6) y (a0 :: a1 :: a2 :: a3 :: a4 :: a5 :: x :: r) = some (a0 :: a1 :: a2 :: a3 :: a4 :: a5 :: y :: r) := by unfold assn; rw [if_pos (by simp)]; rfl
theorem xr_F6 {a0 a1 a2 a3 a4 a5 : Slot} {v : Val} {r : Ro} {T : Tab} {cal mkc : Cal} {Q : Fl → Ro → Prop} : Wp (evS T cal mkc (.ret (.v 6)) (a0 :: a1 :: a2 :: a3 :: a4 :: a5 :: .fz v :: r)) (c := ⟨Q⟩) ↔ Q (.rt (.fz v)) (a0 :: a1 :: a2 :: a3 :: a4 :: a5 :: .fz v :: r) := v_pur
theorem xr_O6 {a0 a1 a2 a3 a4 a5 : Slot} {v : Val} {r : Ro} {T : Tab} {cal mkc : Cal} {Q : Fl → Ro → Prop} : Wp (evS T cal mkc (.ret (.v 6)) (a0 :: a1 :: a2 :: a3 :: a4 :: a5 :: .ow v :: r)) (c := ⟨Q⟩) ↔ Q (.rt (.ow v)) (a0 :: a1 :: a2 :: a3 :: a4 :: a5 :: .un :: r) := v_pur
theorem xc_6 {a0 a1 a2 a3 a4 a5 : Slot} {v : Val} {r : Ro} {P : Slot → Prop} : Op (Arg.slot (a0 :: a1 :: a2 :: a3 :: a4 :: a5 :: .ow v :: r) (.io 6)) (c := ⟨P⟩) ↔ P (.ow v) := u_some
theorem xg_6 {a0 a1 a2 a3 a4 a5 : Slot} {x : Slot} {r : Ro} : (a0 :: a1 :: a2 :: a3 :: a4 :: a5 :: x :: r)[6]? = some x := rfl
theorem xs_F7 {a0 a1 a2 a3 a4 a5 a6 : Slot} {v : Val} {r : Ro} {Q : Slot → Ro → Prop} : Wp (slotAt 7 (a0 :: a1 :: a2 :: a3 :: a4 :: a5 :: a6 :: .fz v :: r)) (c := ⟨Q⟩) ↔ Q (.fz v) (a0 :: a1 :: a2 :: a3 :: a4 :: a5 :: a6 :: .fz v :: r) := v_pur
theorem xs_O7 {a0 a1 a2 a3 a4 a5 a6 : Slot} {v : Val} {r : Ro} {Q : Slot → Ro → Prop} : Wp (slotAt 7 (a0 :: a1 :: a2 :: a3 :: a4 :: a5 :: a6 :: .ow v :: r)) (c := ⟨Q⟩) ↔ Q (.fz v) (a0 :: a1 :: a2 :: a3 :: a4 :: a5 :: a6 :: .fz v :: r) := v_pur
theorem xp_F7 {a0 a1 a2 a3 a4 a5 a6 : Slot} {v : Val} {r : Ro} {m : Ro → Res Slot} {Q : Opd → Ro → Prop} : Wp (opnd (.v 7) m (a0 :: a1 :: a2 :: a3 :: a4 :: a5 :: a6 :: .fz v :: r)) (c := ⟨Q⟩) ↔ Q (.pl 7) (a0 :: a1 :: a2 :: a3 :: a4 :: a5 :: a6 :: .fz v :: r) := v_pur
theorem xp_O7 {a0 a1 a2 a3 a4 a5 a6 : Slot} {v : Val} {r : Ro} {m : Ro → Res Slot} {Q : Opd → Ro → Prop} : Wp (opnd (.v 7) m (a0 :: a1 :: a2 :: a3 :: a4 :: a5 :: a6 :: .ow v :: r)) (c := ⟨Q⟩) ↔ Q (.pl 7) (a0 :: a1 :: a2 :: a3 :: a4 :: a5 :: a6 :: .ow v :: r) := v_pur
theorem xv_F7 {a0 a1 a2 a3 a4 a5 a6 : Slot} {v : Val} {r : Ro} {P : Val → Prop} : Op (Opd.val (.pl 7) (a0 :: a1 :: a2 :: a3 :: a4 :: a5 :: a6 :: .fz v :: r)) (c := ⟨P⟩) ↔ P v := u_some
theorem xv_O7 {a0 a1 a2 a3 a4 a5 a6 : Slot} {v : Val} {r : Ro} {P : Val → Prop} : Op (Opd.val (.pl 7) (a0 :: a1 :: a2 :: a3 :: a4 :: a5 :: a6 :: .ow v :: r)) (c := ⟨P⟩) ↔ P v := u_some
theorem xx_F7 {a0 a1 a2 a3 a4 a5 a6 : Slot} {v : Val} {r : Ro} : Opd.val (.pl 7) (a0 :: a1 :: a2 :: a3 :: a4 :: a5 :: a6 :: .fz v :: r) = some v := rfl
theorem xx_O7 {a0 a1 a2 a3 a4 a5 a6 : Slot} {v : Val} {r : Ro} : Opd.val (.pl 7) (a0 :: a1 :: a2 :: a3 :: a4 :: a5 :: a6 :: .ow v :: r) = some v := rfl
theorem xw_F7 {a0 a1 a2 a3 a4 a5 a6 : Slot} {v : Val} {r : Ro} {P : Val → Prop} : Op (valAt 7 (a0 :: a1 :: a2 :: a3 :: a4 :: a5 :: a6 :: .fz v :: r)) (c := ⟨P⟩) ↔ P v := u_some
theorem xw_O7 {a0 a1 a2 a3 a4 a5 a6 : Slot} {v : Val} {r : Ro} {P : Val → Prop} : Op (valAt 7 (a0 :: a1 :: a2 :: a3 :: a4 :: a5 :: a6 :: .ow v :: r)) (c := ⟨P⟩) ↔ P v := u_some
theorem xo_7 {a0 a1 a2 a3 a4 a5 a6 : Slot} {v : Val} {r : Ro} : ownAt 7 (a0 :: a1 :: a2 :: a3 :: a4 :: a5 :: a6 :: .ow v :: r) = some v := rfl
theorem xt_7 {a0 a1 a2 a3 a4 a5 a6 : Slot} {x y : Slot} {r : Ro} : List.set (a0 :: a1 :: a2 :: a3 :: a4 :: a5 :: a6 :: x :: r) 7 y = (a0 :: a1 :: a2 :: a3 :: a4 :: a5 :: a6 :: y :: r) := rfl
theorem xl_7 {a0 a1 a2 a3 a4 a5 a6 : Slot} {x : Slot} {r : Ro} : (7 < List.length (a0 :: a1 :: a2 :: a3 :: a4 :: a5 :: a6 :: x :: r)) = True := by simp
theorem xa_7 {a0 a1 a2 a3 a4 a5 a6 : Slot} {x y : Slot} {r : Ro} : assn (.nm 7) y (a0 :: a1 :: a2 :: a3 :: a4 :: a5 :: a6 :: x :: r) = some (a0 :: a1 :: a2 :: a3 :: a4 :: a5 :: a6 :: y :: r) := by unfold assn; rw [if_pos (by simp)]; rfl
theorem xr_F7 {a0 a1 a2 a3 a4 a5 a6 : Slot} {v : Val} {r : Ro} {T : Tab} {cal mkc : Cal} {Q : Fl → Ro → Prop} : Wp (evS T cal mkc (.ret (.v 7)) (a0 :: a1 :: a2 :: a3 :: a4 :: a5 :: a6 :: .fz v :: r)) (c := ⟨Q⟩) ↔ Q (.rt (.fz v)) (a0 :: a1 :: a2 :: a3 :: a4 :: a5 :: a6 :: .fz v :: r) := v_pur
theorem xr_O7 {a0 a1 a2 a3 a4 a5 a6 : Slot} {v : Val} {r : Ro} {T : Tab} {cal mkc : Cal} {Q : Fl → Ro → Prop} : Wp (evS T cal mkc (.ret (.v 7)) (a0 :: a1 :: a2 :: a3 :: a4 :: a5 :: a6 :: .ow v :: r)) (c := ⟨Q⟩) ↔ Q (.rt (.ow v)) (a0 :: a1 :: a2 :: a3 :: a4 :: a5 :: a6 :: .un :: r) := v_pur
theorem xc_7 {a0 a1 a2 a3 a4 a5 a6 : Slot} {v : Val} {r : Ro} {P : Slot → Prop} : Op (Arg.slot (a0 :: a1 :: a2 :: a3 :: a4 :: a5 :: a6 :: .ow v :: r) (.io 7)) (c := ⟨P⟩) ↔ P (.ow v) := u_some
theorem xg_7 {a0 a1 a2 a3 a4 a5 a6 : Slot} {x : Slot} {r : Ro} : (a0 :: a1 :: a2 :: a3 :: a4 :: a5 :: a6 :: x :: r)[7]? = some x := rfl
theorem xs_F8 {a0 a1 a2 a3 a4 a5 a6 a7 : Slot} {v : Val} {r : Ro} {Q : Slot → Ro → Prop} : Wp (slotAt 8 (a0 :: a1 :: a2 :: a3 :: a4 :: a5 :: a6 :: a7 :: .fz v :: r)) (c := ⟨Q⟩) ↔ Q (.fz v) (a0 :: a1 :: a2 :: a3 :: a4 :: a5 :: a6 :: a7 :: .fz v :: r) := v_pur
theorem xs_O8 {a0 a1 a2 a3 a4 a5 a6 a7 : Slot} {v : Val} {r : Ro} {Q : Slot → Ro → Prop} : Wp (slotAt 8 (a0 :: a1 :: a2 :: a3 :: a4 :: a5 :: a6 :: a7 :: .ow v :: r)) (c := ⟨Q⟩) ↔ Q (.fz v) (a0 :: a1 :: a2 :: a3 :: a4 :: a5 :: a6 :: a7 :: .fz v :: r) := v_pur
theorem xp_F8 {a0 a1 a2 a3 a4 a5 a6 a7 : Slot} {v : Val} {r : Ro} {m : Ro → Res Slot} {Q : Opd → Ro → Prop} : Wp (opnd (.v 8) m (a0 :: a1 :: a2 :: a3 :: a4 :: a5 :: a6 :: a7 :: .fz v :: r)) (c := ⟨Q⟩) ↔ Q (.pl 8) (a0 :: a1 :: a2 :: a3 :: a4 :: a5 :: a6 :: a7 :: .fz v :: r) := v_pur
theorem xp_O8 {a0 a1 a2 a3 a4 a5 a6 a7 : Slot} {v : Val} {r : Ro} {m : Ro → Res Slot} {Q : Opd → Ro → Prop} : Wp (opnd (.v 8) m (a0 :: a1 :: a2 :: a3 :: a4 :: a5 :: a6 :: a7 :: .ow v :: r)) (c := ⟨Q⟩) ↔ Q (.pl 8) (a0 :: a1 :: a2 :: a3 :: a4 :: a5 :: a6 :: a7 :: .ow v :: r) := v_pur
theorem xv_F8 {a0 a1 a2 a3 a4 a5 a6 a7 : Slot} {v : Val} {r : Ro} {P : Val → Prop} : Op (Opd.val (.pl 8) (a0 :: a1 :: a2 :: a3 :: a4 :: a5 :: a6 :: a7 :: .fz v :: r)) (c := ⟨P⟩) ↔ P v := u_some
theorem xv_O8 {a0 a1 a2 a3 a4 a5 a6 a7 : Slot} {v : Val} {r : Ro} {P : Val → Prop} : Op (Opd.val (.pl 8) (a0 :: a1 :: a2 :: a3 :: a4 :: a5 :: a6 :: a7 :: .ow v :: r)) (c := ⟨P⟩) ↔ P v := u_some
theorem xx_F8 {a0 a1 a2 a3 a4 a5 a6 a7 : Slot} {v : Val} {r : Ro} : Opd.val (.pl 8) (a0 :: a1 :: a2 :: a3 :: a4 :: a5 :: a6 :: a7 :: .fz v :: r) = some v := rfl
theorem xx_O8 {a0 a1 a2 a3 a4 a5 a6 a7 : Slot} {v : Val} {r : Ro} : Opd.val (.pl 8) (a0 :: a1 :: a2 :: a3 :: a4 :: a5 :: a6 :: a7 :: .ow v :: r) = some v := rfl
theorem xw_F8 {a0 a1 a2 a3 a4 a5 a6 a7 : Slot} {v : Val} {r : Ro} {P : Val → Prop} : Op (valAt 8 (a0 :: a1 :: a2 :: a3 :: a4 :: a5 :: a6 :: a7 :: .fz v :: r)) (c := ⟨P⟩) ↔ P v := u_some
theorem xw_O8 {a0 a1 a2 a3 a4 a5 a6 a7 : Slot} {v : Val} {r : Ro} {P : Val → Prop} : Op (valAt 8 (a0 :: a1 :: a2 :: a3 :: a4 :: a5 :: a6 :: a7 :: .ow v :: r)) (c := ⟨P⟩) ↔ P v := u_some
theorem xo_8 {a0 a1 a2 a3 a4 a5 a6 a7 : Slot} {v : Val} {r : Ro} : ownAt 8 (a0 :: a1 :: a2 :: a3 :: a4 :: a5 :: a6 :: a7 :: .ow v :: r) = some v := rfl
theorem xt_8 {a0 a1 a2 a3 a4 a5 a6 a7 : Slot} {x y : Slot} {r : Ro} : List.set (a0 :: a1 :: a2 :: a3 :: a4 :: a5 :: a6 :: a7 :: x :: r) 8 y = (a0 :: a1 :: a2 :: a3 :: a4 :: a5 :: a6 :: a7 :: y :: r) := rfl
theorem xl_8 {a0 a1 a2 a3 a4 a5 a6 a7 : Slot} {x : Slot} {r : Ro} : (8 < List.length (a0 :: a1 :: a2 :: a3 :: a4 :: a5 :: a6 :: a7 :: x :: r)) = True := by simp
theorem xa_8 {a0 a1 a2 a3 a4 a5 a6 a7 : Slot} {x y : Slot} {r : Ro} : assn (.nm 8) y (a0 :: a1 :: a2 :: a3 :: a4 :: a5 :: a6 :: a7 :: x :: r) = some (a0 :: a1 :: a2 :: a3 :: a4 :: a5 :: a6 :: a7 :: y :: r) := by unfold assn; rw [if_pos (by simp)]; rfl
theorem xr_F8 {a0 a1 a2 a3 a4 a5 a6 a7 : Slot} {v : Val} {r : Ro} {T : Tab} {cal mkc : Cal} {Q : Fl → Ro → Prop} : Wp (evS T cal mkc (.ret (.v 8)) (a0 :: a1 :: a2 :: a3 :: a4 :: a5 :: a6 :: a7 :: .fz v :: r)) (c := ⟨Q⟩) ↔ Q (.rt (.fz v)) (a0 :: a1 :: a2 :: a3 :: a4 :: a5 :: a6 :: a7 :: .fz v :: r) := v_pur
theorem xr_O8 {a0 a1 a2 a3 a4 a5 a6 a7 : Slot} {v : Val} {r : Ro} {T : Tab} {cal mkc : Cal} {Q : Fl → Ro → Prop} : Wp (evS T cal mkc (.ret (.v 8)) (a0 :: a1 :: a2 :: a3 :: a4 :: a5 :: a6 :: a7 :: .ow v :: r)) (c := ⟨Q⟩) ↔ Q (.rt (.ow v)) (a0 :: a1 :: a2 :: a3 :: a4 :: a5 :: a6 :: a7 :: .un :: r) := v_pur
theorem xc_8 {a0 a1 a2 a3 a4 a5 a6 a7 : Slot} {v : Val} {r : Ro} {P : Slot → Prop} : Op (Arg.slot (a0 :: a1 :: a2 :: a3 :: a4 :: a5 :: a6 :: a7 :: .ow v :: r) (.io 8)) (c := ⟨P⟩) ↔ P (.ow v) := u_some
theorem xg_8 {a0 a1 a2 a3 a4 a5 a6 a7 : Slot} {x : Slot} {r : Ro} : (a0 :: a1 :: a2 :: a3 :: a4 :: a5 :: a6 :: a7 :: x :: r)[8]? = some x := rfl
theorem xs_F9 {a0 a1 a2 a3 a4 a5 a6 a7 a8 : Slot} {v : Val} {r : Ro} {Q : Slot → Ro → Prop} : Wp (slotAt 9 (a0 :: a1 :: a2 :: a3 :: a4 :: a5 :: a6 :: a7 :: a8 :: .fz v :: r)) (c := ⟨Q⟩) ↔ Q (.fz v) (a0 :: a1 :: a2 :: a3 :: a4 :: a5 :: a6 :: a7 :: a8 :: .fz v :: r) := v_pur
theorem xs_O9 {a0 a1 a2 a3 a4 a5 a6 a7 a8 : Slot} {v : Val} {r : Ro} {Q : Slot → Ro → Prop} : Wp (slotAt 9 (a0 :: a1 :: a2 :: a3 :: a4 :: a5 :: a6 :: a7 :: a8 :: .ow v :: r)) (c := ⟨Q⟩) ↔ Q (.fz v) (a0 :: a1 :: a2 :: a3 :: a4 :: a5 :: a6 :: a7 :: a8 :: .fz v :: r) := v_pur
theorem xp_F9 {a0 a1 a2 a3 a4 a5 a6 a7 a8 : Slot} {v : Val} {r : Ro} {m : Ro → Res Slot} {Q : Opd → Ro → Prop} : Wp (opnd (.v 9) m (a0 :: a1 :: a2 :: a3 :: a4 :: a5 :: a6 :: a7 :: a8 :: .fz v :: r)) (c := ⟨Q⟩) ↔ Q (.pl 9) (a0 :: a1 :: a2 :: a3 :: a4 :: a5 :: a6 :: a7 :: a8 :: .fz v :: r) := v_pur
theorem xp_O9 {a0 a1 a2 a3 a4 a5 a6 a7 a8 : Slot} {v : Val} {r : Ro} {m : Ro → Res Slot} {Q : Opd → Ro → Prop} : Wp (opnd (.v 9) m (a0 :: a1 :: a2 :: a3 :: a4 :: a5 :: a6 :: a7 :: a8 :: .ow v :: r)) (c := ⟨Q⟩) ↔ Q (.pl 9) (a0 :: a1 :: a2 :: a3 :: a4 :: a5 :: a6 :: a7 :: a8 :: .ow v :: r) := v_pur
theorem xv_F9 {a0 a1 a2 a3 a4 a5 a6 a7 a8 : Slot} {v : Val} {r : Ro} {P : Val → Prop} : Op (Opd.val (.pl 9) (a0 :: a1 :: a2 :: a3 :: a4 :: a5 :: a6 :: a7 :: a8 :: .fz v :: r)) (c := ⟨P⟩) ↔ P v := u_some
theorem xv_O9 {a0 a1 a2 a3 a4 a5 a6 a7 a8 : Slot} {v : Val} {r : Ro} {P : Val → Prop} : Op (Opd.val (.pl 9) (a0 :: a1 :: a2 :: a3 :: a4 :: a5 :: a6 :: a7 :: a8 :: .ow v :: r)) (c := ⟨P⟩) ↔ P v := u_some
theorem xx_F9 {a0 a1 a2 a3 a4 a5 a6 a7 a8 : Slot} {v : Val} {r : Ro} : Opd.val (.pl 9) (a0 :: a1 :: a2 :: a3 :: a4 :: a5 :: a6 :: a7 :: a8 :: .fz v :: r) = some v := rfl
theorem xx_O9 {a0 a1 a2 a3 a4 a5 a6 a7 a8 : Slot} {v : Val} {r : Ro} : Opd.val (.pl 9) (a0 :: a1 :: a2 :: a3 :: a4 :: a5 :: a6 :: a7 :: a8 :: .ow v :: r) = some v := rfl
theorem xw_F9 {a0 a1 a2 a3 a4 a5 a6 a7 a8 : Slot} {v : Val} {r : Ro} {P : Val → Prop} : Op (valAt 9 (a0 :: a1 :: a2 :: a3 :: a4 :: a5 :: a6 :: a7 :: a8 :: .fz v :: r)) (c := ⟨P⟩) ↔ P v := u_some
theorem xw_O9 {a0 a1 a2 a3 a4 a5 a6 a7 a8 : Slot} {v : Val} {r : Ro} {P : Val → Prop} : Op (valAt 9 (a0 :: a1 :: a2 :: a3 :: a4 :: a5 :: a6 :: a7 :: a8 :: .ow v :: r)) (c := ⟨P⟩) ↔ P v := u_some
theorem xo_9 {a0 a1 a2 a3 a4 a5 a6 a7 a8 : Slot} {v : Val} {r : Ro} : ownAt 9 (a0 :: a1 :: a2 :: a3 :: a4 :: a5 :: a6 :: a7 :: a8 :: .ow v :: r) = some v := rfl
theorem xt_9 {a0 a1 a2 a3 a4 a5 a6 a7 a8 : Slot} {x y : Slot} {r : Ro} : List.set (a0 :: a1 :: a2 :: a3 :: a4 :: a5 :: a6 :: a7 :: a8 :: x :: r) 9 y = (a0 :: a1 :: a2 :: a3 :: a4 :: a5 :: a6 :: a7 :: a8 :: y :: r) := rfl
theorem xl_9 {a0 a1 a2 a3 a4 a5 a6 a7 a8 : Slot} {x : Slot} {r : Ro} : (9 < List.length (a0 :: a1 :: a2 :: a3 :: a4 :: a5 :: a6 :: a7 :: a8 :: x :: r)) = True := by simp
theorem xa_9 {a0 a1 a2 a3 a4 a5 a6 a7 a8 : Slot} {x y : Slot} {r : Ro} : assn (.nm 9) y (a0 :: a1 :: a2 :: a3 :: a4 :: a5 :: a6 :: a7 :: a8 :: x :: r) = some (a0 :: a1 :: a2 :: a3 :: a4 :: a5 :: a6 :: a7 :: a8 :: y :: r) := by unfold assn; rw [if_pos (by simp)]; rfl
theorem xr_F9 {a0 a1 a2 a3 a4 a5 a6 a7 a8 : Slot} {v : Val} {r : Ro} {T : Tab} {cal mkc : Cal} {Q : Fl → Ro → Prop} : Wp (evS T cal mkc (.ret (.v 9)) (a0 :: a1 :: a2 :: a3 :: a4 :: a5 :: a6 :: a7 :: a8 :: .fz v :: r)) (c := ⟨Q⟩) ↔ Q (.rt (.fz v)) (a0 :: a1 :: a2 :: a3 :: a4 :: a5 :: a6 :: a7 :: a8 :: .fz v :: r) := v_pur
theorem xr_O9 {a0 a1 a2 a3 a4 a5 a6 a7 a8 : Slot} {v : Val} {r : Ro} {T : Tab} {cal mkc : Cal} {Q : Fl → Ro → Prop} : Wp (evS T cal mkc (.ret (.v 9)) (a0 :: a1 :: a2 :: a3 :: a4 :: a5 :: a6 :: a7 :: a8 :: .ow v :: r)) (c := ⟨Q⟩) ↔ Q (.rt (.ow v)) (a0 :: a1 :: a2 :: a3 :: a4 :: a5 :: a6 :: a7 :: a8 :: .un :: r) := v_pur
theorem xc_9 {a0 a1 a2 a3 a4 a5 a6 a7 a8 : Slot} {v : Val} {r : Ro} {P : Slot → Prop} : Op (Arg.slot (a0 :: a1 :: a2 :: a3 :: a4 :: a5 :: a6 :: a7 :: a8 :: .ow v :: r) (.io 9)) (c := ⟨P⟩) ↔ P (.ow v) := u_some
theorem xg_9 {a0 a1 a2 a3 a4 a5 a6 a7 a8 : Slot} {x : Slot} {r : Ro} : (a0 :: a1 :: a2 :: a3 :: a4 :: a5 :: a6 :: a7 :: a8 :: x :: r)[9]? = some x := rfl
theorem xs_F10 {a0 a1 a2 a3 a4 a5 a6 a7 a8 a9 : Slot} {v : Val} {r : Ro} {Q : Slot → Ro → Prop} : Wp (slotAt 10 (a0 :: a1 :: a2 :: a3 :: a4 :: a5 :: a6 :: a7 :: a8 :: a9 :: .fz v :: r)) (c := ⟨Q⟩) ↔ Q (.fz v) (a0 :: a1 :: a2 :: a3 :: a4 :: a5 :: a6 :: a7 :: a8 :: a9 :: .fz v :: r) := v_pur
theorem xs_O10 {a0 a1 a2 a3 a4 a5 a6 a7 a8 a9 : Slot} {v : Val} {r : Ro} {Q : Slot → Ro → Prop} : Wp (slotAt 10 (a0 :: a1 :: a2 :: a3 :: a4 :: a5 :: a6 :: a7 :: a8 :: a9 :: .ow v :: r)) (c := ⟨Q⟩) ↔ Q (.fz v) (a0 :: a1 :: a2 :: a3 :: a4 :: a5 :: a6 :: a7 :: a8 :: a9 :: .fz v :: r) := v_pur
theorem xp_F10 {a0 a1 a2 a3 a4 a5 a6 a7 a8 a9 : Slot} {v : Val} {r : Ro} {m : Ro → Res Slot} {Q : Opd → Ro → Prop} : Wp (opnd (.v 10) m (a0 :: a1 :: a2 :: a3 :: a4 :: a5 :: a6 :: a7 :: a8 :: a9 :: .fz v :: r)) (c := ⟨Q⟩) ↔ Q (.pl 10) (a0 :: a1 :: a2 :: a3 :: a4 :: a5 :: a6 :: a7 :: a8 :: a9 :: .fz v :: r) := v_pur
theorem xp_O10 {a0 a1 a2 a3 a4 a5 a6 a7 a8 a9 : Slot} {v : Val} {r : Ro} {m : Ro → Res Slot} {Q : Opd → Ro → Prop} : Wp (opnd (.v 10) m (a0 :: a1 :: a2 :: a3 :: a4 :: a5 :: a6 :: a7 :: a8 :: a9 :: .ow v :: r)) (c := ⟨Q⟩) ↔ Q (.pl 10) (a0 :: a1 :: a2 :: a3 :: a4 :: a5 :: a6 :: a7 :: a8 :: a9 :: .ow v :: r) := v_pur
theorem xv_F10 {a0 a1 a2 a3 a4 a5 a6 a7 a8 a9 : Slot} {v : Val} {r : Ro} {P : Val → Prop} : Op (Opd.val (.pl 10) (a0 :: a1 :: a2 :: a3 :: a4 :: a5 :: a6 :: a7 :: a8 :: a9 :: .fz v :: r)) (c := ⟨P⟩) ↔ P v := u_some
theorem xv_O10 {a0 a1 a2 a3 a4 a5 a6 a7 a8 a9 : Slot} {v : Val} {r : Ro} {P : Val → Prop} : Op (Opd.val (.pl 10) (a0 :: a1 :: a2 :: a3 :: a4 :: a5 :: a6 :: a7 :: a8 :: a9 :: .ow v :: r)) (c := ⟨P⟩) ↔ P v := u_some
theorem xx_F10 {a0 a1 a2 a3 a4 a5 a6 a7 a8 a9 : Slot} {v : Val} {r : Ro} : Opd.val (.pl 10) (a0 :: a1 :: a2 :: a3 :: a4 :: a5 :: a6 :: a7 :: a8 :: a9 :: .fz v :: r) = some v := rfl
theorem xx_O10 {a0 a1 a2 a3 a4 a5 a6 a7 a8 a9 : Slot} {v : Val} {r : Ro} : Opd.val (.pl 10) (a0 :: a1 :: a2 :: a3 :: a4 :: a5 :: a6 :: a7 :: a8 :: a9 :: .ow v :: r) = some v := rfl
theorem xw_F10 {a0 a1 a2 a3 a4 a5 a6 a7 a8 a9 : Slot} {v : Val} {r : Ro} {P : Val → Prop} : Op (valAt 10 (a0 :: a1 :: a2 :: a3 :: a4 :: a5 :: a6 :: a7 :: a8 :: a9 :: .fz v :: r)) (c := ⟨P⟩) ↔ P v := u_some
theorem xw_O10 {a0 a1 a2 a3 a4 a5 a6 a7 a8 a9 : Slot} {v : Val} {r : Ro} {P : Val → Prop} : Op (valAt 10 (a0 :: a1 :: a2 :: a3 :: a4 :: a5 :: a6 :: a7 :: a8 :: a9 :: .ow v :: r)) (c := ⟨P⟩) ↔ P v := u_some
theorem xo_10 {a0 a1 a2 a3 a4 a5 a6 a7 a8 a9 : Slot} {v : Val} {r : Ro} : ownAt 10 (a0 :: a1 :: a2 :: a3 :: a4 :: a5 :: a6 :: a7 :: a8 :: a9 :: .ow v :: r) = some v := rfl
theorem xt_10 {a0 a1 a2 a3 a4 a5 a6 a7 a8 a9 : Slot} {x y : Slot} {r : Ro} : List.set (a0 :: a1 :: a2 :: a3 :: a4 :: a5 :: a6 :: a7 :: a8 :: a9 :: x :: r) 10 y = (a0 :: a1 :: a2 :: a3 :: a4 :: a5 :: a6 :: a7 :: a8 :: a9 :: y :: r) := rfl
theorem xl_10 {a0 a1 a2 a3 a4 a5 a6 a7 a8 a9 : Slot} {x : Slot} {r : Ro} : (10 < List.length (a0 :: a1 :: a2 :: a3 :: a4 :: a5 :: a6 :: a7 :: a8 :: a9 :: x :: r)) = True := by simp
theorem xa_10 {a0 a1 a2 a3 a4 a5 a6 a7 a8 a9 : Slot} {x y : Slot} {r : Ro} : assn (.nm 10) y (a0 :: a1 :: a2 :: a3 :: a4 :: a5 :: a6 :: a7 :: a8 :: a9 :: x :: r) = some (a0 :: a1 :: a2 :: a3 :: a4 :: a5 :: a6 :: a7 :: a8 :: a9 :: y :: r) := by unfold assn; rw [if_pos (by simp)]; rfl
theorem xr_F10 {a0 a1 a2 a3 a4 a5 a6 a7 a8 a9 : Slot} {v : Val} {r : Ro} {T : Tab} {cal mkc : Cal} {Q : Fl → Ro → Prop} : Wp (evS T cal mkc (.ret (.v 10)) (a0 :: a1 :: a2 :: a3 :: a4 :: a5 :: a6 :: a7 :: a8 :: a9 :: .fz v :: r)) (c := ⟨Q⟩) ↔ Q (.rt (.fz v)) (a0 :: a1 :: a2 :: a3 :: a4 :: a5 :: a6 :: a7 :: a8 :: a9 :: .fz v :: r) := v_pur
theorem xr_O10 {a0 a1 a2 a3 a4 a5 a6 a7 a8 a9 : Slot} {v : Val} {r : Ro} {T : Tab} {cal mkc : Cal} {Q : Fl → Ro → Prop} : Wp (evS T cal mkc (.ret (.v 10)) (a0 :: a1 :: a2 :: a3 :: a4 :: a5 :: a6 :: a7 :: a8 :: a9 :: .ow v :: r)) (c := ⟨Q⟩) ↔ Q (.rt (.ow v)) (a0 :: a1 :: a2 :: a3 :: a4 :: a5 :: a6 :: a7 :: a8 :: a9 :: .un :: r) := v_pur
theorem xc_10 {a0 a1 a2 a3 a4 a5 a6 a7 a8 a9 : Slot} {v : Val} {r : Ro} {P : Slot → Prop} : Op (Arg.slot (a0 :: a1 :: a2 :: a3 :: a4 :: a5 :: a6 :: a7 :: a8 :: a9 :: .ow v :: r) (.io 10)) (c := ⟨P⟩) ↔ P (.ow v) := u_some
theorem xg_10 {a0 a1 a2 a3 a4 a5 a6 a7 a8 a9 : Slot} {x : Slot} {r : Ro} : (a0 :: a1 :: a2 :: a3 :: a4 :: a5 :: a6 :: a7 :: a8 :: a9 :: x :: r)[10]? = some x := rfl
theorem xs_F11 {a0 a1 a2 a3 a4 a5 a6 a7 a8 a9 a10 : Slot} {v : Val} {r : Ro} {Q : Slot → Ro → Prop} : Wp (slotAt 11 (a0 :: a1 :: a2 :: a3 :: a4 :: a5 :: a6 :: a7 :: a8 :: a9 :: a10 :: .fz v :: r)) (c := ⟨Q⟩) ↔ Q (.fz v) (a0 :: a1 :: a2 :: a3 :: a4 :: a5 :: a6 :: a7 :: a8 :: a9 :: a10 :: .fz v :: r) := v_pur
theorem xs_O11 {a0 a1 a2 a3 a4 a5 a6 a7 a8 a9 a10 : Slot} {v : Val} {r : Ro} {Q : Slot → Ro → Prop} : Wp (slotAt 11 (a0 :: a1 :: a2 :: a3 :: a4 :: a5 :: a6 :: a7 :: a8 :: a9 :: a10 :: .ow v :: r)) (c := ⟨Q⟩) ↔ Q (.fz v) (a0 :: a1 :: a2 :: a3 :: a4 :: a5 :: a6 :: a7 :: a8 :: a9 :: a10 :: .fz v :: r) := v_pur
theorem xp_F11 {a0 a1 a2 a3 a4 a5 a6 a7 a8 a9 a10 : Slot} {v : Val} {r : Ro} {m : Ro → Res Slot} {Q : Opd → Ro → Prop} : Wp (opnd (.v 11) m (a0 :: a1 :: a2 :: a3 :: a4 :: a5 :: a6 :: a7 :: a8 :: a9 :: a10 :: .fz v :: r)) (c := ⟨Q⟩) ↔ Q (.pl 11) (a0 :: a1 :: a2 :: a3 :: a4 :: a5 :: a6 :: a7 :: a8 :: a9 :: a10 :: .fz v :: r) := v_pur
theorem xp_O11 {a0 a1 a2 a3 a4 a5 a6 a7 a8 a9 a10 : Slot} {v : Val} {r : Ro} {m : Ro → Res Slot} {Q : Opd → Ro → Prop} : Wp (opnd (.v 11) m (a0 :: a1 :: a2 :: a3 :: a4 :: a5 :: a6 :: a7 :: a8 :: a9 :: a10 :: .ow v :: r)) (c := ⟨Q⟩) ↔ Q (.pl 11) (a0 :: a1 :: a2 :: a3 :: a4 :: a5 :: a6 :: a7 :: a8 :: a9 :: a10 :: .ow v :: r) := v_pur
theorem xv_F11 {a0 a1 a2 a3 a4 a5 a6 a7 a8 a9 a10 : Slot} {v : Val} {r : Ro} {P : Val → Prop} : Op (Opd.val (.pl 11) (a0 :: a1 :: a2 :: a3 :: a4 :: a5 :: a6 :: a7 :: a8 :: a9 :: a10 :: .fz v :: r)) (c := ⟨P⟩) ↔ P v := u_some
theorem xv_O11 {a0 a1 a2 a3 a4 a5 a6 a7 a8 a9 a10 : Slot} {v : Val} {r : Ro} {P : Val → Prop} : Op (Opd.val (.pl 11) (a0 :: a1 :: a2 :: a3 :: a4 :: a5 :: a6 :: a7 :: a8 :: a9 :: a10 :: .ow v :: r)) (c := ⟨P⟩) ↔ P v := u_some
theorem xx_F11 {a0 a1 a2 a3 a4 a5 a6 a7 a8 a9 a10 : Slot} {v : Val} {r : Ro} : Opd.val (.pl 11) (a0 :: a1 :: a2 :: a3 :: a4 :: a5 :: a6 :: a7 :: a8 :: a9 :: a10 :: .fz v :: r) = some v := rfl
theorem xx_O11 {a0 a1 a2 a3 a4 a5 a6 a7 a8 a9 a10 : Slot} {v : Val} {r : Ro} : Opd.val (.pl 11) (a0 :: a1 :: a2 :: a3 :: a4 :: a5 :: a6 :: a7 :: a8 :: a9 :: a10 :: .ow v :: r) = some v := rfl
theorem xw_F11 {a0 a1 a2 a3 a4 a5 a6 a7 a8 a9 a10 : Slot} {v : Val} {r : Ro} {P : Val → Prop} : Op (valAt 11 (a0 :: a1 :: a2 :: a3 :: a4 :: a5 :: a6 :: a7 :: a8 :: a9 :: a10 :: .fz v :: r)) (c := ⟨P⟩) ↔ P v := u_some
theorem xw_O11 {a0 a1 a2 a3 a4 a5 a6 a7 a8 a9 a10 : Slot} {v : Val} {r : Ro} {P : Val → Prop} : Op (valAt 11 (a0 :: a1 :: a2 :: a3 :: a4 :: a5 :: a6 :: a7 :: a8 :: a9 :: a10 :: .ow v :: r)) (c := ⟨P⟩) ↔ P v := u_some
theorem xo_11 {a0 a1 a2 a3 a4 a5 a6 a7 a8 a9 a10 : Slot} {v : Val} {r : Ro} : ownAt 11 (a0 :: a1 :: a2 :: a3 :: a4 :: a5 :: a6 :: a7 :: a8 :: a9 :: a10 :: .ow v :: r) = some v := rfl
theorem xt_11 {a0 a1 a2 a3 a4 a5 a6 a7 a8 a9 a10 : Slot} {x y : Slot} {r : Ro} : List.set (a0 :: a1 :: a2 :: a3 :: a4 :: a5 :: a6 :: a7 :: a8 :: a9 :: a10 :: x :: r) 11 y = (a0 :: a1 :: a2 :: a3 :: a4 :: a5 :: a6 :: a7 :: a8 :: a9 :: a10 :: y :: r) := rfl
theorem xl_11 {a0 a1 a2 a3 a4 a5 a6 a7 a8 a9 a10 : Slot} {x : Slot} {r : Ro} : (11 < List.length (a0 :: a1 :: a2 :: a3 :: a4 :: a5 :: a6 :: a7 :: a8 :: a9 :: a10 :: x :: r)) = True := by simp
theorem xa_11 {a0 a1 a2 a3 a4 a5 a6 a7 a8 a9 a10 : Slot} {x y : Slot} {r : Ro} : assn (.nm 11) y (a0 :: a1 :: a2 :: a3 :: a4 :: a5 :: a6 :: a7 :: a8 :: a9 :: a10 :: x :: r) = some (a0 :: a1 :: a2 :: a3 :: a4 :: a5 :: a6 :: a7 :: a8 :: a9 :: a10 :: y :: r) := by unfold assn; rw [if_pos (by simp)]; rfl
theorem xr_F11 {a0 a1 a2 a3 a4 a5 a6 a7 a8 a9 a10 : Slot} {v : Val} {r : Ro} {T : Tab} {cal mkc : Cal} {Q : Fl → Ro → Prop} : Wp (evS T cal mkc (.ret (.v 11)) (a0 :: a1 :: a2 :: a3 :: a4 :: a5 :: a6 :: a7 :: a8 :: a9 :: a10 :: .fz v :: r)) (c := ⟨Q⟩) ↔ Q (.rt (.fz v)) (a0 :: a1 :: a2 :: a3 :: a4 :: a5 :: a6 :: a7 :: a8 :: a9 :: a10 :: .fz v :: r) := v_pur
theorem xr_O11 {a0 a1 a2 a3 a4 a5 a6 a7 a8 a9 a10 : Slot} {v : Val} {r : Ro} {T : Tab} {cal mkc : Cal} {Q : Fl → Ro → Prop} : Wp (evS T cal mkc (.ret (.v 11)) (a0 :: a1 :: a2 :: a3 :: a4 :: a5 :: a6 :: a7 :: a8 :: a9 :: a10 :: .ow v :: r)) (c := ⟨Q⟩) ↔ Q (.rt (.ow v)) (a0 :: a1 :: a2 :: a3 :: a4 :: a5 :: a6 :: a7 :: a8 :: a9 :: a10 :: .un :: r) := v_pur
theorem xc_11 {a0 a1 a2 a3 a4 a5 a6 a7 a8 a9 a10 : Slot} {v : Val} {r : Ro} {P : Slot → Prop} : Op (Arg.slot (a0 :: a1 :: a2 :: a3 :: a4 :: a5 :: a6 :: a7 :: a8 :: a9 :: a10 :: .ow v :: r) (.io 11)) (c := ⟨P⟩) ↔ P (.ow v) := u_some
theorem xg_11 {a0 a1 a2 a3 a4 a5 a6 a7 a8 a9 a10 : Slot} {x : Slot} {r : Ro} : (a0 :: a1 :: a2 :: a3 :: a4 :: a5 :: a6 :: a7 :: a8 :: a9 :: a10 :: x :: r)[11]? = some x := rfl
theorem xs_F12 {a0 a1 a2 a3 a4 a5 a6 a7 a8 a9 a10 a11 : Slot} {v : Val} {r : Ro} {Q : Slot → Ro → Prop} : Wp (slotAt 12 (a0 :: a1 :: a2 :: a3 :: a4 :: a5 :: a6 :: a7 :: a8 :: a9 :: a10 :: a11 :: .fz v :: r)) (c := ⟨Q⟩) ↔ Q (.fz v) (a0 :: a1 :: a2 :: a3 :: a4 :: a5 :: a6 :: a7 :: a8 :: a9 :: a10 :: a11 :: .fz v :: r) := v_pur
theorem xs_O12 {a0 a1 a2 a3 a4 a5 a6 a7 a8 a9 a10 a11 : Slot} {v : Val} {r : Ro} {Q : Slot → Ro → Prop} : Wp (slotAt 12 (a0 :: a1 :: a2 :: a3 :: a4 :: a5 :: a6 :: a7 :: a8 :: a9 :: a10 :: a11 :: .ow v :: r)) (c := ⟨Q⟩) ↔ Q (.fz v) (a0 :: a1 :: a2 :: a3 :: a4 :: a5 :: a6 :: a7 :: a8 :: a9 :: a10 :: a11 :: .fz v :: r) := v_pur
theorem xp_F12 {a0 a1 a2 a3 a4 a5 a6 a7 a8 a9 a10 a11 : Slot} {v : Val} {r : Ro} {m : Ro → Res Slot} {Q : Opd → Ro → Prop} : Wp (opnd (.v 12) m (a0 :: a1 :: a2 :: a3 :: a4 :: a5 :: a6 :: a7 :: a8 :: a9 :: a10 :: a11 :: .fz v :: r)) (c := ⟨Q⟩) ↔ Q (.pl 12) (a0 :: a1 :: a2 :: a3 :: a4 :: a5 :: a6 :: a7 :: a8 :: a9 :: a10 :: a11 :: .fz v :: r) := v_pur
theorem xp_O12 {a0 a1 a2 a3 a4 a5 a6 a7 a8 a9 a10 a11 : Slot} {v : Val} {r : Ro} {m : Ro → Res Slot} {Q : Opd → Ro → Prop} : Wp (opnd (.v 12) m (a0 :: a1 :: a2 :: a3 :: a4 :: a5 :: a6 :: a7 :: a8 :: a9 :: a10 :: a11 :: .ow v :: r)) (c := ⟨Q⟩) ↔ Q (.pl 12) (a0 :: a1 :: a2 :: a3 :: a4 :: a5 :: a6 :: a7 :: a8 :: a9 :: a10 :: a11 :: .ow v :: r) := v_pur
theorem xv_F12 {a0 a1 a2 a3 a4 a5 a6 a7 a8 a9 a10 a11 : Slot} {v : Val} {r : Ro} {P : Val → Prop} : Op (Opd.val (.pl 12) (a0 :: a1 :: a2 :: a3 :: a4 :: a5 :: a6 :: a7 :: a8 :: a9 :: a10 :: a11 :: .fz v :: r)) (c := ⟨P⟩) ↔ P v := u_some
theorem xv_O12 {a0 a1 a2 a3 a4 a5 a6 a7 a8 a9 a10 a11 : Slot} {v : Val} {r : Ro} {P : Val → Prop} : Op (Opd.val (.pl 12) (a0 :: a1 :: a2 :: a3 :: a4 :: a5 :: a6 :: a7 :: a8 :: a9 :: a10 :: a11 :: .ow v :: r)) (c := ⟨P⟩) ↔ P v := u_some
theorem xx_F12 {a0 a1 a2 a3 a4 a5 a6 a7 a8 a9 a10 a11 : Slot} {v : Val} {r : Ro} : Opd.val (.pl 12) (a0 :: a1 :: a2 :: a3 :: a4 :: a5 :: a6 :: a7 :: a8 :: a9 :: a10 :: a11 :: .fz v :: r) = some v := rfl
theorem xx_O12 {a0 a1 a2 a3 a4 a5 a6 a7 a8 a9 a10 a11 : Slot} {v : Val} {r : Ro} : Opd.val (.pl 12) (a0 :: a1 :: a2 :: a3 :: a4 :: a5 :: a6 :: a7 :: a8 :: a9 :: a10 :: a11 :: .ow v :: r) = some v := rfl
theorem xw_F12 {a0 a1 a2 a3 a4 a5 a6 a7 a8 a9 a10 a11 : Slot} {v : Val} {r : Ro} {P : Val → Prop} : Op (valAt 12 (a0 :: a1 :: a2 :: a3 :: a4 :: a5 :: a6 :: a7 :: a8 :: a9 :: a10 :: a11 :: .fz v :: r)) (c := ⟨P⟩) ↔ P v := u_some
theorem xw_O12 {a0 a1 a2 a3 a4 a5 a6 a7 a8 a9 a10 a11 : Slot} {v : Val} {r : Ro} {P : Val → Prop} : Op (valAt 12 (a0 :: a1 :: a2 :: a3 :: a4 :: a5 :: a6 :: a7 :: a8 :: a9 :: a10 :: a11 :: .ow v :: r)) (c := ⟨P⟩) ↔ P v := u_some
theorem xo_12 {a0 a1 a2 a3 a4 a5 a6 a7 a8 a9 a10 a11 : Slot} {v : Val} {r : Ro} : ownAt 12 (a0 :: a1 :: a2 :: a3 :: a4 :: a5 :: a6 :: a7 :: a8 :: a9 :: a10 :: a11 :: .ow v :: r) = some v := rfl
theorem xt_12 {a0 a1 a2 a3 a4 a5 a6 a7 a8 a9 a10 a11 : Slot} {x y : Slot} {r : Ro} : List.set (a0 :: a1 :: a2 :: a3 :: a4 :: a5 :: a6 :: a7 :: a8 :: a9 :: a10 :: a11 :: x :: r) 12 y = (a0 :: a1 :: a2 :: a3 :: a4 :: a5 :: a6 :: a7 :: a8 :: a9 :: a10 :: a11 :: y :: r) := rfl
theorem xl_12 {a0 a1 a2 a3 a4 a5 a6 a7 a8 a9 a10 a11 : Slot} {x : Slot} {r : Ro} : (12 < List.length (a0 :: a1 :: a2 :: a3 :: a4 :: a5 :: a6 :: a7 :: a8 :: a9 :: a10 :: a11 :: x :: r)) = True := by simp
theorem xa_12 {a0 a1 a2 a3 a4 a5 a6 a7 a8 a9 a10 a11 : Slot} {x y : Slot} {r : Ro} : assn (.nm 12) y (a0 :: a1 :: a2 :: a3 :: a4 :: a5 :: a6 :: a7 :: a8 :: a9 :: a10 :: a11 :: x :: r) = some (a0 :: a1 :: a2 :: a3 :: a4 :: a5 :: a6 :: a7 :: a8 :: a9 :: a10 :: a11 :: y :: r) := by unfold assn; rw [if_pos (by simp)]; rfl
theorem xr_F12 {a0 a1 a2 a3 a4 a5 a6 a7 a8 a9 a10 a11 : Slot} {v : Val} {r : Ro} {T : Tab} {cal mkc : Cal} {Q : Fl → Ro → Prop} : Wp (evS T cal mkc (.ret (.v 12)) (a0 :: a1 :: a2 :: a3 :: a4 :: a5 :: a6 :: a7 :: a8 :: a9 :: a10 :: a11 :: .fz v :: r)) (c := ⟨Q⟩) ↔ Q (.rt (.fz v)) (a0 :: a1 :: a2 :: a3 :: a4 :: a5 :: a6 :: a7 :: a8 :: a9 :: a10 :: a11 :: .fz v :: r) := v_pur
theorem xr_O12 {a0 a1 a2 a3 a4 a5 a6 a7 a8 a9 a10 a11 : Slot} {v : Val} {r : Ro} {T : Tab} {cal mkc : Cal} {Q : Fl → Ro → Prop} : Wp (evS T cal mkc (.ret (.v 12)) (a0 :: a1 :: a2 :: a3 :: a4 :: a5 :: a6 :: a7 :: a8 :: a9 :: a10 :: a11 :: .ow v :: r)) (c := ⟨Q⟩) ↔ Q (.rt (.ow v)) (a0 :: a1 :: a2 :: a3 :: a4 :: a5 :: a6 :: a7 :: a8 :: a9 :: a10 :: a11 :: .un :: r) := v_pur
theorem xc_12 {a0 a1 a2 a3 a4 a5 a6 a7 a8 a9 a10 a11 : Slot} {v : Val} {r : Ro} {P : Slot → Prop} : Op (Arg.slot (a0 :: a1 :: a2 :: a3 :: a4 :: a5 :: a6 :: a7 :: a8 :: a9 :: a10 :: a11 :: .ow v :: r) (.io 12)) (c := ⟨P⟩) ↔ P (.ow v) := u_some
theorem xg_12 {a0 a1 a2 a3 a4 a5 a6 a7 a8 a9 a10 a11 : Slot} {x : Slot} {r : Ro} : (a0 :: a1 :: a2 :: a3 :: a4 :: a5 :: a6 :: a7 :: a8 :: a9 :: a10 :: a11 :: x :: r)[12]? = some x := rfl
theorem xs_F13 {a0 a1 a2 a3 a4 a5 a6 a7 a8 a9 a10 a11 a12 : Slot} {v : Val} {r : Ro} {Q : Slot → Ro → Prop} : Wp (slotAt 13 (a0 :: a1 :: a2 :: a3 :: a4 :: a5 :: a6 :: a7 :: a8 :: a9 :: a10 :: a11 :: a12 :: .fz v :: r)) (c := ⟨Q⟩) ↔ Q (.fz v) (a0 :: a1 :: a2 :: a3 :: a4 :: a5 :: a6 :: a7 :: a8 :: a9 :: a10 :: a11 :: a12 :: .fz v :: r) := v_pur
theorem xs_O13 {a0 a1 a2 a3 a4 a5 a6 a7 a8 a9 a10 a11 a12 : Slot} {v : Val} {r : Ro} {Q : Slot → Ro → Prop} : Wp (slotAt 13 (a0 :: a1 :: a2 :: a3 :: a4 :: a5 :: a6 :: a7 :: a8 :: a9 :: a10 :: a11 :: a12 :: .ow v :: r)) (c := ⟨Q⟩) ↔ Q (.fz v) (a0 :: a1 :: a2 :: a3 :: a4 :: a5 :: a6 :: a7 :: a8 :: a9 :: a10 :: a11 :: a12 :: .fz v :: r) := v_pur
theorem xp_F13 {a0 a1 a2 a3 a4 a5 a6 a7 a8 a9 a10 a11 a12 : Slot} {v : Val} {r : Ro} {m : Ro → Res Slot} {Q : Opd → Ro → Prop} : Wp (opnd (.v 13) m (a0 :: a1 :: a2 :: a3 :: a4 :: a5 :: a6 :: a7 :: a8 :: a9 :: a10 :: a11 :: a12 :: .fz v :: r)) (c := ⟨Q⟩) ↔ Q (.pl 13) (a0 :: a1 :: a2 :: a3 :: a4 :: a5 :: a6 :: a7 :: a8 :: a9 :: a10 :: a11 :: a12 :: .fz v :: r) := v_pur
theorem xp_O13 {a0 a1 a2 a3 a4 a5 a6 a7 a8 a9 a10 a11 a12 : Slot} {v : Val} {r : Ro} {m : Ro → Res Slot} {Q : Opd → Ro → Prop} : Wp (opnd (.v 13) m (a0 :: a1 :: a2 :: a3 :: a4 :: a5 :: a6 :: a7 :: a8 :: a9 :: a10 :: a11 :: a12 :: .ow v :: r)) (c := ⟨Q⟩) ↔ Q (.pl 13) (a0 :: a1 :: a2 :: a3 :: a4 :: a5 :: a6 :: a7 :: a8 :: a9 :: a10 :: a11 :: a12 :: .ow v :: r) := v_pur
theorem xv_F13 {a0 a1 a2 a3 a4 a5 a6 a7 a8 a9 a10 a11 a12 : Slot} {v : Val} {r : Ro} {P : Val → Prop} : Op (Opd.val (.pl 13) (a0 :: a1 :: a2 :: a3 :: a4 :: a5 :: a6 :: a7 :: a8 :: a9 :: a10 :: a11 :: a12 :: .fz v :: r)) (c := ⟨P⟩) ↔ P v := u_some
theorem xv_O13 {a0 a1 a2 a3 a4 a5 a6 a7 a8 a9 a10 a11 a12 : Slot} {v : Val} {r : Ro} {P : Val → Prop} : Op (Opd.val (.pl 13) (a0 :: a1 :: a2 :: a3 :: a4 :: a5 :: a6 :: a7 :: a8 :: a9 :: a10 :: a11 :: a12 :: .ow v :: r)) (c := ⟨P⟩) ↔ P v := u_some
theorem xx_F13 {a0 a1 a2 a3 a4 a5 a6 a7 a8 a9 a10 a11 a12 : Slot} {v : Val} {r : Ro} : Opd.val (.pl 13) (a0 :: a1 :: a2 :: a3 :: a4 :: a5 :: a6 :: a7 :: a8 :: a9 :: a10 :: a11 :: a12 :: .fz v :: r) = some v := rfl
theorem xx_O13 {a0 a1 a2 a3 a4 a5 a6 a7 a8 a9 a10 a11 a12 : Slot} {v : Val} {r : Ro} : Opd.val (.pl 13) (a0 :: a1 :: a2 :: a3 :: a4 :: a5 :: a6 :: a7 :: a8 :: a9 :: a10 :: a11 :: a12 :: .ow v :: r) = some v := rfl
theorem xw_F13 {a0 a1 a2 a3 a4 a5 a6 a7 a8 a9 a10 a11 a12 : Slot} {v : Val} {r : Ro} {P : Val → Prop} : Op (valAt 13 (a0 :: a1 :: a2 :: a3 :: a4 :: a5 :: a6 :: a7 :: a8 :: a9 :: a10 :: a11 :: a12 :: .fz v :: r)) (c := ⟨P⟩) ↔ P v := u_some
theorem xw_O13 {a0 a1 a2 a3 a4 a5 a6 a7 a8 a9 a10 a11 a12 : Slot} {v : Val} {r : Ro} {P : Val → Prop} : Op (valAt 13 (a0 :: a1 :: a2 :: a3 :: a4 :: a5 :: a6 :: a7 :: a8 :: a9 :: a10 :: a11 :: a12 :: .ow v :: r)) (c := ⟨P⟩) ↔ P v := u_some
theorem xo_13 {a0 a1 a2 a3 a4 a5 a6 a7 a8 a9 a10 a11 a12 : Slot} {v : Val} {r : Ro} : ownAt 13 (a0 :: a1 :: a2 :: a3 :: a4 :: a5 :: a6 :: a7 :: a8 :: a9 :: a10 :: a11 :: a12 :: .ow v :: r) = some v := rfl
theorem xt_13 {a0 a1 a2 a3 a4 a5 a6 a7 a8 a9 a10 a11 a12 : Slot} {x y : Slot} {r : Ro} : List.set (a0 :: a1 :: a2 :: a3 :: a4 :: a5 :: a6 :: a7 :: a8 :: a9 :: a10 :: a11 :: a12 :: x :: r) 13 y = (a0 :: a1 :: a2 :: a3 :: a4 :: a5 :: a6 :: a7 :: a8 :: a9 :: a10 :: a11 :: a12 :: y :: r) := rfl
theorem xl_13 {a0 a1 a2 a3 a4 a5 a6 a7 a8 a9 a10 a11 a12 : Slot} {x : Slot} {r : Ro} : (13 < List.length (a0 :: a1 :: a2 :: a3 :: a4 :: a5 :: a6 :: a7 :: a8 :: a9 :: a10 :: a11 :: a12 :: x :: r)) = True := by simp
theorem xa_13 {a0 a1 a2 a3 a4 a5 a6 a7 a8 a9 a10 a11 a12 : Slot} {x y : Slot} {r : Ro} : assn (.nm 13) y (a0 :: a1 :: a2 :: a3 :: a4 :: a5 :: a6 :: a7 :: a8 :: a9 :: a10 :: a11 :: a12 :: x :: r) = some (a0 :: a1 :: a2 :: a3 :: a4 :: a5 :: a6 :: a7 :: a8 :: a9 :: a10 :: a11 :: a12 :: y :: r) := by unfold assn; rw [if_pos (by simp)]; rfl
theorem xr_F13 {a0 a1 a2 a3 a4 a5 a6 a7 a8 a9 a10 a11 a12 : Slot} {v : Val} {r : Ro} {T : Tab} {cal mkc : Cal} {Q : Fl → Ro → Prop} : Wp (evS T cal mkc (.ret (.v 13)) (a0 :: a1 :: a2 :: a3 :: a4 :: a5 :: a6 :: a7 :: a8 :: a9 :: a10 :: a11 :: a12 :: .fz v :: r)) (c := ⟨Q⟩) ↔ Q (.rt (.fz v)) (a0 :: a1 :: a2 :: a3 :: a4 :: a5 :: a6 :: a7 :: a8 :: a9 :: a10 :: a11 :: a12 :: .fz v :: r) := v_pur
theorem xr_O13 {a0 a1 a2 a3 a4 a5 a6 a7 a8 a9 a10 a11 a12 : Slot} {v : Val} {r : Ro} {T : Tab} {cal mkc : Cal} {Q : Fl → Ro → Prop} : Wp (evS T cal mkc (.ret (.v 13)) (a0 :: a1 :: a2 :: a3 :: a4 :: a5 :: a6 :: a7 :: a8 :: a9 :: a10 :: a11 :: a12 :: .ow v :: r)) (c := ⟨Q⟩) ↔ Q (.rt (.ow v)) (a0 :: a1 :: a2 :: a3 :: a4 :: a5 :: a6 :: a7 :: a8 :: a9 :: a10 :: a11 :: a12 :: .un :: r) := v_pur
theorem xc_13 {a0 a1 a2 a3 a4 a5 a6 a7 a8 a9 a10 a11 a12 : Slot} {v : Val} {r : Ro} {P : Slot → Prop} : Op (Arg.slot (a0 :: a1 :: a2 :: a3 :: a4 :: a5 :: a6 :: a7 :: a8 :: a9 :: a10 :: a11 :: a12 :: .ow v :: r) (.io 13)) (c := ⟨P⟩) ↔ P (.ow v) := u_some
theorem xg_13 {a0 a1 a2 a3 a4 a5 a6 a7 a8 a9 a10 a11 a12 : Slot} {x : Slot} {r : Ro} : (a0 :: a1 :: a2 :: a3 :: a4 :: a5 :: a6 :: a7 :: a8 :: a9 :: a10 :: a11 :: a12 :: x :: r)[13]? = some x := rfl
theorem xs_F14 {a0 a1 a2 a3 a4 a5 a6 a7 a8 a9 a10 a11 a12 a13 : Slot} {v : Val} {r : Ro} {Q : Slot → Ro → Prop} : Wp (slotAt 14 (a0 :: a1 :: a2 :: a3 :: a4 :: a5 :: a6 :: a7 :: a8 :: a9 :: a10 :: a11 :: a12 :: a13 :: .fz v :: r)) (c := ⟨Q⟩) ↔ Q (.fz v) (a0 :: a1 :: a2 :: a3 :: a4 :: a5 :: a6 :: a7 :: a8 :: a9 :: a10 :: a11 :: a12 :: a13 :: .fz v :: r) := v_pur
theorem xs_O14 {a0 a1 a2 a3 a4 a5 a6 a7 a8 a9 a10 a11 a12 a13 : Slot} {v : Val} {r : Ro} {Q : Slot → Ro → Prop} : Wp (slotAt 14 (a0 :: a1 :: a2 :: a3 :: a4 :: a5 :: a6 :: a7 :: a8 :: a9 :: a10 :: a11 :: a12 :: a13 :: .ow v :: r)) (c := ⟨Q⟩) ↔ Q (.fz v) (a0 :: a1 :: a2 :: a3 :: a4 :: a5 :: a6 :: a7 :: a8 :: a9 :: a10 :: a11 :: a12 :: a13 :: .fz v :: r) := v_pur
theorem xp_F14 {a0 a1 a2 a3 a4 a5 a6 a7 a8 a9 a10 a11 a12 a13 : Slot} {v : Val} {r : Ro} {m : Ro → Res Slot} {Q : Opd → Ro → Prop} : Wp (opnd (.v 14) m (a0 :: a1 :: a2 :: a3 :: a4 :: a5 :: a6 :: a7 :: a8 :: a9 :: a10 :: a11 :: a12 :: a13 :: .fz v :: r)) (c := ⟨Q⟩) ↔ Q (.pl 14) (a0 :: a1 :: a2 :: a3 :: a4 :: a5 :: a6 :: a7 :: a8 :: a9 :: a10 :: a11 :: a12 :: a13 :: .fz v :: r) := v_pur
theorem xp_O14 {a0 a1 a2 a3 a4 a5 a6 a7 a8 a9 a10 a11 a12 a13 : Slot} {v : Val} {r : Ro} {m : Ro → Res Slot} {Q : Opd → Ro → Prop} : Wp (opnd (.v 14) m (a0 :: a1 :: a2 :: a3 :: a4 :: a5 :: a6 :: a7 :: a8 :: a9 :: a10 :: a11 :: a12 :: a13 :: .ow v :: r)) (c := ⟨Q⟩) ↔ Q (.pl 14) (a0 :: a1 :: a2 :: a3 :: a4 :: a5 :: a6 :: a7 :: a8 :: a9 :: a10 :: a11 :: a12 :: a13 :: .ow v :: r) := v_pur
theorem xv_F14 {a0 a1 a2 a3 a4 a5 a6 a7 a8 a9 a10 a11 a12 a13 : Slot} {v : Val} {r : Ro} {P : Val → Prop} : Op (Opd.val (.pl 14) (a0 :: a1 :: a2 :: a3 :: a4 :: a5 :: a6 :: a7 :: a8 :: a9 :: a10 :: a11 :: a12 :: a13 :: .fz v :: r)) (c := ⟨P⟩) ↔ P v := u_some
theorem xv_O14 {a0 a1 a2 a3 a4 a5 a6 a7 a8 a9 a10 a11 a12 a13 : Slot} {v : Val} {r : Ro} {P : Val → Prop} : Op (Opd.val (.pl 14) (a0 :: a1 :: a2 :: a3 :: a4 :: a5 :: a6 :: a7 :: a8 :: a9 :: a10 :: a11 :: a12 :: a13 :: .ow v :: r)) (c := ⟨P⟩) ↔ P v := u_some
theorem xx_F14 {a0 a1 a2 a3 a4 a5 a6 a7 a8 a9 a10 a11 a12 a13 : Slot} {v : Val} {r : Ro} : Opd.val (.pl 14) (a0 :: a1 :: a2 :: a3 :: a4 :: a5 :: a6 :: a7 :: a8 :: a9 :: a10 :: a11 :: a12 :: a13 :: .fz v :: r) = some v := rfl
theorem xx_O14 {a0 a1 a2 a3 a4 a5 a6 a7 a8 a9 a10 a11 a12 a13 : Slot} {v : Val} {r : Ro} : Opd.val (.pl 14) (a0 :: a1 :: a2 :: a3 :: a4 :: a5 :: a6 :: a7 :: a8 :: a9 :: a10 :: a11 :: a12 :: a13 :: .ow v :: r) = some v := rfl
theorem xw_F14 {a0 a1 a2 a3 a4 a5 a6 a7 a8 a9 a10 a11 a12 a13 : Slot} {v : Val} {r : Ro} {P : Val → Prop} : Op (valAt 14 (a0 :: a1 :: a2 :: a3 :: a4 :: a5 :: a6 :: a7 :: a8 :: a9 :: a10 :: a11 :: a12 :: a13 :: .fz v :: r)) (c := ⟨P⟩) ↔ P v := u_some
theorem xw_O14 {a0 a1 a2 a3 a4 a5 a6 a7 a8 a9 a10 a11 a12 a13 : Slot} {v : Val} {r : Ro} {P : Val → Prop} : Op (valAt 14 (a0 :: a1 :: a2 :: a3 :: a4 :: a5 :: a6 :: a7 :: a8 :: a9 :: a10 :: a11 :: a12 :: a13 :: .ow v :: r)) (c := ⟨P⟩) ↔ P v := u_some
theorem xo_14 {a0 a1 a2 a3 a4 a5 a6 a7 a8 a9 a10 a11 a12 a13 : Slot} {v : Val} {r : Ro} : ownAt 14 (a0 :: a1 :: a2 :: a3 :: a4 :: a5 :: a6 :: a7 :: a8 :: a9 :: a10 :: a11 :: a12 :: a13 :: .ow v :: r) = some v := rfl
theorem xt_14 {a0 a1 a2 a3 a4 a5 a6 a7 a8 a9 a10 a11 a12 a13 : Slot} {x y : Slot} {r : Ro} : List.set (a0 :: a1 :: a2 :: a3 :: a4 :: a5 :: a6 :: a7 :: a8 :: a9 :: a10 :: a11 :: a12 :: a13 :: x :: r) 14 y = (a0 :: a1 :: a2 :: a3 :: a4 :: a5 :: a6 :: a7 :: a8 :: a9 :: a10 :: a11 :: a12 :: a13 :: y :: r) := rfl
theorem xl_14 {a0 a1 a2 a3 a4 a5 a6 a7 a8 a9 a10 a11 a12 a13 : Slot} {x : Slot} {r : Ro} : (14 < List.length (a0 :: a1 :: a2 :: a3 :: a4 :: a5 :: a6 :: a7 :: a8 :: a9 :: a10 :: a11 :: a12 :: a13 :: x :: r)) = True := by simp
theorem xa_14 {a0 a1 a2 a3 a4 a5 a6 a7 a8 a9 a10 a11 a12 a13 : Slot} {x y : Slot} {r : Ro} : assn (.nm 14) y (a0 :: a1 :: a2 :: a3 :: a4 :: a5 :: a6 :: a7 :: a8 :: a9 :: a10 :: a11 :: a12 :: a13 :: x :: r) = some (a0 :: a1 :: a2 :: a3 :: a4 :: a5 :: a6 :: a7 :: a8 :: a9 :: a10 :: a11 :: a12 :: a13 :: y :: r) := by unfold assn; rw [if_pos (by simp)]; rfl
theorem xr_F14 {a0 a1 a2 a3 a4 a5 a6 a7 a8 a9 a10 a11 a12 a13 : Slot} {v : Val} {r : Ro} {T : Tab} {cal mkc : Cal} {Q : Fl → Ro → Prop} : Wp (evS T cal mkc (.ret (.v 14)) (a0 :: a1 :: a2 :: a3 :: a4 :: a5 :: a6 :: a7 :: a8 :: a9 :: a10 :: a11 :: a12 :: a13 :: .fz v :: r)) (c := ⟨Q⟩) ↔ Q (.rt (.fz v)) (a0 :: a1 :: a2 :: a3 :: a4 :: a5 :: a6 :: a7 :: a8 :: a9 :: a10 :: a11 :: a12 :: a13 :: .fz v :: r) := v_pur
theorem xr_O14 {a0 a1 a2 a3 a4 a5 a6 a7 a8 a9 a10 a11 a12 a13 : Slot} {v : Val} {r : Ro} {T : Tab} {cal mkc : Cal} {Q : Fl → Ro → Prop} : Wp (evS T cal mkc (.ret (.v 14)) (a0 :: a1 :: a2 :: a3 :: a4 :: a5 :: a6 :: a7 :: a8 :: a9 :: a10 :: a11 :: a12 :: a13 :: .ow v :: r)) (c := ⟨Q⟩) ↔ Q (.rt (.ow v)) (a0 :: a1 :: a2 :: a3 :: a4 :: a5 :: a6 :: a7 :: a8 :: a9 :: a10 :: a11 :: a12 :: a13 :: .un :: r) := v_pur
theorem xc_14 {a0 a1 a2 a3 a4 a5 a6 a7 a8 a9 a10 a11 a12 a13 : Slot} {v : Val} {r : Ro} {P : Slot → Prop} : Op (Arg.slot (a0 :: a1 :: a2 :: a3 :: a4 :: a5 :: a6 :: a7 :: a8 :: a9 :: a10 :: a11 :: a12 :: a13 :: .ow v :: r) (.io 14)) (c := ⟨P⟩) ↔ P (.ow v) := u_some
theorem xg_14 {a0 a1 a2 a3 a4 a5 a6 a7 a8 a9 a10 a11 a12 a13 : Slot} {x : Slot} {r : Ro} : (a0 :: a1 :: a2 :: a3 :: a4 :: a5 :: a6 :: a7 :: a8 :: a9 :: a10 :: a11 :: a12 :: a13 :: x :: r)[14]? = some x := rfl
theorem xs_F15 {a0 a1 a2 a3 a4 a5 a6 a7 a8 a9 a10 a11 a12 a13 a14 : Slot} {v : Val} {r : Ro} {Q : Slot → Ro → Prop} : Wp (slotAt 15 (a0 :: a1 :: a2 :: a3 :: a4 :: a5 :: a6 :: a7 :: a8 :: a9 :: a10 :: a11 :: a12 :: a13 :: a14 :: .fz v :: r)) (c := ⟨Q⟩) ↔ Q (.fz v) (a0 :: a1 :: a2 :: a3 :: a4 :: a5 :: a6 :: a7 :: a8 :: a9 :: a10 :: a11 :: a12 :: a13 :: a14 :: .fz v :: r) := v_pur
theorem xs_O15 {a0 a1 a2 a3 a4 a5 a6 a7 a8 a9 a10 a11 a12 a13 a14 : Slot} {v : Val} {r : Ro} {Q : Slot → Ro → Prop} : Wp (slotAt 15 (a0 :: a1 :: a2 :: a3 :: a4 :: a5 :: a6 :: a7 :: a8 :: a9 :: a10 :: a11 :: a12 :: a13 :: a14 :: .ow v :: r)) (c := ⟨Q⟩) ↔ Q (.fz v) (a0 :: a1 :: a2 :: a3 :: a4 :: a5 :: a6 :: a7 :: a8 :: a9 :: a10 :: a11 :: a12 :: a13 :: a14 :: .fz v :: r) := v_pur
theorem xp_F15 {a0 a1 a2 a3 a4 a5 a6 a7 a8 a9 a10 a11 a12 a13 a14 : Slot} {v : Val} {r : Ro} {m : Ro → Res Slot} {Q : Opd → Ro → Prop} : Wp (opnd (.v 15) m (a0 :: a1 :: a2 :: a3 :: a4 :: a5 :: a6 :: a7 :: a8 :: a9 :: a10 :: a11 :: a12 :: a13 :: a14 :: .fz v :: r)) (c := ⟨Q⟩) ↔ Q (.pl 15) (a0 :: a1 :: a2 :: a3 :: a4 :: a5 :: a6 :: a7 :: a8 :: a9 :: a10 :: a11 :: a12 :: a13 :: a14 :: .fz v :: r) := v_pur
theorem xp_O15 {a0 a1 a2 a3 a4 a5 a6 a7 a8 a9 a10 a11 a12 a13 a14 : Slot} {v : Val} {r : Ro} {m : Ro → Res Slot} {Q : Opd → Ro → Prop} : Wp (opnd (.v 15) m (a0 :: a1 :: a2 :: a3 :: a4 :: a5 :: a6 :: a7 :: a8 :: a9 :: a10 :: a11 :: a12 :: a13 :: a14 :: .ow v :: r)) (c := ⟨Q⟩) ↔ Q (.pl 15) (a0 :: a1 :: a2 :: a3 :: a4 :: a5 :: a6 :: a7 :: a8 :: a9 :: a10 :: a11 :: a12 :: a13 :: a14 :: .ow v :: r) := v_pur
theorem xv_F15 {a0 a1 a2 a3 a4 a5 a6 a7 a8 a9 a10 a11 a12 a13 a14 : Slot} {v : Val} {r : Ro} {P : Val → Prop} : Op (Opd.val (.pl 15) (a0 :: a1 :: a2 :: a3 :: a4 :: a5 :: a6 :: a7 :: a8 :: a9 :: a10 :: a11 :: a12 :: a13 :: a14 :: .fz v :: r)) (c := ⟨P⟩) ↔ P v := u_some
theorem xv_O15 {a0 a1 a2 a3 a4 a5 a6 a7 a8 a9 a10 a11 a12 a13 a14 : Slot} {v : Val} {r : Ro} {P : Val → Prop} : Op (Opd.val (.pl 15) (a0 :: a1 :: a2 :: a3 :: a4 :: a5 :: a6 :: a7 :: a8 :: a9 :: a10 :: a11 :: a12 :: a13 :: a14 :: .ow v :: r)) (c := ⟨P⟩) ↔ P v := u_some
theorem xx_F15 {a0 a1 a2 a3 a4 a5 a6 a7 a8 a9 a10 a11 a12 a13 a14 : Slot} {v : Val} {r : Ro} : Opd.val (.pl 15) (a0 :: a1 :: a2 :: a3 :: a4 :: a5 :: a6 :: a7 :: a8 :: a9 :: a10 :: a11 :: a12 :: a13 :: a14 :: .fz v :: r) = some v := rfl
theorem xx_O15 {a0 a1 a2 a3 a4 a5 a6 a7 a8 a9 a10 a11 a12 a13 a14 : Slot} {v : Val} {r : Ro} : Opd.val (.pl 15) (a0 :: a1 :: a2 :: a3 :: a4 :: a5 :: a6 :: a7 :: a8 :: a9 :: a10 :: a11 :: a12 :: a13 :: a14 :: .ow v :: r) = some v := rfl
theorem xw_F15 {a0 a1 a2 a3 a4 a5 a6 a7 a8 a9 a10 a11 a12 a13 a14 : Slot} {v : Val} {r : Ro} {P : Val → Prop} : Op (valAt 15 (a0 :: a1 :: a2 :: a3 :: a4 :: a5 :: a6 :: a7 :: a8 :: a9 :: a10 :: a11 :: a12 :: a13 :: a14 :: .fz v :: r)) (c := ⟨P⟩) ↔ P v := u_some
theorem xw_O15 {a0 a1 a2 a3 a4 a5 a6 a7 a8 a9 a10 a11 a12 a13 a14 : Slot} {v : Val} {r : Ro} {P : Val → Prop} : Op (valAt 15 (a0 :: a1 :: a2 :: a3 :: a4 :: a5 :: a6 :: a7 :: a8 :: a9 :: a10 :: a11 :: a12 :: a13 :: a14 :: .ow v :: r)) (c := ⟨P⟩) ↔ P v := u_some
theorem xo_15 {a0 a1 a2 a3 a4 a5 a6 a7 a8 a9 a10 a11 a12 a13 a14 : Slot} {v : Val} {r : Ro} : ownAt 15 (a0 :: a1 :: a2 :: a3 :: a4 :: a5 :: a6 :: a7 :: a8 :: a9 :: a10 :: a11 :: a12 :: a13 :: a14 :: .ow v :: r) = some v := rfl
theorem xt_15 {a0 a1 a2 a3 a4 a5 a6 a7 a8 a9 a10 a11 a12 a13 a14 : Slot} {x y : Slot} {r : Ro} : List.set (a0 :: a1 :: a2 :: a3 :: a4 :: a5 :: a6 :: a7 :: a8 :: a9 :: a10 :: a11 :: a12 :: a13 :: a14 :: x :: r) 15 y = (a0 :: a1 :: a2 :: a3 :: a4 :: a5 :: a6 :: a7 :: a8 :: a9 :: a10 :: a11 :: a12 :: a13 :: a14 :: y :: r) := rfl
theorem xl_15 {a0 a1 a2 a3 a4 a5 a6 a7 a8 a9 a10 a11 a12 a13 a14 : Slot} {x : Slot} {r : Ro} : (15 < List.length (a0 :: a1 :: a2 :: a3 :: a4 :: a5 :: a6 :: a7 :: a8 :: a9 :: a10 :: a11 :: a12 :: a13 :: a14 :: x :: r)) = True := by simp
theorem xa_15 {a0 a1 a2 a3 a4 a5 a6 a7 a8 a9 a10 a11 a12 a13 a14 : Slot} {x y : Slot} {r : Ro} : assn (.nm 15) y (a0 :: a1 :: a2 :: a3 :: a4 :: a5 :: a6 :: a7 :: a8 :: a9 :: a10 :: a11 :: a12 :: a13 :: a14 :: x :: r) = some (a0 :: a1 :: a2 :: a3 :: a4 :: a5 :: a6 :: a7 :: a8 :: a9 :: a10 :: a11 :: a12 :: a13 :: a14 :: y :: r) := by unfold assn; rw [if_pos (by simp)]; rfl
theorem xr_F15 {a0 a1 a2 a3 a4 a5 a6 a7 a8 a9 a10 a11 a12 a13 a14 : Slot} {v : Val} {r : Ro} {T : Tab} {cal mkc : Cal} {Q : Fl → Ro → Prop} : Wp (evS T cal mkc (.ret (.v 15)) (a0 :: a1 :: a2 :: a3 :: a4 :: a5 :: a6 :: a7 :: a8 :: a9 :: a10 :: a11 :: a12 :: a13 :: a14 :: .fz v :: r)) (c := ⟨Q⟩) ↔ Q (.rt (.fz v)) (a0 :: a1 :: a2 :: a3 :: a4 :: a5 :: a6 :: a7 :: a8 :: a9 :: a10 :: a11 :: a12 :: a13 :: a14 :: .fz v :: r) := v_pur
theorem xr_O15 {a0 a1 a2 a3 a4 a5 a6 a7 a8 a9 a10 a11 a12 a13 a14 : Slot} {v : Val} {r : Ro} {T : Tab} {cal mkc : Cal} {Q : Fl → Ro → Prop} : Wp (evS T cal mkc (.ret (.v 15)) (a0 :: a1 :: a2 :: a3 :: a4 :: a5 :: a6 :: a7 :: a8 :: a9 :: a10 :: a11 :: a12 :: a13 :: a14 :: .ow v :: r)) (c := ⟨Q⟩) ↔ Q (.rt (.ow v)) (a0 :: a1 :: a2 :: a3 :: a4 :: a5 :: a6 :: a7 :: a8 :: a9 :: a10 :: a11 :: a12 :: a13 :: a14 :: .un :: r) := v_pur
theorem xc_15 {a0 a1 a2 a3 a4 a5 a6 a7 a8 a9 a10 a11 a12 a13 a14 : Slot} {v : Val} {r : Ro} {P : Slot → Prop} : Op (Arg.slot (a0 :: a1 :: a2 :: a3 :: a4 :: a5 :: a6 :: a7 :: a8 :: a9 :: a10 :: a11 :: a12 :: a13 :: a14 :: .ow v :: r) (.io 15)) (c := ⟨P⟩) ↔ P (.ow v) := u_some
theorem xg_15 {a0 a1 a2 a3 a4 a5 a6 a7 a8 a9 a10 a11 a12 a13 a14 : Slot} {x : Slot} {r : Ro} : (a0 :: a1 :: a2 :: a3 :: a4 :: a5 :: a6 :: a7 :: a8 :: a9 :: a10 :: a11 :: a12 :: a13 :: a14 :: x :: r)[15]? = some x := rfl
theorem xs_F16 {a0 a1 a2 a3 a4 a5 a6 a7 a8 a9 a10 a11 a12 a13 a14 a15 : Slot} {v : Val} {r : Ro} {Q : Slot → Ro → Prop} : Wp (slotAt 16 (a0 :: a1 :: a2 :: a3 :: a4 :: a5 :: a6 :: a7 :: a8 :: a9 :: a10 :: a11 :: a12 :: a13 :: a14 :: a15 :: .fz v :: r)) (c := ⟨Q⟩) ↔ Q (.fz v) (a0 :: a1 :: a2 :: a3 :: a4 :: a5 :: a6 :: a7 :: a8 :: a9 :: a10 :: a11 :: a12 :: a13 :: a14 :: a15 :: .fz v :: r) := v_pur
theorem xs_O16 {a0 a1 a2 a3 a4 a5 a6 a7 a8 a9 a10 a11 a12 a13 a14 a15 : Slot} {v : Val} {r : Ro} {Q : Slot → Ro → Prop} : Wp (slotAt 16 (a0 :: a1 :: a2 :: a3 :: a4 :: a5 :: a6 :: a7 :: a8 :: a9 :: a10 :: a11 :: a12 :: a13 :: a14 :: a15 :: .ow v :: r)) (c := ⟨Q⟩) ↔ Q (.fz v) (a0 :: a1 :: a2 :: a3 :: a4 :: a5 :: a6 :: a7 :: a8 :: a9 :: a10 :: a11 :: a12 :: a13 :: a14 :: a15 :: .fz v :: r) := v_pur
theorem xp_F16 {a0 a1 a2 a3 a4 a5 a6 a7 a8 a9 a10 a11 a12 a13 a14 a15 : Slot} {v : Val} {r : Ro} {m : Ro → Res Slot} {Q : Opd → Ro → Prop} : Wp (opnd (.v 16) m (a0 :: a1 :: a2 :: a3 :: a4 :: a5 :: a6 :: a7 :: a8 :: a9 :: a10 :: a11 :: a12 :: a13 :: a14 :: a15 :: .fz v :: r)) (c := ⟨Q⟩) ↔ Q (.pl 16) (a0 :: a1 :: a2 :: a3 :: a4 :: a5 :: a6 :: a7 :: a8 :: a9 :: a10 :: a11 :: a12 :: a13 :: a14 :: a15 :: .fz v :: r) := v_pur
theorem xp_O16 {a0 a1 a2 a3 a4 a5 a6 a7 a8 a9 a10 a11 a12 a13 a14 a15 : Slot} {v : Val} {r : Ro} {m : Ro → Res Slot} {Q : Opd → Ro → Prop} : Wp (opnd (.v 16) m (a0 :: a1 :: a2 :: a3 :: a4 :: a5 :: a6 :: a7 :: a8 :: a9 :: a10 :: a11 :: a12 :: a13 :: a14 :: a15 :: .ow v :: r)) (c := ⟨Q⟩) ↔ Q (.pl 16) (a0 :: a1 :: a2 :: a3 :: a4 :: a5 :: a6 :: a7 :: a8 :: a9 :: a10 :: a11 :: a12 :: a13 :: a14 :: a15 :: .ow v :: r) := v_pur
theorem xv_F16 {a0 a1 a2 a3 a4 a5 a6 a7 a8 a9 a10 a11 a12 a13 a14 a15 : Slot} {v : Val} {r : Ro} {P : Val → Prop} : Op (Opd.val (.pl 16) (a0 :: a1 :: a2 :: a3 :: a4 :: a5 :: a6 :: a7 :: a8 :: a9 :: a10 :: a11 :: a12 :: a13 :: a14 :: a15 :: .fz v :: r)) (c := ⟨P⟩) ↔ P v := u_some
theorem xv_O16 {a0 a1 a2 a3 a4 a5 a6 a7 a8 a9 a10 a11 a12 a13 a14 a15 : Slot} {v : Val} {r : Ro} {P : Val → Prop} : Op (Opd.val (.pl 16) (a0 :: a1 :: a2 :: a3 :: a4 :: a5 :: a6 :: a7 :: a8 :: a9 :: a10 :: a11 :: a12 :: a13 :: a14 :: a15 :: .ow v :: r)) (c := ⟨P⟩) ↔ P v := u_some
theorem xx_F16 {a0 a1 a2 a3 a4 a5 a6 a7 a8 a9 a10 a11 a12 a13 a14 a15 : Slot} {v : Val} {r : Ro} : Opd.val (.pl 16) (a0 :: a1 :: a2 :: a3 :: a4 :: a5 :: a6 :: a7 :: a8 :: a9 :: a10 :: a11 :: a12 :: a13 :: a14 :: a15 :: .fz v :: r) = some v := rfl
theorem xx_O16 {a0 a1 a2 a3 a4 a5 a6 a7 a8 a9 a10 a11 a12 a13 a14 a15 : Slot} {v : Val} {r : Ro} : Opd.val (.pl 16) (a0 :: a1 :: a2 :: a3 :: a4 :: a5 :: a6 :: a7 :: a8 :: a9 :: a10 :: a11 :: a12 :: a13 :: a14 :: a15 :: .ow v :: r) = some v := rfl
theorem xw_F16 {a0 a1 a2 a3 a4 a5 a6 a7 a8 a9 a10 a11 a12 a13 a14 a15 : Slot} {v : Val} {r : Ro} {P : Val → Prop} : Op (valAt 16 (a0 :: a1 :: a2 :: a3 :: a4 :: a5 :: a6 :: a7 :: a8 :: a9 :: a10 :: a11 :: a12 :: a13 :: a14 :: a15 :: .fz v :: r)) (c := ⟨P⟩) ↔ P v := u_some
theorem xw_O16 {a0 a1 a2 a3 a4 a5 a6 a7 a8 a9 a10 a11 a12 a13 a14 a15 : Slot} {v : Val} {r : Ro} {P : Val → Prop} : Op (valAt 16 (a0 :: a1 :: a2 :: a3 :: a4 :: a5 :: a6 :: a7 :: a8 :: a9 :: a10 :: a11 :: a12 :: a13 :: a14 :: a15 :: .ow v :: r)) (c := ⟨P⟩) ↔ P v := u_some
theorem xo_16 {a0 a1 a2 a3 a4 a5 a6 a7 a8 a9 a10 a11 a12 a13 a14 a15 : Slot} {v : Val} {r : Ro} : ownAt 16 (a0 :: a1 :: a2 :: a3 :: a4 :: a5 :: a6 :: a7 :: a8 :: a9 :: a10 :: a11 :: a12 :: a13 :: a14 :: a15 :: .ow v :: r) = some v := rfl
theorem xt_16 {a0 a1 a2 a3 a4 a5 a6 a7 a8 a9 a10 a11 a12 a13 a14 a15 : Slot} {x y : Slot} {r : Ro} : List.set (a0 :: a1 :: a2 :: a3 :: a4 :: a5 :: a6 :: a7 :: a8 :: a9 :: a10 :: a11 :: a12 :: a13 :: a14 :: a15 :: x :: r) 16 y = (a0 :: a1 :: a2 :: a3 :: a4 :: a5 :: a6 :: a7 :: a8 :: a9 :: a10 :: a11 :: a12 :: a13 :: a14 :: a15 :: y :: r) := rfl
theorem xl_16 {a0 a1 a2 a3 a4 a5 a6 a7 a8 a9 a10 a11 a12 a13 a14 a15 : Slot} {x : Slot} {r : Ro} : (16 < List.length (a0 :: a1 :: a2 :: a3 :: a4 :: a5 :: a6 :: a7 :: a8 :: a9 :: a10 :: a11 :: a12 :: a13 :: a14 :: a15 :: x :: r)) = True := by simp
theorem xa_16 {a0 a1 a2 a3 a4 a5 a6 a7 a8 a9 a10 a11 a12 a13 a14 a15 : Slot} {x y : Slot} {r : Ro} : assn (.nm 16) y (a0 :: a1 :: a2 :: a3 :: a4 :: a5 :: a6 :: a7 :: a8 :: a9 :: a10 :: a11 :: a12 :: a13 :: a14 :: a15 :: x :: r) = some (a0 :: a1 :: a2 :: a3 :: a4 :: a5 :: a6 :: a7 :: a8 :: a9 :: a10 :: a11 :: a12 :: a13 :: a14 :: a15 :: y :: r) := by unfold assn; rw [if_pos (by simp)]; rfl
theorem xr_F16 {a0 a1 a2 a3 a4 a5 a6 a7 a8 a9 a10 a11 a12 a13 a14 a15 : Slot} {v : Val} {r : Ro} {T : Tab} {cal mkc : Cal} {Q : Fl → Ro → Prop} : Wp (evS T cal mkc (.ret (.v 16)) (a0 :: a1 :: a2 :: a3 :: a4 :: a5 :: a6 :: a7 :: a8 :: a9 :: a10 :: a11 :: a12 :: a13 :: a14 :: a15 :: .fz v :: r)) (c := ⟨Q⟩) ↔ Q (.rt (.fz v)) (a0 :: a1 :: a2 :: a3 :: a4 :: a5 :: a6 :: a7 :: a8 :: a9 :: a10 :: a11 :: a12 :: a13 :: a14 :: a15 :: .fz v :: r) := v_pur
theorem xr_O16 {a0 a1 a2 a3 a4 a5 a6 a7 a8 a9 a10 a11 a12 a13 a14 a15 : Slot} {v : Val} {r : Ro} {T : Tab} {cal mkc : Cal} {Q : Fl → Ro → Prop} : Wp (evS T cal mkc (.ret (.v 16)) (a0 :: a1 :: a2 :: a3 :: a4 :: a5 :: a6 :: a7 :: a8 :: a9 :: a10 :: a11 :: a12 :: a13 :: a14 :: a15 :: .ow v :: r)) (c := ⟨Q⟩) ↔ Q (.rt (.ow v)) (a0 :: a1 :: a2 :: a3 :: a4 :: a5 :: a6 :: a7 :: a8 :: a9 :: a10 :: a11 :: a12 :: a13 :: a14 :: a15 :: .un :: r) := v_pur
theorem xc_16 {a0 a1 a2 a3 a4 a5 a6 a7 a8 a9 a10 a11 a12 a13 a14 a15 : Slot} {v : Val} {r : Ro} {P : Slot → Prop} : Op (Arg.slot (a0 :: a1 :: a2 :: a3 :: a4 :: a5 :: a6 :: a7 :: a8 :: a9 :: a10 :: a11 :: a12 :: a13 :: a14 :: a15 :: .ow v :: r) (.io 16)) (c := ⟨P⟩) ↔ P (.ow v) := u_some
theorem xg_16 {a0 a1 a2 a3 a4 a5 a6 a7 a8 a9 a10 a11 a12 a13 a14 a15 : Slot} {x : Slot} {r : Ro} : (a0 :: a1 :: a2 :: a3 :: a4 :: a5 :: a6 :: a7 :: a8 :: a9 :: a10 :: a11 :: a12 :: a13 :: a14 :: a15 :: x :: r)[16]? = some x := rfl
theorem xs_F17 {a0 a1 a2 a3 a4 a5 a6 a7 a8 a9 a10 a11 a12 a13 a14 a15 a16 : Slot} {v : Val} {r : Ro} {Q : Slot → Ro → Prop} : Wp (slotAt 17 (a0 :: a1 :: a2 :: a3 :: a4 :: a5 :: a6 :: a7 :: a8 :: a9 :: a10 :: a11 :: a12 :: a13 :: a14 :: a15 :: a16 :: .fz v :: r)) (c := ⟨Q⟩) ↔ Q (.fz v) (a0 :: a1 :: a2 :: a3 :: a4 :: a5 :: a6 :: a7 :: a8 :: a9 :: a10 :: a11 :: a12 :: a13 :: a14 :: a15 :: a16 :: .fz v :: r) := v_pur
theorem xs_O17 {a0 a1 a2 a3 a4 a5 a6 a7 a8 a9 a10 a11 a12 a13 a14 a15 a16 : Slot} {v : Val} {r : Ro} {Q : Slot → Ro → Prop} : Wp (slotAt 17 (a0 :: a1 :: a2 :: a3 :: a4 :: a5 :: a6 :: a7 :: a8 :: a9 :: a10 :: a11 :: a12 :: a13 :: a14 :: a15 :: a16 :: .ow v :: r)) (c := ⟨Q⟩) ↔ Q (.fz v) (a0 :: a1 :: a2 :: a3 :: a4 :: a5 :: a6 :: a7 :: a8 :: a9 :: a10 :: a11 :: a12 :: a13 :: a14 :: a15 :: a16 :: .fz v :: r) := v_pur
theorem xp_F17 {a0 a1 a2 a3 a4 a5 a6 a7 a8 a9 a10 a11 a12 a13 a14 a15 a16 : Slot} {v : Val} {r : Ro} {m : Ro → Res Slot} {Q : Opd → Ro → Prop} : Wp (opnd (.v 17) m (a0 :: a1 :: a2 :: a3 :: a4 :: a5 :: a6 :: a7 :: a8 :: a9 :: a10 :: a11 :: a12 :: a13 :: a14 :: a15 :: a16 :: .fz v :: r)) (c := ⟨Q⟩) ↔ Q (.pl 17) (a0 :: a1 :: a2 :: a3 :: a4 :: a5 :: a6 :: a7 :: a8 :: a9 :: a10 :: a11 :: a12 :: a13 :: a14 :: a15 :: a16 :: .fz v :: r) := v_pur
theorem xp_O17 {a0 a1 a2 a3 a4 a5 a6 a7 a8 a9 a10 a11 a12 a13 a14 a15 a16 : Slot} {v : Val} {r : Ro} {m : Ro → Res Slot} {Q : Opd → Ro → Prop} : Wp (opnd (.v 17) m (a0 :: a1 :: a2 :: a3 :: a4 :: a5 :: a6 :: a7 :: a8 :: a9 :: a10 :: a11 :: a12 :: a13 :: a14 :: a15 :: a16 :: .ow v :: r)) (c := ⟨Q⟩) ↔ Q (.pl 17) (a0 :: a1 :: a2 :: a3 :: a4 :: a5 :: a6 :: a7 :: a8 :: a9 :: a10 :: a11 :: a12 :: a13 :: a14 :: a15 :: a16 :: .ow v :: r) := v_pur
theorem xv_F17 {a0 a1 a2 a3 a4 a5 a6 a7 a8 a9 a10 a11 a12 a13 a14 a15 a16 : Slot} {v : Val} {r : Ro} {P : Val → Prop} : Op (Opd.val (.pl 17) (a0 :: a1 :: a2 :: a3 :: a4 :: a5 :: a6 :: a7 :: a8 :: a9 :: a10 :: a11 :: a12 :: a13 :: a14 :: a15 :: a16 :: .fz v :: r)) (c := ⟨P⟩) ↔ P v := u_some
theorem xv_O17 {a0 a1 a2 a3 a4 a5 a6 a7 a8 a9 a10 a11 a12 a13 a14 a15 a16 : Slot} {v : Val} {r : Ro} {P : Val → Prop} : Op (Opd.val (.pl 17) (a0 :: a1 :: a2 :: a3 :: a4 :: a5 :: a6 :: a7 :: a8 :: a9 :: a10 :: a11 :: a12 :: a13 :: a14 :: a15 :: a16 :: .ow v :: r)) (c := ⟨P⟩) ↔ P v := u_some
theorem xx_F17 {a0 a1 a2 a3 a4 a5 a6 a7 a8 a9 a10 a11 a12 a13 a14 a15 a16 : Slot} {v : Val} {r : Ro} : Opd.val (.pl 17) (a0 :: a1 :: a2 :: a3 :: a4 :: a5 :: a6 :: a7 :: a8 :: a9 :: a10 :: a11 :: a12 :: a13 :: a14 :: a15 :: a16 :: .fz v :: r) = some v := rfl
theorem xx_O17 {a0 a1 a2 a3 a4 a5 a6 a7 a8 a9 a10 a11 a12 a13 a14 a15 a16 : Slot} {v : Val} {r : Ro} : Opd.val (.pl 17) (a0 :: a1 :: a2 :: a3 :: a4 :: a5 :: a6 :: a7 :: a8 :: a9 :: a10 :: a11 :: a12 :: a13 :: a14 :: a15 :: a16 :: .ow v :: r) = some v := rfl
theorem xw_F17 {a0 a1 a2 a3 a4 a5 a6 a7 a8 a9 a10 a11 a12 a13 a14 a15 a16 : Slot} {v : Val} {r : Ro} {P : Val → Prop} : Op (valAt 17 (a0 :: a1 :: a2 :: a3 :: a4 :: a5 :: a6 :: a7 :: a8 :: a9 :: a10 :: a11 :: a12 :: a13 :: a14 :: a15 :: a16 :: .fz v :: r)) (c := ⟨P⟩) ↔ P v := u_some
theorem xw_O17 {a0 a1 a2 a3 a4 a5 a6 a7 a8 a9 a10 a11 a12 a13 a14 a15 a16 : Slot} {v : Val} {r : Ro} {P : Val → Prop} : Op (valAt 17 (a0 :: a1 :: a2 :: a3 :: a4 :: a5 :: a6 :: a7 :: a8 :: a9 :: a10 :: a11 :: a12 :: a13 :: a14 :: a15 :: a16 :: .ow v :: r)) (c := ⟨P⟩) ↔ P v := u_some
theorem xo_17 {a0 a1 a2 a3 a4 a5 a6 a7 a8 a9 a10 a11 a12 a13 a14 a15 a16 : Slot} {v : Val} {r : Ro} : ownAt 17 (a0 :: a1 :: a2 :: a3 :: a4 :: a5 :: a6 :: a7 :: a8 :: a9 :: a10 :: a11 :: a12 :: a13 :: a14 :: a15 :: a16 :: .ow v :: r) = some v := rfl
theorem xt_17 {a0 a1 a2 a3 a4 a5 a6 a7 a8 a9 a10 a11 a12 a13 a14 a15 a16 : Slot} {x y : Slot} {r : Ro} : List.set (a0 :: a1 :: a2 :: a3 :: a4 :: a5 :: a6 :: a7 :: a8 :: a9 :: a10 :: a11 :: a12 :: a13 :: a14 :: a15 :: a16 :: x :: r) 17 y = (a0 :: a1 :: a2 :: a3 :: a4 :: a5 :: a6 :: a7 :: a8 :: a9 :: a10 :: a11 :: a12 :: a13 :: a14 :: a15 :: a16 :: y :: r) := rfl
theorem xl_17 {a0 a1 a2 a3 a4 a5 a6 a7 a8 a9 a10 a11 a12 a13 a14 a15 a16 : Slot} {x : Slot} {r : Ro} : (17 < List.length (a0 :: a1 :: a2 :: a3 :: a4 :: a5 :: a6 :: a7 :: a8 :: a9 :: a10 :: a11 :: a12 :: a13 :: a14 :: a15 :: a16 :: x :: r)) = True := by simp
theorem xa_17 {a0 a1 a2 a3 a4 a5 a6 a7 a8 a9 a10 a11 a12 a13 a14 a15 a16 : Slot} {x y : Slot} {r : Ro} : assn (.nm 17) y (a0 :: a1 :: a2 :: a3 :: a4 :: a5 :: a6 :: a7 :: a8 :: a9 :: a10 :: a11 :: a12 :: a13 :: a14 :: a15 :: a16 :: x :: r) = some (a0 :: a1 :: a2 :: a3 :: a4 :: a5 :: a6 :: a7 :: a8 :: a9 :: a10 :: a11 :: a12 :: a13 :: a14 :: a15 :: a16 :: y :: r) := by unfold assn; rw [if_pos (by simp)]; rfl
theorem xr_F17 {a0 a1 a2 a3 a4 a5 a6 a7 a8 a9 a10 a11 a12 a13 a14 a15 a16 : Slot} {v : Val} {r : Ro} {T : Tab} {cal mkc : Cal} {Q : Fl → Ro → Prop} : Wp (evS T cal mkc (.ret (.v 17)) (a0 :: a1 :: a2 :: a3 :: a4 :: a5 :: a6 :: a7 :: a8 :: a9 :: a10 :: a11 :: a12 :: a13 :: a14 :: a15 :: a16 :: .fz v :: r)) (c := ⟨Q⟩) ↔ Q (.rt (.fz v)) (a0 :: a1 :: a2 :: a3 :: a4 :: a5 :: a6 :: a7 :: a8 :: a9 :: a10 :: a11 :: a12 :: a13 :: a14 :: a15 :: a16 :: .fz v :: r) := v_pur
theorem xr_O17 {a0 a1 a2 a3 a4 a5 a6 a7 a8 a9 a10 a11 a12 a13 a14 a15 a16 : Slot} {v : Val} {r : Ro} {T : Tab} {cal mkc : Cal} {Q : Fl → Ro → Prop} : Wp (evS T cal mkc (.ret (.v 17)) (a0 :: a1 :: a2 :: a3 :: a4 :: a5 :: a6 :: a7 :: a8 :: a9 :: a10 :: a11 :: a12 :: a13 :: a14 :: a15 :: a16 :: .ow v :: r)) (c := ⟨Q⟩) ↔ Q (.rt (.ow v)) (a0 :: a1 :: a2 :: a3 :: a4 :: a5 :: a6 :: a7 :: a8 :: a9 :: a10 :: a11 :: a12 :: a13 :: a14 :: a15 :: a16 :: .un :: r) := v_pur
theorem xc_17 {a0 a1 a2 a3 a4 a5 a6 a7 a8 a9 a10 a11 a12 a13 a14 a15 a16 : Slot} {v : Val} {r : Ro} {P : Slot → Prop} : Op (Arg.slot (a0 :: a1 :: a2 :: a3 :: a4 :: a5 :: a6 :: a7 :: a8 :: a9 :: a10 :: a11 :: a12 :: a13 :: a14 :: a15 :: a16 :: .ow v :: r) (.io 17)) (c := ⟨P⟩) ↔ P (.ow v) := u_some
theorem xg_17 {a0 a1 a2 a3 a4 a5 a6 a7 a8 a9 a10 a11 a12 a13 a14 a15 a16 : Slot} {x : Slot} {r : Ro} : (a0 :: a1 :: a2 :: a3 :: a4 :: a5 :: a6 :: a7 :: a8 :: a9 :: a10 :: a11 :: a12 :: a13 :: a14 :: a15 :: a16 :: x :: r)[17]? = some x := rfl
def WX0 := (aI (aI (aI (aI (aI (aI @xs_F0 (aI @xs_O0 @xp_F0)) (aI @xp_O0 (aI @xv_F0 @xv_O0))) (aI (aI @xx_F0 (aI @xx_O0 @xw_F0)) (aI (aI @xw_O0 @xo_0) (aI @xt_0 @xl_0)))) (aI (aI (aI @xa_0 (aI @xr_F0 @xr_O0)) (aI (aI @xc_0 @xg_0) (aI @xs_F1 @xs_O1))) (aI (aI @xp_F1 (aI @xp_O1 @xv_F1)) (aI (aI @xv_O1 @xx_F1) (aI @xx_O1 @xw_F1))))) (aI (aI (aI (aI @xw_O1 (aI @xo_1 @xt_1)) (aI @xl_1 (aI @xa_1 @xr_F1))) (aI (aI @xr_O1 (aI @xc_1 @xg_1)) (aI (aI @xs_F2 @xs_O2) (aI @xp_F2 @xp_O2)))) (aI (aI (aI @xv_F2 (aI @xv_O2 @xx_F2)) (aI (aI @xx_O2 @xw_F2) (aI @xw_O2 @xo_2))) (aI (aI @xt_2 (aI @xl_2 @xa_2)) (aI (aI @xr_F2 @xr_O2) (aI @xc_2 @xg_2)))))) (aI (aI (aI (aI (aI @xs_F3 (aI @xs_O3 @xp_F3)) (aI @xp_O3 (aI @xv_F3 @xv_O3))) (aI (aI @xx_F3 (aI @xx_O3 @xw_F3)) (aI (aI @xw_O3 @xo_3) (aI @xt_3 @xl_3)))) (aI (aI (aI @xa_3 (aI @xr_F3 @xr_O3)) (aI (aI @xc_3 @xg_3) (aI @xs_F4 @xs_O4))) (aI (aI @xp_F4 (aI @xp_O4 @xv_F4)) (aI (aI @xv_O4 @xx_F4) (aI @xx_O4 @xw_F4))))) (aI (aI (aI (aI @xw_O4 (aI @xo_4 @xt_4)) (aI @xl_4 (aI @xa_4 @xr_F4))) (aI (aI @xr_O4 (aI @xc_4 @xg_4)) (aI (aI @xs_F5 @xs_O5) (aI @xp_F5 @xp_O5)))) (aI (aI (aI @xv_F5 (aI @xv_O5 @xx_F5)) (aI (aI @xx_O5 @xw_F5) (aI @xw_O5 @xo_5))) (aI (aI @xt_5 (aI @xl_5 @xa_5)) (aI (aI @xr_F5 @xr_O5) (aI @xc_5 @xg_5)))))))
def WX1 := (aI (aI (aI (aI (aI (aI @xs_F6 (aI @xs_O6 @xp_F6)) (aI @xp_O6 (aI @xv_F6 @xv_O6))) (aI (aI @xx_F6 (aI @xx_O6 @xw_F6)) (aI (aI @xw_O6 @xo_6) (aI @xt_6 @xl_6)))) (aI (aI (aI @xa_6 (aI @xr_F6 @xr_O6)) (aI (aI @xc_6 @xg_6) (aI @xs_F7 @xs_O7))) (aI (aI @xp_F7 (aI @xp_O7 @xv_F7)) (aI (aI @xv_O7 @xx_F7) (aI @xx_O7 @xw_F7))))) (aI (aI (aI (aI @xw_O7 (aI @xo_7 @xt_7)) (aI @xl_7 (aI @xa_7 @xr_F7))) (aI (aI @xr_O7 (aI @xc_7 @xg_7)) (aI (aI @xs_F8 @xs_O8) (aI @xp_F8 @xp_O8)))) (aI (aI (aI @xv_F8 (aI @xv_O8 @xx_F8)) (aI (aI @xx_O8 @xw_F8) (aI @xw_O8 @xo_8))) (aI (aI @xt_8 (aI @xl_8 @xa_8)) (aI (aI @xr_F8 @xr_O8) (aI @xc_8 @xg_8)))))) (aI (aI (aI (aI (aI @xs_F9 (aI @xs_O9 @xp_F9)) (aI @xp_O9 (aI @xv_F9 @xv_O9))) (aI (aI @xx_F9 (aI @xx_O9 @xw_F9)) (aI (aI @xw_O9 @xo_9) (aI @xt_9 @xl_9)))) (aI (aI (aI @xa_9 (aI @xr_F9 @xr_O9)) (aI (aI @xc_9 @xg_9) (aI @xs_F10 @xs_O10))) (aI (aI @xp_F10 (aI @xp_O10 @xv_F10)) (aI (aI @xv_O10 @xx_F10) (aI @xx_O10 @xw_F10))))) (aI (aI (aI (aI @xw_O10 (aI @xo_10 @xt_10)) (aI @xl_10 (aI @xa_10 @xr_F10))) (aI (aI @xr_O10 (aI @xc_10 @xg_10)) (aI (aI @xs_F11 @xs_O11) (aI @xp_F11 @xp_O11)))) (aI (aI (aI @xv_F11 (aI @xv_O11 @xx_F11)) (aI (aI @xx_O11 @xw_F11) (aI @xw_O11 @xo_11))) (aI (aI @xt_11 (aI @xl_11 @xa_11)) (aI (aI @xr_F11 @xr_O11) (aI @xc_11 @xg_11)))))))
def WX2 := (aI (aI (aI (aI (aI (aI @xs_F12 (aI @xs_O12 @xp_F12)) (aI @xp_O12 (aI @xv_F12 @xv_O12))) (aI (aI @xx_F12 (aI @xx_O12 @xw_F12)) (aI (aI @xw_O12 @xo_12) (aI @xt_12 @xl_12)))) (aI (aI (aI @xa_12 (aI @xr_F12 @xr_O12)) (aI (aI @xc_12 @xg_12) (aI @xs_F13 @xs_O13))) (aI (aI @xp_F13 (aI @xp_O13 @xv_F13)) (aI (aI @xv_O13 @xx_F13) (aI @xx_O13 @xw_F13))))) (aI (aI (aI (aI @xw_O13 (aI @xo_13 @xt_13)) (aI @xl_13 (aI @xa_13 @xr_F13))) (aI (aI @xr_O13 (aI @xc_13 @xg_13)) (aI (aI @xs_F14 @xs_O14) (aI @xp_F14 @xp_O14)))) (aI (aI (aI @xv_F14 (aI @xv_O14 @xx_F14)) (aI (aI @xx_O14 @xw_F14) (aI @xw_O14 @xo_14))) (aI (aI @xt_14 (aI @xl_14 @xa_14)) (aI (aI @xr_F14 @xr_O14) (aI @xc_14 @xg_14)))))) (aI (aI (aI (aI (aI @xs_F15 (aI @xs_O15 @xp_F15)) (aI @xp_O15 (aI @xv_F15 @xv_O15))) (aI (aI @xx_F15 (aI @xx_O15 @xw_F15)) (aI (aI @xw_O15 @xo_15) (aI @xt_15 @xl_15)))) (aI (aI (aI @xa_15 (aI @xr_F15 @xr_O15)) (aI (aI @xc_15 @xg_15) (aI @xs_F16 @xs_O16))) (aI (aI @xp_F16 (aI @xp_O16 @xv_F16)) (aI (aI @xv_O16 @xx_F16) (aI @xx_O16 @xw_F16))))) (aI (aI (aI (aI @xw_O16 (aI @xo_16 @xt_16)) (aI @xl_16 (aI @xa_16 @xr_F16))) (aI (aI @xr_O16 (aI @xc_16 @xg_16)) (aI (aI @xs_F17 @xs_O17) (aI @xp_F17 @xp_O17)))) (aI (aI (aI @xv_F17 (aI @xv_O17 @xx_F17)) (aI (aI @xx_O17 @xw_F17) (aI @xw_O17 @xo_17))) (aI (aI @xt_17 (aI @xl_17 @xa_17)) (aI (aI @xr_F17 @xr_O17) (aI @xc_17 @xg_17)))))))
theorem WZ : ((((type_of% @true_and) ∧ (type_of% @and_true)) ∧ ((type_of% @and_self) ∧ (type_of% @decide_true))) ∧ (((type_of% @decide_false) ∧ (type_of% @Option.map_some.{0,0})) ∧ ((type_of% @Option.getD_some.{0}) ∧ ((type_of% @Option.isSome_some.{0}) ∧ (type_of% @Option.bind_some.{0,0}))))) ∧ ((((type_of% Bool.not_false) ∧ (type_of% Bool.not_true)) ∧ ((type_of% @Bool.and_true) ∧ ((type_of% @Bool.true_and) ∧ (type_of% @Bool.or_false)))) ∧ (((type_of% @Bool.false_or) ∧ (type_of% @Bool.and_false)) ∧ ((type_of% @Bool.false_and) ∧ ((type_of% @Nat.zero_add) ∧ (type_of% @List.any_nil.{0}))))) ∧ ((((type_of% @List.any_cons.{0}) ∧ (type_of% @List.getD_cons_zero.{0})) ∧ ((type_of% @List.getD_cons_succ.{0}) ∧ ((type_of% @List.drop_succ_cons.{0}) ∧ (type_of% @List.drop_zero.{0})))) ∧ (((type_of% @List.isEmpty_nil.{0}) ∧ (type_of% @List.isEmpty_cons.{0})) ∧ ((type_of% @List.length_nil.{0}) ∧ (type_of% @List.length_cons.{0})))) ∧ (((type_of% @List.map_nil.{0,0}) ∧ (type_of% @List.map_cons.{0,0})) ∧ ((type_of% @List.append_nil.{0}) ∧ ((type_of% @List.nil_append.{0}) ∧ (type_of% @List.cons_append.{0})))) :=
  ⟨⟨⟨⟨@true_and, @and_true⟩, ⟨@and_self, @decide_true⟩⟩, ⟨⟨@decide_false, @Option.map_some⟩, ⟨@Option.getD_some, ⟨@Option.isSome_some, @Option.bind_some⟩⟩⟩⟩, ⟨⟨⟨Bool.not_false, Bool.not_true⟩, ⟨@Bool.and_true, ⟨@Bool.true_and, @Bool.or_false⟩⟩⟩, ⟨⟨@Bool.false_or, @Bool.and_false⟩, ⟨@Bool.false_and, ⟨@Nat.zero_add, @List.any_nil⟩⟩⟩⟩, ⟨⟨⟨@List.any_cons, @List.getD_cons_zero⟩, ⟨@List.getD_cons_succ, ⟨@List.drop_succ_cons, @List.drop_zero⟩⟩⟩, ⟨⟨@List.isEmpty_nil, @List.isEmpty_cons⟩, ⟨@List.length_nil, @List.length_cons⟩⟩⟩, ⟨⟨@List.map_nil, @List.map_cons⟩, ⟨@List.append_nil, ⟨@List.nil_append, @List.cons_append⟩⟩⟩⟩
def WX := (aI @WX0 (aI @WX1 @WX2))
end EV.Y
namespace EV
open Y
section
variable {cal mkc : Cal} {ρ : Ro} {es : List Ex} {a : Ex} {Q : Slot → Ro → Prop}
theorem wc_is_integer : Wp (evE tab cal mkc (.call "is_integer" es []) ρ) (c := ⟨Q⟩) ↔ Wp (evAs tab cal mkc [false, false, false] es ρ) (c := ⟨fun as ρ1 => Wp (callF cal ["value", "least", "greatest"] "is_integer" [] as ρ1) (c := ⟨Q⟩)⟩) := Y.w_call fn_is_integer
theorem wk_is_integer {k : String} {ks : List String} : Wp (evE tab cal mkc (.call "is_integer" es (k :: ks)) ρ) (c := ⟨Q⟩) ↔ Wp (evEs tab cal mkc es ρ) (c := ⟨fun vs ρ1 => vs.length = (k :: ks).length ∧ Op (byName ["value", "least", "greatest"] (k :: ks) vs) (c := ⟨fun ws => Wp (cal "is_integer" (ws.map .fz)) (c := ⟨fun r _ => Q r ρ1⟩)⟩)⟩) := Y.w_callK fn_is_integer
theorem wc_is_word_of : Wp (evE tab cal mkc (.call "is_word_of" es []) ρ) (c := ⟨Q⟩) ↔ Wp (evAs tab cal mkc [false, false, false] es ρ) (c := ⟨fun as ρ1 => Wp (callF cal ["value", "signs", "most"] "is_word_of" [] as ρ1) (c := ⟨Q⟩)⟩) := Y.w_call fn_is_word_of
theorem wk_is_word_of {k : String} {ks : List String} : Wp (evE tab cal mkc (.call "is_word_of" es (k :: ks)) ρ) (c := ⟨Q⟩) ↔ Wp (evEs tab cal mkc es ρ) (c := ⟨fun vs ρ1 => vs.length = (k :: ks).length ∧ Op (byName ["value", "signs", "most"] (k :: ks) vs) (c := ⟨fun ws => Wp (cal "is_word_of" (ws.map .fz)) (c := ⟨fun r _ => Q r ρ1⟩)⟩)⟩) := Y.w_callK fn_is_word_of
theorem wc_is_tuple_of : Wp (evE tab cal mkc (.call "is_tuple_of" es []) ρ) (c := ⟨Q⟩) ↔ Wp (evAs tab cal mkc [false, false] es ρ) (c := ⟨fun as ρ1 => Wp (callF cal ["value", "many"] "is_tuple_of" [] as ρ1) (c := ⟨Q⟩)⟩) := Y.w_call fn_is_tuple_of
theorem wk_is_tuple_of {k : String} {ks : List String} : Wp (evE tab cal mkc (.call "is_tuple_of" es (k :: ks)) ρ) (c := ⟨Q⟩) ↔ Wp (evEs tab cal mkc es ρ) (c := ⟨fun vs ρ1 => vs.length = (k :: ks).length ∧ Op (byName ["value", "many"] (k :: ks) vs) (c := ⟨fun ws => Wp (cal "is_tuple_of" (ws.map .fz)) (c := ⟨fun r _ => Q r ρ1⟩)⟩)⟩) := Y.w_callK fn_is_tuple_of
theorem wc_are_letters : Wp (evE tab cal mkc (.call "are_letters" es []) ρ) (c := ⟨Q⟩) ↔ Wp (evAs tab cal mkc [false] es ρ) (c := ⟨fun as ρ1 => Wp (callF cal ["value"] "are_letters" [] as ρ1) (c := ⟨Q⟩)⟩) := Y.w_call fn_are_letters
theorem wk_are_letters {k : String} {ks : List String} : Wp (evE tab cal mkc (.call "are_letters" es (k :: ks)) ρ) (c := ⟨Q⟩) ↔ Wp (evEs tab cal mkc es ρ) (c := ⟨fun vs ρ1 => vs.length = (k :: ks).length ∧ Op (byName ["value"] (k :: ks) vs) (c := ⟨fun ws => Wp (cal "are_letters" (ws.map .fz)) (c := ⟨fun r _ => Q r ρ1⟩)⟩)⟩) := Y.w_callK fn_are_letters
theorem wc_is_state : Wp (evE tab cal mkc (.call "is_state" es []) ρ) (c := ⟨Q⟩) ↔ Wp (evAs tab cal mkc [false, false, false] es ρ) (c := ⟨fun as ρ1 => Wp (callF cal ["value", "letters", "many"] "is_state" [] as ρ1) (c := ⟨Q⟩)⟩) := Y.w_call fn_is_state
theorem wk_is_state {k : String} {ks : List String} : Wp (evE tab cal mkc (.call "is_state" es (k :: ks)) ρ) (c := ⟨Q⟩) ↔ Wp (evEs tab cal mkc es ρ) (c := ⟨fun vs ρ1 => vs.length = (k :: ks).length ∧ Op (byName ["value", "letters", "many"] (k :: ks) vs) (c := ⟨fun ws => Wp (cal "is_state" (ws.map .fz)) (c := ⟨fun r _ => Q r ρ1⟩)⟩)⟩) := Y.w_callK fn_is_state
theorem wc_digit_of : Wp (evE tab cal mkc (.call "digit_of" es []) ρ) (c := ⟨Q⟩) ↔ Wp (evAs tab cal mkc [false] es ρ) (c := ⟨fun as ρ1 => Wp (callF cal ["text"] "digit_of" [] as ρ1) (c := ⟨Q⟩)⟩) := Y.w_call fn_digit_of
theorem wk_digit_of {k : String} {ks : List String} : Wp (evE tab cal mkc (.call "digit_of" es (k :: ks)) ρ) (c := ⟨Q⟩) ↔ Wp (evEs tab cal mkc es ρ) (c := ⟨fun vs ρ1 => vs.length = (k :: ks).length ∧ Op (byName ["text"] (k :: ks) vs) (c := ⟨fun ws => Wp (cal "digit_of" (ws.map .fz)) (c := ⟨fun r _ => Q r ρ1⟩)⟩)⟩) := Y.w_callK fn_digit_of
theorem wc_state_of : Wp (evE tab cal mkc (.call "state_of" es []) ρ) (c := ⟨Q⟩) ↔ Wp (evAs tab cal mkc [false] es ρ) (c := ⟨fun as ρ1 => Wp (callF cal ["row"] "state_of" [] as ρ1) (c := ⟨Q⟩)⟩) := Y.w_call fn_state_of
theorem wk_state_of {k : String} {ks : List String} : Wp (evE tab cal mkc (.call "state_of" es (k :: ks)) ρ) (c := ⟨Q⟩) ↔ Wp (evEs tab cal mkc es ρ) (c := ⟨fun vs ρ1 => vs.length = (k :: ks).length ∧ Op (byName ["row"] (k :: ks) vs) (c := ⟨fun ws => Wp (cal "state_of" (ws.map .fz)) (c := ⟨fun r _ => Q r ρ1⟩)⟩)⟩) := Y.w_callK fn_state_of
theorem wc__law_bag : Wp (evE tab cal mkc (.call "_law_bag" es []) ρ) (c := ⟨Q⟩) ↔ Wp (evAs tab cal mkc [false, false] es ρ) (c := ⟨fun as ρ1 => Wp (callF cal ["_law_script", "_law_turn"] "_law_bag" [] as ρ1) (c := ⟨Q⟩)⟩) := Y.w_call fn__law_bag
theorem wk__law_bag {k : String} {ks : List String} : Wp (evE tab cal mkc (.call "_law_bag" es (k :: ks)) ρ) (c := ⟨Q⟩) ↔ Wp (evEs tab cal mkc es ρ) (c := ⟨fun vs ρ1 => vs.length = (k :: ks).length ∧ Op (byName ["_law_script", "_law_turn"] (k :: ks) vs) (c := ⟨fun ws => Wp (cal "_law_bag" (ws.map .fz)) (c := ⟨fun r _ => Q r ρ1⟩)⟩)⟩) := Y.w_callK fn__law_bag
theorem wc__law_take : Wp (evE tab cal mkc (.call "_law_take" es []) ρ) (c := ⟨Q⟩) ↔ Wp (evAs tab cal mkc [true, false] es ρ) (c := ⟨fun as ρ1 => Wp (callF cal ["_law_bag_here", "_law_many"] "_law_take" [] as ρ1) (c := ⟨Q⟩)⟩) := Y.w_call fn__law_take
theorem wk__law_take {k : String} {ks : List String} : Wp (evE tab cal mkc (.call "_law_take" es (k :: ks)) ρ) (c := ⟨Q⟩) ↔ Wp (evEs tab cal mkc es ρ) (c := ⟨fun vs ρ1 => vs.length = (k :: ks).length ∧ Op (byName ["_law_bag_here", "_law_many"] (k :: ks) vs) (c := ⟨fun ws => Wp (cal "_law_take" (ws.map .fz)) (c := ⟨fun r _ => Q r ρ1⟩)⟩)⟩) := Y.w_callK fn__law_take
theorem wc__law_signs : Wp (evE tab cal mkc (.call "_law_signs" es []) ρ) (c := ⟨Q⟩) ↔ Wp (evAs tab cal mkc [true] es ρ) (c := ⟨fun as ρ1 => Wp (callF cal ["_law_bag_here"] "_law_signs" [] as ρ1) (c := ⟨Q⟩)⟩) := Y.w_call fn__law_signs
theorem wk__law_signs {k : String} {ks : List String} : Wp (evE tab cal mkc (.call "_law_signs" es (k :: ks)) ρ) (c := ⟨Q⟩) ↔ Wp (evEs tab cal mkc es ρ) (c := ⟨fun vs ρ1 => vs.length = (k :: ks).length ∧ Op (byName ["_law_bag_here"] (k :: ks) vs) (c := ⟨fun ws => Wp (cal "_law_signs" (ws.map .fz)) (c := ⟨fun r _ => Q r ρ1⟩)⟩)⟩) := Y.w_callK fn__law_signs
theorem wc__law_rows : Wp (evE tab cal mkc (.call "_law_rows" es []) ρ) (c := ⟨Q⟩) ↔ Wp (evAs tab cal mkc [true, false, false] es ρ) (c := ⟨fun as ρ1 => Wp (callF cal ["_law_bag_here", "_law_signs_here", "_law_most"] "_law_rows" [] as ρ1) (c := ⟨Q⟩)⟩) := Y.w_call fn__law_rows
theorem wk__law_rows {k : String} {ks : List String} : Wp (evE tab cal mkc (.call "_law_rows" es (k :: ks)) ρ) (c := ⟨Q⟩) ↔ Wp (evEs tab cal mkc es ρ) (c := ⟨fun vs ρ1 => vs.length = (k :: ks).length ∧ Op (byName ["_law_bag_here", "_law_signs_here", "_law_most"] (k :: ks) vs) (c := ⟨fun ws => Wp (cal "_law_rows" (ws.map .fz)) (c := ⟨fun r _ => Q r ρ1⟩)⟩)⟩) := Y.w_callK fn__law_rows
theorem wc__law_page : Wp (evE tab cal mkc (.call "_law_page" es []) ρ) (c := ⟨Q⟩) ↔ Wp (evAs tab cal mkc [false, false] es ρ) (c := ⟨fun as ρ1 => Wp (callF cal ["_law_signs_here", "_law_rows_here"] "_law_page" [] as ρ1) (c := ⟨Q⟩)⟩) := Y.w_call fn__law_page
theorem wk__law_page {k : String} {ks : List String} : Wp (evE tab cal mkc (.call "_law_page" es (k :: ks)) ρ) (c := ⟨Q⟩) ↔ Wp (evEs tab cal mkc es ρ) (c := ⟨fun vs ρ1 => vs.length = (k :: ks).length ∧ Op (byName ["_law_signs_here", "_law_rows_here"] (k :: ks) vs) (c := ⟨fun ws => Wp (cal "_law_page" (ws.map .fz)) (c := ⟨fun r _ => Q r ρ1⟩)⟩)⟩) := Y.w_callK fn__law_page
theorem wc__law_pair_right : Wp (evE tab cal mkc (.call "_law_pair_right" es []) ρ) (c := ⟨Q⟩) ↔ Wp (evAs tab cal mkc [false, false, false] es ρ) (c := ⟨fun as ρ1 => Wp (callF cal ["_law_mine", "_law_mate", "_law_due"] "_law_pair_right" [] as ρ1) (c := ⟨Q⟩)⟩) := Y.w_call fn__law_pair_right
theorem wk__law_pair_right {k : String} {ks : List String} : Wp (evE tab cal mkc (.call "_law_pair_right" es (k :: ks)) ρ) (c := ⟨Q⟩) ↔ Wp (evEs tab cal mkc es ρ) (c := ⟨fun vs ρ1 => vs.length = (k :: ks).length ∧ Op (byName ["_law_mine", "_law_mate", "_law_due"] (k :: ks) vs) (c := ⟨fun ws => Wp (cal "_law_pair_right" (ws.map .fz)) (c := ⟨fun r _ => Q r ρ1⟩)⟩)⟩) := Y.w_callK fn__law_pair_right
theorem wc__law_others : Wp (evE tab cal mkc (.call "_law_others" es []) ρ) (c := ⟨Q⟩) ↔ Wp (evAs tab cal mkc [true, false, false] es ρ) (c := ⟨fun as ρ1 => Wp (callF cal ["_law_bag_here", "_law_signs_here", "_law_rows_here"] "_law_others" [] as ρ1) (c := ⟨Q⟩)⟩) := Y.w_call fn__law_others
theorem wk__law_others {k : String} {ks : List String} : Wp (evE tab cal mkc (.call "_law_others" es (k :: ks)) ρ) (c := ⟨Q⟩) ↔ Wp (evEs tab cal mkc es ρ) (c := ⟨fun vs ρ1 => vs.length = (k :: ks).length ∧ Op (byName ["_law_bag_here", "_law_signs_here", "_law_rows_here"] (k :: ks) vs) (c := ⟨fun ws => Wp (cal "_law_others" (ws.map .fz)) (c := ⟨fun r _ => Q r ρ1⟩)⟩)⟩) := Y.w_callK fn__law_others
theorem wc__law_right : Wp (evE tab cal mkc (.call "_law_right" es []) ρ) (c := ⟨Q⟩) ↔ Wp (evAs tab cal mkc [true] es ρ) (c := ⟨fun as ρ1 => Wp (callF cal ["_law_bag_here"] "_law_right" [] as ρ1) (c := ⟨Q⟩)⟩) := Y.w_call fn__law_right
theorem wk__law_right {k : String} {ks : List String} : Wp (evE tab cal mkc (.call "_law_right" es (k :: ks)) ρ) (c := ⟨Q⟩) ↔ Wp (evEs tab cal mkc es ρ) (c := ⟨fun vs ρ1 => vs.length = (k :: ks).length ∧ Op (byName ["_law_bag_here"] (k :: ks) vs) (c := ⟨fun ws => Wp (cal "_law_right" (ws.map .fz)) (c := ⟨fun r _ => Q r ρ1⟩)⟩)⟩) := Y.w_callK fn__law_right
theorem wc__law_quiet : Wp (evE tab cal mkc (.call "_law_quiet" es []) ρ) (c := ⟨Q⟩) ↔ Wp (evAs tab cal mkc [true] es ρ) (c := ⟨fun as ρ1 => Wp (callF cal ["_law_bag_here"] "_law_quiet" [] as ρ1) (c := ⟨Q⟩)⟩) := Y.w_call fn__law_quiet
theorem wk__law_quiet {k : String} {ks : List String} : Wp (evE tab cal mkc (.call "_law_quiet" es (k :: ks)) ρ) (c := ⟨Q⟩) ↔ Wp (evEs tab cal mkc es ρ) (c := ⟨fun vs ρ1 => vs.length = (k :: ks).length ∧ Op (byName ["_law_bag_here"] (k :: ks) vs) (c := ⟨fun ws => Wp (cal "_law_quiet" (ws.map .fz)) (c := ⟨fun r _ => Q r ρ1⟩)⟩)⟩) := Y.w_callK fn__law_quiet
theorem wc_law : Wp (evE tab cal mkc (.call "law" es []) ρ) (c := ⟨Q⟩) ↔ Wp (evAs tab cal mkc [false] es ρ) (c := ⟨fun as ρ1 => Wp (callF cal ["_law_script"] "law" [] as ρ1) (c := ⟨Q⟩)⟩) := Y.w_call fn_law
theorem wk_law {k : String} {ks : List String} : Wp (evE tab cal mkc (.call "law" es (k :: ks)) ρ) (c := ⟨Q⟩) ↔ Wp (evEs tab cal mkc es ρ) (c := ⟨fun vs ρ1 => vs.length = (k :: ks).length ∧ Op (byName ["_law_script"] (k :: ks) vs) (c := ⟨fun ws => Wp (cal "law" (ws.map .fz)) (c := ⟨fun r _ => Q r ρ1⟩)⟩)⟩) := Y.w_callK fn_law
theorem wm_Machine___init__ : Wp (evE tab cal mkc (.mk "Machine" es []) ρ) (c := ⟨Q⟩) ↔ Wp (evEs tab cal mkc es ρ) (c := ⟨fun vs ρ1 => Wp (mkc "Machine.__init__" (.ow (.obj "Machine" []) :: vs.map .fz)) (c := ⟨fun r fin => Op (asNew r fin) (c := ⟨fun v => Q (.ow v) ρ1⟩)⟩)⟩) := Y.w_mk (c := "Machine") fn_Machine___init__
theorem wv_Machine___init__ {i : Nat} : Wp (evE tab cal mkc (.mkv i "Machine" es) ρ) (c := ⟨Q⟩) ↔ isCls "Machine" (ρ[i]?) = true ∧ Wp (evEs tab cal mkc es ρ) (c := ⟨fun vs ρ1 => Wp (mkc "Machine.__init__" (.ow (.obj "Machine" []) :: vs.map .fz)) (c := ⟨fun r fin => Op (asNew r fin) (c := ⟨fun v => Q (.ow v) ρ1⟩)⟩)⟩) := Y.w_mkv (c := "Machine") fn_Machine___init__
theorem wn_Machine___init__ {k : String} {ks : List String} : Wp (evE tab cal mkc (.mk "Machine" es (k :: ks)) ρ) (c := ⟨Q⟩) ↔ Wp (evEs tab cal mkc es ρ) (c := ⟨fun vs ρ1 => vs.length = (k :: ks).length ∧ Op (byName ["letters", "states"] (k :: ks) vs) (c := ⟨fun ws => Wp (mkc "Machine.__init__" (.ow (.obj "Machine" []) :: ws.map .fz)) (c := ⟨fun r fin => Op (asNew r fin) (c := ⟨fun v => Q (.ow v) ρ1⟩)⟩)⟩)⟩) := Y.w_mkK (c := "Machine") fn_Machine___init__
theorem wd_Machine___len__ {m : String} : Wp (evE tab cal mkc (.mth "Machine.__len__" "Machine" m a es) ρ) (c := ⟨Q⟩) ↔ Wp (argOf false a (evE tab cal mkc a) ρ) (c := ⟨fun r ρ0 => r.isObj ρ0 "Machine" m = true ∧ Wp (evAs tab cal mkc [] es ρ0) (c := ⟨fun as ρ1 => Wp (callF cal ["self"] "Machine.__len__" [] (r :: as) ρ1) (c := ⟨Q⟩)⟩)⟩) := Y.w_mth fn_Machine___len__
theorem wg_Machine___len__ {c m : String} : Wp (evE tab cal mkc (.pg "Machine.__len__" c m a) ρ) (c := ⟨Q⟩) ↔ Wp (argOf false a (evE tab cal mkc a) ρ) (c := ⟨fun r ρ1 => r.isObj ρ1 c m = true ∧ Wp (callF mkc ["self"] "Machine.__len__" [] [r] ρ1) (c := ⟨Q⟩)⟩) := Y.w_pg fn_Machine___len__
theorem wl_Machine___len__ {c : String} : Wp (evE tab cal mkc (.ln "Machine.__len__" c es) ρ) (c := ⟨Q⟩) ↔ Wp (evAs tab cal mkc [false] es ρ) (c := ⟨fun as ρ1 => as.all (Arg.isObj ρ1 c "__len__") = true ∧ Wp (callF mkc ["self"] "Machine.__len__" [] as ρ1) (c := ⟨fun r ρ2 => Wp (lenEnd r ρ2) (c := ⟨Q⟩)⟩)⟩) := Y.w_ln fn_Machine___len__
theorem ws_Machine___bool__ {c m : String} {ne : Bool} : Wp (evE tab cal mkc (.sp "Machine.__bool__" c m ne es) ρ) (c := ⟨Q⟩) ↔ Wp (evAs tab cal mkc [false] es ρ) (c := ⟨fun as ρ1 => Op (spAs ρ1 c m as) (c := ⟨fun bs => Wp (callF mkc ["self"] "Machine.__bool__" [] bs ρ1) (c := ⟨fun r ρ2 => Wp (spEnd m ne r ρ2) (c := ⟨Q⟩)⟩)⟩)⟩) := Y.w_sp fn_Machine___bool__
theorem wd_Machine___bool__ {m : String} : Wp (evE tab cal mkc (.mth "Machine.__bool__" "Machine" m a es) ρ) (c := ⟨Q⟩) ↔ Wp (argOf false a (evE tab cal mkc a) ρ) (c := ⟨fun r ρ0 => r.isObj ρ0 "Machine" m = true ∧ Wp (evAs tab cal mkc [] es ρ0) (c := ⟨fun as ρ1 => Wp (callF cal ["self"] "Machine.__bool__" [] (r :: as) ρ1) (c := ⟨Q⟩)⟩)⟩) := Y.w_mth fn_Machine___bool__
theorem wg_Machine___bool__ {c m : String} : Wp (evE tab cal mkc (.pg "Machine.__bool__" c m a) ρ) (c := ⟨Q⟩) ↔ Wp (argOf false a (evE tab cal mkc a) ρ) (c := ⟨fun r ρ1 => r.isObj ρ1 c m = true ∧ Wp (callF mkc ["self"] "Machine.__bool__" [] [r] ρ1) (c := ⟨Q⟩)⟩) := Y.w_pg fn_Machine___bool__
theorem ws_Machine___str__ {c m : String} {ne : Bool} : Wp (evE tab cal mkc (.sp "Machine.__str__" c m ne es) ρ) (c := ⟨Q⟩) ↔ Wp (evAs tab cal mkc [false] es ρ) (c := ⟨fun as ρ1 => Op (spAs ρ1 c m as) (c := ⟨fun bs => Wp (callF mkc ["self"] "Machine.__str__" [] bs ρ1) (c := ⟨fun r ρ2 => Wp (spEnd m ne r ρ2) (c := ⟨Q⟩)⟩)⟩)⟩) := Y.w_sp fn_Machine___str__
theorem wd_Machine___str__ {m : String} : Wp (evE tab cal mkc (.mth "Machine.__str__" "Machine" m a es) ρ) (c := ⟨Q⟩) ↔ Wp (argOf false a (evE tab cal mkc a) ρ) (c := ⟨fun r ρ0 => r.isObj ρ0 "Machine" m = true ∧ Wp (evAs tab cal mkc [] es ρ0) (c := ⟨fun as ρ1 => Wp (callF cal ["self"] "Machine.__str__" [] (r :: as) ρ1) (c := ⟨Q⟩)⟩)⟩) := Y.w_mth fn_Machine___str__
theorem wg_Machine___str__ {c m : String} : Wp (evE tab cal mkc (.pg "Machine.__str__" c m a) ρ) (c := ⟨Q⟩) ↔ Wp (argOf false a (evE tab cal mkc a) ρ) (c := ⟨fun r ρ1 => r.isObj ρ1 c m = true ∧ Wp (callF mkc ["self"] "Machine.__str__" [] [r] ρ1) (c := ⟨Q⟩)⟩) := Y.w_pg fn_Machine___str__
theorem ws_Machine___eq__ {c m : String} {ne : Bool} : Wp (evE tab cal mkc (.sp "Machine.__eq__" c m ne es) ρ) (c := ⟨Q⟩) ↔ Wp (evAs tab cal mkc [false, false] es ρ) (c := ⟨fun as ρ1 => Op (spAs ρ1 c m as) (c := ⟨fun bs => Wp (callF mkc ["self", "other"] "Machine.__eq__" [] bs ρ1) (c := ⟨fun r ρ2 => Wp (spEnd m ne r ρ2) (c := ⟨Q⟩)⟩)⟩)⟩) := Y.w_sp fn_Machine___eq__
theorem wd_Machine___eq__ {m : String} : Wp (evE tab cal mkc (.mth "Machine.__eq__" "Machine" m a es) ρ) (c := ⟨Q⟩) ↔ Wp (argOf false a (evE tab cal mkc a) ρ) (c := ⟨fun r ρ0 => r.isObj ρ0 "Machine" m = true ∧ Wp (evAs tab cal mkc [false] es ρ0) (c := ⟨fun as ρ1 => Wp (callF cal ["self", "other"] "Machine.__eq__" [] (r :: as) ρ1) (c := ⟨Q⟩)⟩)⟩) := Y.w_mth fn_Machine___eq__
theorem wg_Machine___eq__ {c m : String} : Wp (evE tab cal mkc (.pg "Machine.__eq__" c m a) ρ) (c := ⟨Q⟩) ↔ Wp (argOf false a (evE tab cal mkc a) ρ) (c := ⟨fun r ρ1 => r.isObj ρ1 c m = true ∧ Wp (callF mkc ["self", "other"] "Machine.__eq__" [] [r] ρ1) (c := ⟨Q⟩)⟩) := Y.w_pg fn_Machine___eq__
theorem wq_Machine_read {c : String} : Wp (evE tab cal mkc (.cm "Machine.read" c es []) ρ) (c := ⟨Q⟩) ↔ Wp (evEs tab cal mkc es ρ) (c := ⟨fun vs ρ1 => Wp (cal "Machine.read" (.fz (.cls c) :: vs.map .fz)) (c := ⟨fun r _ => Q r ρ1⟩)⟩) := Y.w_cm fn_Machine_read
theorem wr_Machine_read {c k : String} {ks : List String} : Wp (evE tab cal mkc (.cm "Machine.read" c es (k :: ks)) ρ) (c := ⟨Q⟩) ↔ Wp (evEs tab cal mkc es ρ) (c := ⟨fun vs ρ1 => vs.length = (k :: ks).length ∧ Op (byName ["text"] (k :: ks) vs) (c := ⟨fun ws => Wp (cal "Machine.read" (.fz (.cls c) :: ws.map .fz)) (c := ⟨fun r _ => Q r ρ1⟩)⟩)⟩) := Y.w_cmK fn_Machine_read
end
def WC := (aI (aI (aI (aI (aI @wc_is_integer (aI @wk_is_integer @wc_is_word_of)) (aI @wk_is_word_of (aI @wc_is_tuple_of @wk_is_tuple_of))) (aI (aI @wc_are_letters (aI @wk_are_letters @wc_is_state)) (aI @wk_is_state (aI @wc_digit_of @wk_digit_of)))) (aI (aI (aI @wc_state_of (aI @wk_state_of @wc__law_bag)) (aI @wk__law_bag (aI @wc__law_take @wk__law_take))) (aI (aI @wc__law_signs (aI @wk__law_signs @wc__law_rows)) (aI (aI @wk__law_rows @wc__law_page) (aI @wk__law_page @wc__law_pair_right))))) (aI (aI (aI (aI @wk__law_pair_right (aI @wc__law_others @wk__law_others)) (aI @wc__law_right (aI @wk__law_right @wc__law_quiet))) (aI (aI @wk__law_quiet (aI @wc_law @wk_law)) (aI (aI @wm_Machine___init__ @wv_Machine___init__) (aI @wn_Machine___init__ @wd_Machine___len__)))) (aI (aI (aI @wg_Machine___len__ (aI @wl_Machine___len__ @ws_Machine___bool__)) (aI @wd_Machine___bool__ (aI @wg_Machine___bool__ @ws_Machine___str__))) (aI (aI @wd_Machine___str__ (aI @wg_Machine___str__ @ws_Machine___eq__)) (aI (aI @wd_Machine___eq__ @wg_Machine___eq__) (aI @wq_Machine_read @wr_Machine_read))))))
def WT := (aI (aI (aI @tab_letters (aI @tab_states @ti_bool)) (aI @ti_int (aI @ti_str @ti_tuple))) (aI (aI @ti_list (aI @tp_dict0 @tc_MOST_LETTERS)) (aI (aI @tc_MOST_STATES @tc_MOST_COLOUR) (aI @tc_LETTERS @tc_DIGITS))))
end EV
namespace EV
open PySem
theorem splS_free {c : Nat} : ∀ {l : List Nat}, c ∉ l → splS c l = [l]
  | [], _ => rfl
  | d :: r, h => by
    have hd : d ≠ c := fun e => h (by rw [e]; exact List.mem_cons_self)
    have ih := splS_free (c := c) (l := r) fun e => h (List.mem_cons_of_mem _ e)
    simp only [splS, if_neg hd, ih]
theorem splS_app {c : Nat} : ∀ {l r : List Nat}, c ∉ l → splS c (l ++ c :: r) = l :: splS c r
  | [], r, _ => by simp [splS]
  | d :: l, r, h => by
    have hd : d ≠ c := fun e => h (by rw [e]; exact List.mem_cons_self)
    have ih := splS_app (c := c) (l := l) (r := r) fun e => h (List.mem_cons_of_mem _ e)
    rw [List.cons_append]
    simp only [splS, if_neg hd, ih]
theorem splS_join {c : Nat} : ∀ {ps : List (List Nat)}, ps ≠ [] → (∀ p ∈ ps, c ∉ p) → splS c (joinS [c] ps) = ps
  | [], h, _ => absurd rfl h
  | [p], _, h => splS_free (h p (by simp))
  | p :: q :: r, _, h => by
    show splS c (p ++ [c] ++ joinS [c] (q :: r)) = _
    rw [List.append_assoc]
    show splS c (p ++ c :: joinS [c] (q :: r)) = _
    rw [splS_app (h p (by simp)), splS_join (by simp) fun x hx => h x (List.mem_cons_of_mem _ hx)]
theorem allS_mapT {α : Type} (f : α → List Nat) : ∀ l : List α, allS (l.map fun x => Val.str (f x)) = some (l.map f)
  | [] => rfl
  | x :: r => by simp [allS, allS_mapT f r]
theorem join_len (s : List Nat) : ∀ ps : List (List Nat), (joinS s ps).length ≤ (ps.map (·.length)).sum + ps.length * s.length
  | [] => by simp [joinS]
  | [p] => by simp [joinS]
  | p :: q :: r => by
    have ih := join_len s (q :: r)
    show (p ++ s ++ joinS s (q :: r)).length ≤ _
    simp only [List.length_append, List.map_cons, List.sum_cons, List.length_cons] at ih ⊢
    rw [Nat.add_mul (r.length + 1) 1, Nat.one_mul]
    omega
theorem intS_dig : ∀ n : Nat, n < 10 → intS (n : Int) = [48 + n] := by
  intro n h
  have : n = 0 ∨ n = 1 ∨ n = 2 ∨ n = 3 ∨ n = 4 ∨ n = 5 ∨ n = 6 ∨ n = 7 ∨ n = 8 ∨ n = 9 := by omega
  rcases this with rfl | rfl | rfl | rfl | rfl | rfl | rfl | rfl | rfl | rfl <;> decide +kernel
theorem intS_i {i : Int} (h0 : 0 ≤ i) (h1 : i < 10) : intS i = [48 + i.toNat] := by
  obtain ⟨n, rfl⟩ := Int.eq_ofNat_of_zero_le h0
  exact intS_dig n (by omega)
theorem rng_okT {m : Int} (h0 : 0 ≤ m) (h1 : m ≤ 1000) : rngF [.int m] = some ((List.range m.toNat).map fun t : Nat => Val.int (t : Nat)) := by
  have e : rngF [.int m] = if -(cap : Int) ≤ m ∧ m ≤ cap then some (rng 0 m) else none := rfl
  rw [e, if_pos (by unfold cap; omega)]
  unfold rng
  simp
theorem idx_l0 {x : Val} {xs : List Val} : idxF (.lst (x :: xs)) (.int 0) = some x := by
  have : (0 : Int) < ((xs.length : Nat) : Int) + 1 := by omega
  simp [idxF, ixN, this]
theorem idx_l1 {x y : Val} {xs : List Val} : idxF (.lst (x :: y :: xs)) (.int 1) = some y := by
  have : (1 : Int) < ((xs.length : Nat) : Int) + 1 + 1 := by omega
  simp [idxF, ixN, this]
end EV
namespace EV
theorem aJ {a b : Prop} (x : a) (y : b) : a ∧ b := ⟨x, y⟩
def eVq := (aJ (aJ (aJ (aJ @evE.eq_1 (aJ @evE.eq_2 @evE.eq_3)) (aJ @evE.eq_4 (aJ @evE.eq_5 @evE.eq_6))) (aJ (aJ @evE.eq_7 (aJ @evE.eq_8 @evE.eq_9)) (aJ (aJ @evE.eq_10 @evE.eq_11) (aJ @evE.eq_12 @evE.eq_13)))) (aJ (aJ (aJ @evE.eq_14 (aJ @evE.eq_15 @evE.eq_16)) (aJ @evE.eq_17 (aJ @evE.eq_18 @evE.eq_19))) (aJ (aJ @evE.eq_20 (aJ @evE.eq_21 @evE.eq_25)) (aJ (aJ @evE.eq_26 @evE.eq_27) (aJ @evE.eq_28 @evE.eq_31)))))
theorem q_is_integer (k : Nat) (i a b : Int) : evF tab (k + 1) "is_integer" [.fz (.int i), .fz (.int a), .fz (.int b)] = some (.ok (.fz (.bl (decide (a ≤ i) && decide (i ≤ b)))) [.fz (.int i), .fz (.int a), .fz (.int b)]) := by
  rw [evF_succ, run_def fn_is_integer (tab_ext _) rfl]
  by_cases h : a ≤ i <;> simp [ir_is_integer, eVq, evSs, evS, evOp, evC, evEs, opnd, Opd.val, Slot.val, slotAt, fixv, isiV, isiF, typ, asBool, cmpF, endF, keptIo, lift, pur, bltF, len, eqF, assn, assns, h]
theorem allB_map {α : Type} (f : α → Bool) : ∀ l : List α, allB (l.map fun x => .bl (f x)) = some (l.map f)
  | [] => rfl
  | x :: r => by simp [allB, allB_map f r]
theorem shp_int (i : Int) : shp (.int i) = true := rfl
theorem eqF_int (a b : Int) : eqF (.int a) (.int b) = some (a == b) := by
  unfold eqF
  rw [shp_int, shp_int]
  rfl
theorem q_is_tuple_of (k : Nat) (vs : List Val) (m : Int) : evF tab (k + 1) "is_tuple_of" [.fz (.tup vs), .fz (.int m)] = some (.ok (.fz (.bl (decide ((vs.length : Int) = m)))) [.fz (.tup vs), .fz (.int m)]) := by
  rw [evF_succ, run_def fn_is_tuple_of (tab_ext _) rfl]
  simp [ir_is_tuple_of, eVq, evSs, evS, evOp, evC, evEs, opnd, Opd.val, Slot.val, slotAt, fixv, isiV, isiF, typ, asBool, cmpF, endF, keptIo, lift, pur, bltF, len, assn, assns, eqF_int]
  rfl
end EV
namespace EV
theorem q_take_pos (k : Nat) (g m t n : Int) (hg : 0 < g) (hn : 0 < n) (hn2 : n < 1073741824) : evF tab (k + 1) "_law_take" [.ow (.lst [.int g, .int m, .int t]), .fz (.int n)] = some (.ok (.fz (.int (g % n))) [.ow (.lst [.int (g / n), .int m, .int t]), .fz (.int n)]) := by
  rw [evF_succ, run_def fn__law_take (tab_ext _) rfl]
  simp [ir__law_take, eVq, evSs, evS, evOp, evC, evEs, opnd, Opd.val, Slot.val, slotAt, fixv, isiV, isiF, typ, asBool, cmpF, endF, keptIo, lift, pur, bltF, len, eqF, assn, assns, idxF, ixN, hg, hn, hn2, ownAt, setF]
theorem q_take_non (k : Nat) (g m t n : Int) (hg : g ≤ 0) (hn : 0 < n) (hn2 : n < 1073741824) : evF tab (k + 1) "_law_take" [.ow (.lst [.int g, .int m, .int t]), .fz (.int n)] = some (.ok (.fz (.int ((m * 40099 + 22003 * (t + 1)) % 2147483489 / 1024 % n))) [.ow (.lst [.int g, .int ((m * 40099 + 22003 * (t + 1)) % 2147483489), .int (t + 1)]), .fz (.int n)]) := by
  rw [evF_succ, run_def fn__law_take (tab_ext _) rfl]
  have h : ¬ 0 < g := by omega
  have s1 : small 40099 = true := by decide
  have s2 : small 22003 = true := by decide
  simp [ir__law_take, eVq, evSs, evS, evOp, evC, evEs, opnd, Opd.val, Slot.val, slotAt, fixv, isiV, isiF, typ, asBool, cmpF, endF, keptIo, lift, pur, bltF, len, eqF, assn, assns, idxF, ixN, h, hn, hn2, ownAt, setF, binF, s1, s2]
def bagV (b : Int × Int × Int) : Val := .lst [.int b.1, .int b.2.1, .int b.2.2]
def draw (b : Int × Int × Int) (n : Int) : Int × (Int × Int × Int) :=
  if 0 < b.1 then (b.1 % n, (b.1 / n, b.2.1, b.2.2)) else
    ((b.2.1 * 40099 + 22003 * (b.2.2 + 1)) % 2147483489 / 1024 % n, (b.1, (b.2.1 * 40099 + 22003 * (b.2.2 + 1)) % 2147483489, b.2.2 + 1))
theorem q_take (k : Nat) (b : Int × Int × Int) (n : Int) (hn : 0 < n) (hn2 : n < 1073741824) : evF tab (k + 1) "_law_take" [.ow (bagV b), .fz (.int n)] = some (.ok (.fz (.int (draw b n).1)) [.ow (bagV (draw b n).2), .fz (.int n)]) := by
  unfold draw bagV
  by_cases h : 0 < b.1
  · rw [if_pos h]; exact q_take_pos k _ _ _ n h hn hn2
  · rw [if_neg h]; exact q_take_non k _ _ _ n (by omega) hn hn2
theorem draw_lt {b : Int × Int × Int} {n : Int} (hn : 0 < n) : 0 ≤ (draw b n).1 ∧ (draw b n).1 < n := by
  unfold draw
  split
  · exact ⟨Int.emod_nonneg _ (by omega), Int.emod_lt_of_pos _ hn⟩
  · exact ⟨Int.emod_nonneg _ (by omega), Int.emod_lt_of_pos _ hn⟩
theorem ev_call {T : Tab} {cal mkc : Cal} {f : String} {d : Def} {es : List Ex} {ρ ρ1 : Ro} {as : List Arg} (hd : T.fn f = some d) (ha : evAs T cal mkc d.io es ρ = some (.ok as ρ1)) : evE T cal mkc (.call f es []) ρ = callF cal d.ps f [] as ρ1 := by
  simp only [evE, hd, ha, bnd_ok]
def sgn (i : Int) : List Nat := (["ab", "a", "abc", "xz", "q", "mno", "ab", "hy"].map asStr).getD i.toNat []
theorem q_signs (k : Nat) (b : Int × Int × Int) : evF tab (k + 2) "_law_signs" [.ow (bagV b)] = some (.ok (.fz (.str (sgn (draw b 8).1))) [.ow (bagV (draw b 8).2)]) := by
  rw [evF_succ, run_def fn__law_signs (tab_ext _) rfl]
  have h := draw_lt (b := b) (n := 8) (by omega)
  have hc : evE tab (evF tab (k + 1)) (ev2 tab (k + 1)).2 (.call "_law_take" [.v 0, .int 8] []) [.ow (bagV b)] = some (.ok (.fz (.int (draw b 8).1)) [.ow (bagV (draw b 8).2)]) := by
    rw [ev_call (as := [.io 0, .va (.int 8)]) (ρ1 := [.ow (bagV b)]) fn__law_take (by simp [ir__law_take, evAs, argOf, ownAt, Arg.isN, eVq, evSs, evS, evOp, evC, evEs, opnd, Opd.val, Slot.val, slotAt, fixv, isiV, isiF, typ, asBool, cmpF, endF, keptIo, lift, pur, bltF, len, eqF, assn, assns])]
    simp [callF, ioNd, Arg.isAt, Arg.slot, order, q_take k b 8 (by omega) (by omega), finish, putBack]
  have e : evSs tab (evF tab (k + 1)) (ev2 tab (k + 1)).2 ir__law_signs.body [.ow (bagV b)] = some (.ok (.rt (.fz (.str (sgn (draw b 8).1)))) [.ow (bagV (draw b 8).2)]) := by
    have : (draw b 8).1 = 0 ∨ (draw b 8).1 = 1 ∨ (draw b 8).1 = 2 ∨ (draw b 8).1 = 3 ∨ (draw b 8).1 = 4 ∨ (draw b 8).1 = 5 ∨ (draw b 8).1 = 6 ∨ (draw b 8).1 = 7 := by omega
    rcases this with hi | hi | hi | hi | hi | hi | hi | hi <;> simp [ir__law_signs, eVq, evSs, evS, evOp, evC, evEs, opnd, Opd.val, Slot.val, slotAt, fixv, isiV, isiF, typ, asBool, cmpF, endF, keptIo, lift, pur, bltF, len, eqF, assn, assns, hc, hi, idxF, ixN, sgn, cap]
  show endF _ _ (evSs tab (evF tab (k + 1)) (ev2 tab (k + 1)).2 ir__law_signs.body [.ow (bagV b)]) = _
  rw [e]
  simp [endF, keptIo, ir__law_signs]
theorem cut_len {α : Type} (xs : List α) (lo hi : Option Int) : (cut xs lo hi).length ≤ xs.length := by
  unfold cut
  rw [List.length_take, List.length_drop]
  omega
theorem q_bag (k : Nat) (ns : List Int) (t : Nat) (h : ns.length ≤ 63) : ∃ b, evF tab (k + 1) "_law_bag" [.fz (.scr ns), .fz (.int (t : Nat))] = some (.ok (.ow (bagV b)) [.fz (.scr ns), .fz (.int (t : Nat))]) := by
  rw [evF_succ, run_def fn__law_bag (tab_ext _) rfl]
  have s1 : small 29 = true := by decide
  have s2 : small 34019 = true := by decide
  have s3 : small 43051 = true := by decide
  obtain ⟨g, hg⟩ : ∃ g : Int, evE tab (evF tab k) (ev2 tab k).2 (.ite (.cmp .lt (.v 1) (.blt .len [.v 0])) (.idx (.v 0) (.v 1)) (.bin .add (.bin .mul (.int 29) (.v 1)) (.int 8))) [.fz (.scr ns), .fz (.int (t : Nat)), .un, .un, .un] = some (.ok (.fz (.int g)) [.fz (.scr ns), .fz (.int (t : Nat)), .un, .un, .un]) := by
    by_cases ht : t < ns.length
    · refine ⟨ns[t], ?_⟩
      simp [eVq, evSs, evS, evOp, evC, evEs, opnd, Opd.val, Slot.val, slotAt, fixv, isiV, isiF, typ, asBool, cmpF, endF, keptIo, lift, pur, bltF, len, eqF, assn, assns, ht, idxF, ixN]
    · refine ⟨29 * (t : Nat) + 8, ?_⟩
      simp [eVq, evSs, evS, evOp, evC, evEs, opnd, Opd.val, Slot.val, slotAt, fixv, isiV, isiF, typ, asBool, cmpF, endF, keptIo, lift, pur, bltF, len, eqF, assn, assns, ht, binF, s1]
  have hit : ∀ m0 : Int, evIt tab (evF tab k) (ev2 tab k).2 (.seq (.bin .add (.lst [.v 2]) (.slc (.v 0) none (some (.int 6))))) [.fz (.scr ns), .fz (.int (t : Nat)), .fz (.int g), .fz (.int m0), .un] = some (.ok ((g :: cut ns none (some 6)).map .int) [.fz (.scr ns), .fz (.int (t : Nat)), .fz (.int g), .fz (.int m0), .un]) := by
    intro m0
    have hc := cut_len ns none (some 6)
    have hb : (cut ns none (some 6)).length ≤ 999999 := by omega
    simp [evIt, itemsF, eVq, evSs, evS, evOp, evC, evEs, opnd, Opd.val, Slot.val, slotAt, fixv, isiV, isiF, typ, asBool, cmpF, endF, keptIo, lift, pur, bltF, len, eqF, assn, assns, slcF, binF, cap]
    rw [if_pos (by omega)]
    simp
  have loop : ∀ m0 : Int, ∃ (m : Int) (s : Slot), evS tab (evF tab k) (ev2 tab k).2 (.for_ (.nm 4) (.seq (.bin .add (.lst [.v 2]) (.slc (.v 0) none (some (.int 6))))) [.asg (.nm 3) (.bin .mod (.blt .int [.bin .add (.bin .mul (.v 3) (.int 43051)) (.v 4)]) (.int 2147483489))]) [.fz (.scr ns), .fz (.int (t : Nat)), .fz (.int g), .fz (.int m0), .un] = some (.ok .nx [.fz (.scr ns), .fz (.int (t : Nat)), .fz (.int g), .fz (.int m), s]) := by
    intro m0
    obtain ⟨ρ', h1, m, s, rfl⟩ := forF_inv (body := evSs tab (evF tab k) (ev2 tab k).2 [.asg (.nm 3) (.bin .mod (.blt .int [.bin .add (.bin .mul (.v 3) (.int 43051)) (.v 4)]) (.int 2147483489))]) (t := .nm 4) (fun _ ρ => ∃ (m : Int) (s : Slot), ρ = [.fz (.scr ns), .fz (.int (t : Nat)), .fz (.int g), .fz (.int m), s]) ((g :: cut ns none (some 6)).map .int) 0 [.fz (.scr ns), .fz (.int (t : Nat)), .fz (.int g), .fz (.int m0), .un] ⟨m0, .un, rfl⟩ (fun n x ρ hx hI => by
      obtain ⟨m, s, rfl⟩ := hI
      rw [List.getElem?_map] at hx
      obtain ⟨i, _, rfl⟩ := Option.map_eq_some_iff.mp hx
      refine ⟨_, [.fz (.scr ns), .fz (.int (t : Nat)), .fz (.int g), .fz (.int ((m * 43051 + i) % 2147483489)), .fz (.int i)], rfl, ?_, (m * 43051 + i) % 2147483489, .fz (.int i), rfl⟩
      simp [eVq, evSs, evS, evOp, evC, evEs, opnd, Opd.val, Slot.val, slotAt, fixv, isiV, isiF, typ, asBool, cmpF, endF, keptIo, lift, pur, bltF, len, eqF, assn, assns, binF, s3])
    refine ⟨m, s, ?_⟩
    simp only [evS, hit, bnd_ok]
    rw [if_pos, h1]
    have hc := cut_len ns none (some 6)
    unfold cap
    simp
    omega
  obtain ⟨m, s, hl⟩ := loop (86028121 + 34019 * (t : Nat))
  refine ⟨(if 10 ^ 18 ≤ (if g < 0 then -g else g) then (if g < 0 then -g else g) else 0, m, 0), ?_⟩
  have e : evSs tab (evF tab k) (ev2 tab k).2 ir__law_bag.body [.fz (.scr ns), .fz (.int (t : Nat)), .un, .un, .un] = some (.ok (.rt (.ow (bagV (if 10 ^ 18 ≤ (if g < 0 then -g else g) then (if g < 0 then -g else g) else 0, m, 0)))) [.fz (.scr ns), .fz (.int (t : Nat)), .fz (.int g), .fz (.int m), s]) := by
    have st1 : evS tab (evF tab k) (ev2 tab k).2 (.asg (.nm 3) (.bin .add (.int 86028121) (.bin .mul (.int 34019) (.v 1)))) [.fz (.scr ns), .fz (.int (t : Nat)), .fz (.int g), .un, .un] = some (.ok .nx [.fz (.scr ns), .fz (.int (t : Nat)), .fz (.int g), .fz (.int (86028121 + 34019 * (t : Nat))), .un]) := by
      simp [eVq, evSs, evS, evOp, evC, evEs, opnd, Opd.val, Slot.val, slotAt, fixv, isiV, isiF, typ, asBool, cmpF, endF, keptIo, lift, pur, bltF, len, eqF, assn, assns, binF, s2]
    have st0 : evS tab (evF tab k) (ev2 tab k).2 (.asg (.nm 2) (.ite (.cmp .lt (.v 1) (.blt .len [.v 0])) (.idx (.v 0) (.v 1)) (.bin .add (.bin .mul (.int 29) (.v 1)) (.int 8)))) [.fz (.scr ns), .fz (.int (t : Nat)), .un, .un, .un] = some (.ok .nx [.fz (.scr ns), .fz (.int (t : Nat)), .fz (.int g), .un, .un]) := by
      simp only [evS, hg, bnd_ok]
      simp [assn, pur]
    have st3 : evS tab (evF tab k) (ev2 tab k).2 (.ret (.lst [.ite (.cmp .ge (.blt .abs [.v 2]) (.bin .pow (.int 10) (.int 18))) (.blt .abs [.v 2]) (.int 0), .v 3, .int 0])) [.fz (.scr ns), .fz (.int (t : Nat)), .fz (.int g), .fz (.int m), s] = some (.ok (.rt (.ow (bagV (if 10 ^ 18 ≤ (if g < 0 then -g else g) then (if g < 0 then -g else g) else 0, m, 0)))) [.fz (.scr ns), .fz (.int (t : Nat)), .fz (.int g), .fz (.int m), s]) := by
      by_cases hc : (1000000000000000000 : Int) ≤ (if g < 0 then -g else g)
      · simp [eVq, evSs, evS, evOp, evC, evEs, opnd, Opd.val, Slot.val, slotAt, fixv, isiV, isiF, typ, asBool, cmpF, endF, keptIo, lift, pur, bltF, len, eqF, assn, assns, binF, bagV, cap, hc]
      · simp [eVq, evSs, evS, evOp, evC, evEs, opnd, Opd.val, Slot.val, slotAt, fixv, isiV, isiF, typ, asBool, cmpF, endF, keptIo, lift, pur, bltF, len, eqF, assn, assns, binF, bagV, cap, hc]
    simp only [ir__law_bag, evSs, st0, st1, hl, st3, bnd_ok, pur]
  show endF _ _ (evSs tab (evF tab k) (ev2 tab k).2 ir__law_bag.body [.fz (.scr ns), .fz (.int (t : Nat)), .un, .un, .un]) = _
  rw [e]
  simp [endF, keptIo, ir__law_bag]
end EV
namespace EV
theorem q_is_state (k : Nat) (c : Int) (ts : List Int) (l : List Nat) (n : Int) (hts : ts.length ≤ cap) (hl : l.length ≤ cap) :
    evF tab (k + 2) "is_state" [.fz (.tup [.int c, .tup (ts.map .int)]), .fz (.str l), .fz (.int n)] = some (.ok (.fz (.bl ((decide (0 ≤ c) && decide (c ≤ 6)) && (decide ((ts.length : Int) = l.length) && ts.all fun t => decide (0 ≤ t) && decide (t ≤ n - 1))))) [.fz (.tup [.int c, .tup (ts.map .int)]), .fz (.str l), .fz (.int n)]) := by
  rw [evF_succ, run_def fn_is_state (tab_ext _) rfl]
  have hlc : evE tab (evF tab (k + 1)) (ev2 tab (k + 1)).2 (.lc [3] (.nm 3) (.seq (.idx (.v 0) (.int 1))) none (.call "is_integer" [.v 3, .int 0, .bin .sub (.v 2) (.int 1)] [])) [.fz (.tup [.int c, .tup (ts.map .int)]), .fz (.str l), .fz (.int n), .un] = some (.ok (.ow (.lst (ts.map fun t => .bl (decide (0 ≤ t) && decide (t ≤ n - 1))))) [.fz (.tup [.int c, .tup (ts.map .int)]), .fz (.str l), .fz (.int n), .un]) := by
    have := ev_lc1 (T := tab) (cal := evF tab (k + 1)) (mkc := (ev2 tab (k + 1)).2) (i := 3) (it := .seq (.idx (.v 0) (.int 1))) (c := none) (e := .call "is_integer" [.v 3, .int 0, .bin .sub (.v 2) (.int 1)] []) (ρ := [.fz (.tup [.int c, .tup (ts.map .int)]), .fz (.str l), .fz (.int n), .un]) (ρ1 := [.fz (.tup [.int c, .tup (ts.map .int)]), .fz (.str l), .fz (.int n), .un]) (xs := ts.map .int) (s := .un)
      (g := fun v => match v with | .int t => some (.bl (decide (0 ≤ t) && decide (t ≤ n - 1))) | _ => none) (by simp [evIt, itemsF, eVq, evSs, evS, evOp, evC, evEs, opnd, Opd.val, Slot.val, slotAt, fixv, isiV, isiF, typ, asBool, cmpF, endF, keptIo, lift, pur, bltF, len, assn, assns, evE.eq_22, evAs, argOf, callF, ioNd, order, finish, putBack, Arg.slot, Arg.isN, Arg.isAt, Arg.isV, ownAt, newArg, idxF, ixN, binF]) (by simpa using hts) rfl (fun _ z => by cases z) (fun x hx => by
        obtain ⟨t, _, rfl⟩ := List.mem_map.mp hx
        simp [lcF, eVq, evSs, evS, evOp, evC, evEs, opnd, Opd.val, Slot.val, slotAt, fixv, isiV, isiF, typ, asBool, cmpF, endF, keptIo, lift, pur, bltF, len, assn, assns, evE.eq_22, evAs, argOf, callF, ioNd, order, finish, putBack, Arg.slot, Arg.isN, Arg.isAt, Arg.isV, ownAt, newArg, idxF, ixN, binF, fn_is_integer, ir_is_integer, q_is_integer])
    rw [this]
    congr 3
    rw [List.filterMap_map]
    simp [Function.comp_def]
  have hmc : tab.cst "MOST_COLOUR" = some (.int 6) := tc_MOST_COLOUR
  by_cases h1 : 0 ≤ c <;> by_cases h2 : c ≤ 6 <;> by_cases h3 : (ts.length : Int) = l.length <;> simp [ir_is_state, eVq, evSs, evS, evOp, evC, evEs, opnd, Opd.val, Slot.val, slotAt, fixv, isiV, isiF, typ, asBool, cmpF, endF, keptIo, lift, pur, bltF, len, assn, assns, evE.eq_22, evAs, argOf, callF, ioNd, order, finish, putBack, Arg.slot, Arg.isN, Arg.isAt, Arg.isV, ownAt, newArg, idxF, ixN, binF, fn_is_integer, ir_is_integer, q_is_integer, fn_is_tuple_of, ir_is_tuple_of, q_is_tuple_of, hmc, hlc, hl, h1, h2, h3, allB_map]
abbrev RowI := Int × List Int
def rowV (r : RowI) : Val := .tup [.int r.1, .tup (r.2.map .int)]
def rowsV (R : List RowI) : Val := .tup (R.map rowV)
def machV (l : List Nat) (R : List RowI) : Val := .obj "Machine" [("held_letters", .str l), ("held_states", rowsV R)]
structure GoodM (l : List Nat) (R : List RowI) : Prop where
  one : R ≠ []
  six : R.length ≤ 6
  let_ : l.length ≤ 3
  row : ∀ r ∈ R, 0 ≤ r.1 ∧ r.1 ≤ 6 ∧ r.2.length = l.length ∧ ∀ t ∈ r.2, 0 ≤ t ∧ t < R.length
theorem q_state_ok (k : Nat) {l : List Nat} {R : List RowI} (G : GoodM l R) {r : RowI} (hr : r ∈ R) : evF tab (k + 2) "is_state" [.fz (rowV r), .fz (.str l), .fz (.int (R.length : Nat))] = some (.ok (.fz (.bl true)) [.fz (rowV r), .fz (.str l), .fz (.int (R.length : Nat))]) := by
  obtain ⟨h1, h2, h3, h4⟩ := G.row r hr
  have hl := G.let_
  have := q_is_state k r.1 r.2 l (R.length : Nat) (by unfold cap; omega) (by unfold cap; omega)
  unfold rowV
  rw [this]
  have ha : (r.2.all fun t => decide (0 ≤ t) && decide (t ≤ (R.length : Int) - 1)) = true := by
    rw [List.all_eq_true]
    intro t ht
    have := h4 t ht
    simp only [Bool.and_eq_true, decide_eq_true_eq]
    omega
  rw [ha]
  simp [h1, h2, h3]
theorem q_init (k : Nat) {l : List Nat} {R : List RowI} (G : GoodM l R) (hA : evF tab (k + 2) "are_letters" [.fz (.str l)] = some (.ok (.fz (.bl true)) [.fz (.str l)])) :
    evF tab (k + 3) "Machine.__init__" [.ow (.obj "Machine" []), .fz (.str l), .fz (rowsV R)] = some (.ok (.fz .non) [.ow (machV l R), .fz (.str l), .fz (rowsV R)]) := by
  rw [evF_succ, run_def fn_Machine___init__ (tab_ext _) rfl]
  have hms : tab.cst "MOST_STATES" = some (.int 6) := tc_MOST_STATES
  have f1 : tab.fld "Machine" "held_letters" = true := by kernel_rfl
  have f2 : tab.fld "Machine" "held_states" = true := by kernel_rfl
  have h0 : ¬ (R.length = 0) := fun z => G.one (List.length_eq_zero_iff.mp z)
  have hsix := G.six
  obtain ⟨ρ', h1, a, b, rfl⟩ := forF_inv (body := evSs tab (evF tab (k + 2)) (ev2 tab (k + 2)).2 [.ife (.or (.cmp .eq (.v 3) (.g "MOST_STATES")) (.nt (.call "is_state" [.v 4, .v 1, .blt .len [.v 2]] []))) [.expr (.g "?")] []]) (t := .tp [.nm 3, .nm 4]) (fun _ ρ => ∃ (a b : Slot), ρ = [.ow (.obj "Machine" []), .fz (.str l), .fz (rowsV R), a, b]) (enumL 0 (R.map rowV)) 0 [.ow (.obj "Machine" []), .fz (.str l), .fz (rowsV R), .un, .un] ⟨.un, .un, rfl⟩ (fun n x ρ hx hI => by
    obtain ⟨a, b, rfl⟩ := hI
    rw [enumL_get, List.getElem?_map] at hx
    cases hr : R[n]? with
    | none => rw [hr] at hx; cases hx
    | some r =>
      rw [hr] at hx
      cases hx
      have hm := List.mem_of_getElem? hr
      have hn : n < R.length := (List.getElem?_eq_some_iff.mp hr).1
      refine ⟨_, _, rfl, ?_, .fz (.int ((0 + n : Nat) : Int)), .fz (rowV r), rfl⟩
      have hq := q_state_ok k G hm
      have hne : ¬ ((n : Int) = 6) := by omega
      simp [eVq, evSs, evS, evOp, evC, evEs, opnd, Opd.val, Slot.val, slotAt, fixv, isiV, isiF, typ, asBool, cmpF, endF, keptIo, lift, pur, bltF, len, assn, assns, evE.eq_22, evAs, argOf, callF, ioNd, order, finish, putBack, Arg.slot, Arg.isN, Arg.isAt, Arg.isV, ownAt, newArg, idxF, ixN, binF, hms, eqF_int, hne, fn_is_state, ir_is_state, rowsV, hq])
  have st3 : evS tab (evF tab (k + 2)) (ev2 tab (k + 2)).2 (.for_ (.tp [.nm 3, .nm 4]) (.enum (.v 2)) [.ife (.or (.cmp .eq (.v 3) (.g "MOST_STATES")) (.nt (.call "is_state" [.v 4, .v 1, .blt .len [.v 2]] []))) [.expr (.g "?")] []]) [.ow (.obj "Machine" []), .fz (.str l), .fz (rowsV R), .un, .un] = some (.ok .nx [.ow (.obj "Machine" []), .fz (.str l), .fz (rowsV R), a, b]) := by
    have hit : evIt tab (evF tab (k + 2)) (ev2 tab (k + 2)).2 (.enum (.v 2)) [.ow (.obj "Machine" []), .fz (.str l), .fz (rowsV R), .un, .un] = some (.ok (enumL 0 (R.map rowV)) [.ow (.obj "Machine" []), .fz (.str l), .fz (rowsV R), .un, .un]) := by
      simp [evIt, seqOf, eVq, evSs, evS, evOp, evC, evEs, opnd, Opd.val, Slot.val, slotAt, fixv, isiV, isiF, typ, asBool, cmpF, endF, keptIo, lift, pur, bltF, len, assn, assns, evE.eq_22, evAs, argOf, callF, ioNd, order, finish, putBack, Arg.slot, Arg.isN, Arg.isAt, Arg.isV, ownAt, newArg, idxF, ixN, binF, rowsV]
    simp only [evS, hit, bnd_ok]
    rw [if_pos (by rw [enumL_len, List.length_map]; unfold cap; omega), h1]
  have st1 : evS tab (evF tab (k + 2)) (ev2 tab (k + 2)).2 (.ife (.nt (.call "are_letters" [.v 1] [])) [.expr (.g "?")] []) [.ow (.obj "Machine" []), .fz (.str l), .fz (rowsV R), .un, .un] = some (.ok .nx [.ow (.obj "Machine" []), .fz (.str l), .fz (rowsV R), .un, .un]) := by
    simp [eVq, evSs, evS, evOp, evC, evEs, opnd, Opd.val, Slot.val, slotAt, fixv, isiV, isiF, typ, asBool, cmpF, endF, keptIo, lift, pur, bltF, len, assn, assns, evE.eq_22, evAs, argOf, callF, ioNd, order, finish, putBack, Arg.slot, Arg.isN, Arg.isAt, Arg.isV, ownAt, newArg, idxF, ixN, binF, fn_are_letters, ir_are_letters, hA]
  have st2 : evS tab (evF tab (k + 2)) (ev2 tab (k + 2)).2 (.ife (.or (.nt (.isi (.v 2) "tuple")) (.cmp .eq (.blt .len [.v 2]) (.int 0))) [.expr (.g "?")] []) [.ow (.obj "Machine" []), .fz (.str l), .fz (rowsV R), .un, .un] = some (.ok .nx [.ow (.obj "Machine" []), .fz (.str l), .fz (rowsV R), .un, .un]) := by
    have hz : ¬ R = [] := G.one
    simp [eVq, evSs, evS, evOp, evC, evEs, opnd, Opd.val, Slot.val, slotAt, fixv, isiV, isiF, typ, asBool, cmpF, endF, keptIo, lift, pur, bltF, len, assn, assns, evE.eq_22, evAs, argOf, callF, ioNd, order, finish, putBack, Arg.slot, Arg.isN, Arg.isAt, Arg.isV, ownAt, newArg, idxF, ixN, binF, rowsV, eqF_int, hz]
  have st4 : evS tab (evF tab (k + 2)) (ev2 tab (k + 2)).2 (.setf 0 "held_letters" (.v 1)) [.ow (.obj "Machine" []), .fz (.str l), .fz (rowsV R), a, b] = some (.ok .nx [.ow (.obj "Machine" [("held_letters", .str l)]), .fz (.str l), .fz (rowsV R), a, b]) := by
    simp [eVq, evSs, evS, evOp, evC, evEs, opnd, Opd.val, Slot.val, slotAt, fixv, isiV, isiF, typ, asBool, cmpF, endF, keptIo, lift, pur, bltF, len, assn, assns, evE.eq_22, evAs, argOf, callF, ioNd, order, finish, putBack, Arg.slot, Arg.isN, Arg.isAt, Arg.isV, ownAt, newArg, idxF, ixN, binF, f1, putFs]
  have st5 : evS tab (evF tab (k + 2)) (ev2 tab (k + 2)).2 (.setf 0 "held_states" (.v 2)) [.ow (.obj "Machine" [("held_letters", .str l)]), .fz (.str l), .fz (rowsV R), a, b] = some (.ok .nx [.ow (machV l R), .fz (.str l), .fz (rowsV R), a, b]) := by
    simp [eVq, evSs, evS, evOp, evC, evEs, opnd, Opd.val, Slot.val, slotAt, fixv, isiV, isiF, typ, asBool, cmpF, endF, keptIo, lift, pur, bltF, len, assn, assns, evE.eq_22, evAs, argOf, callF, ioNd, order, finish, putBack, Arg.slot, Arg.isN, Arg.isAt, Arg.isV, ownAt, newArg, idxF, ixN, binF, f2, putFs, machV]
  have e : evSs tab (evF tab (k + 2)) (ev2 tab (k + 2)).2 ir_Machine___init__.body [.ow (.obj "Machine" []), .fz (.str l), .fz (rowsV R), .un, .un] = some (.ok .nx [.ow (machV l R), .fz (.str l), .fz (rowsV R), a, b]) := by
    simp only [ir_Machine___init__, evSs, st1, st2, st3, st4, st5, bnd_ok, pur]
  show endF _ _ (evSs tab (evF tab (k + 2)) (ev2 tab (k + 2)).2 ir_Machine___init__.body [.ow (.obj "Machine" []), .fz (.str l), .fz (rowsV R), .un, .un]) = _
  rw [e]
  simp [endF, keptIo, ir_Machine___init__]
end EV
namespace EV
open PySem
theorem q_let (k : Nat) (i : Int) (h0 : 0 ≤ i) (h8 : i < 8) : evF tab (k + 2) "are_letters" [.fz (.str (sgn i))] = some (.ok (.fz (.bl true)) [.fz (.str (sgn i))]) := by
  have : i = 0 ∨ i = 1 ∨ i = 2 ∨ i = 3 ∨ i = 4 ∨ i = 5 ∨ i = 6 ∨ i = 7 := by omega
  rcases this with rfl | rfl | rfl | rfl | rfl | rfl | rfl | rfl <;> kernel_rfl
theorem sgn_len (i : Int) (h0 : 0 ≤ i) (h8 : i < 8) : 1 ≤ (sgn i).length ∧ (sgn i).length ≤ 3 := by
  have : i = 0 ∨ i = 1 ∨ i = 2 ∨ i = 3 ∨ i = 4 ∨ i = 5 ∨ i = 6 ∨ i = 7 := by omega
  rcases this with rfl | rfl | rfl | rfl | rfl | rfl | rfl | rfl <;> decide +kernel
end EV
namespace EV
open PySem GH Pl Y
theorem m_stT {l : List Nat} {R : List RowI} : prpT tab "Machine" "states" "held_states" (machV l R) = some (rowsV R) := by
  simp only [prpT, machV, tab_states, and_self, if_true]
  rfl
theorem f_stT {l : List Nat} {R : List RowI} : fldT tab "held_states" (machV l R) = some (rowsV R) := by
  have fl : tab.fld "Machine" "held_states" = true := by kernel_rfl
  simp only [fldT, machV, fl, if_true]
  rfl
theorem f_leT {l : List Nat} {R : List RowI} : fldT tab "held_letters" (machV l R) = some (.str l) := by
  have fl : tab.fld "Machine" "held_letters" = true := by kernel_rfl
  simp only [fldT, machV, fl, if_true]
  rfl
theorem an_objM {l : List Nat} {R : List RowI} {r : List Slot} : asNew (.fz .non) (.ow (machV l R) :: r) = some (machV l R) := rfl
theorem it_rows {R : List RowI} : itemsF (rowsV R) = some (R.map rowV) := rfl
def rowWs (r : RowI) : List (List Nat) := asStr "state" :: intS r.1 :: r.2.map intS
def rowTx (r : RowI) : List Nat := joinS [32] (rowWs r)
def lines (l : List Nat) (R : List RowI) : List (List Nat) := (asStr "machine " ++ l) :: R.map rowTx
def txM (l : List Nat) (R : List RowI) : List Nat := joinS [10] (lines l R)
structure GoodT (l : List Nat) (R : List RowI) : Prop where
  len : R.length ≤ 20
  let_ : l.length ≤ 100
  row : ∀ r ∈ R, 0 ≤ r.1 ∧ r.1 < 10 ∧ r.2.length ≤ 100 ∧ ∀ t ∈ r.2, 0 ≤ t ∧ t < 10
  sgn : ∀ c ∈ l, 33 ≤ c ∧ c < 128
theorem GoodM.t {l : List Nat} {R : List RowI} (M : GoodM l R) (h : ∀ c ∈ l, 33 ≤ c ∧ c < 128) : GoodT l R := by
  have h6 := M.six
  have h3 := M.let_
  refine ⟨by omega, by omega, fun r hr => ?_, h⟩
  obtain ⟨h1, h2, h4, h5⟩ := M.row r hr
  exact ⟨h1, by omega, by omega, fun t ht => ⟨(h5 t ht).1, by have := (h5 t ht).2; omega⟩⟩
section
variable {l : List Nat} {R : List RowI}
theorem rowWs_sum {r : RowI} (h1 : 0 ≤ r.1 ∧ r.1 < 10) (h2 : ∀ t ∈ r.2, 0 ≤ t ∧ t < 10) : ((rowWs r).map (·.length)).sum = 6 + r.2.length ∧ (rowWs r).length = 2 + r.2.length := by
  have e : ((r.2.map intS).map (·.length)).sum = r.2.length := by
    rw [List.map_map]
    have : ∀ ts : List Int, (∀ t ∈ ts, 0 ≤ t ∧ t < 10) → (ts.map ((·.length) ∘ intS)).sum = ts.length := by
      intro ts
      induction ts with
      | nil => intro _; rfl
      | cons t ts ih =>
        intro h
        have ht := h t List.mem_cons_self
        rw [List.map_cons, List.sum_cons, ih fun x hx => h x (List.mem_cons_of_mem _ hx)]
        simp only [Function.comp_apply, intS_i ht.1 ht.2, List.length_cons, List.length_nil]
        omega
    exact this _ h2
  have e5 : (asStr "state").length = 5 := by decide +kernel
  constructor
  · simp only [rowWs, List.map_cons, List.sum_cons, e, e5, intS_i h1.1 h1.2, List.length_cons, List.length_nil]
    omega
  · simp only [rowWs, List.length_cons, List.length_map]
    omega
theorem rowTx_len {r : RowI} (h1 : 0 ≤ r.1 ∧ r.1 < 10) (h2 : ∀ t ∈ r.2, 0 ≤ t ∧ t < 10) (h3 : r.2.length ≤ 100) : (rowTx r).length ≤ 300 := by
  have := join_len [32] (rowWs r)
  obtain ⟨a, b⟩ := rowWs_sum h1 h2
  rw [a, b] at this
  simp only [List.length_cons, List.length_nil] at this
  unfold rowTx
  omega
theorem lines_sum (T : GoodT l R) : ((lines l R).map (·.length)).sum ≤ 7000 ∧ (lines l R).length ≤ 21 := by
  have e : ∀ Q : List RowI, (∀ r ∈ Q, 0 ≤ r.1 ∧ r.1 < 10 ∧ r.2.length ≤ 100 ∧ ∀ t ∈ r.2, 0 ≤ t ∧ t < 10) → ((Q.map rowTx).map (·.length)).sum ≤ 300 * Q.length := by
    intro Q
    induction Q with
    | nil => intro _; simp
    | cons r Q ih =>
      intro h
      have hr := h r List.mem_cons_self
      have := rowTx_len ⟨hr.1, hr.2.1⟩ hr.2.2.2 hr.2.2.1
      have := ih fun x hx => h x (List.mem_cons_of_mem _ hx)
      simp only [List.map_cons, List.sum_cons, List.length_cons]
      omega
  have := e R T.row
  have h1 := T.len
  have h2 := T.let_
  have e8 : (asStr "machine ").length = 8 := by decide +kernel
  constructor
  · simp only [lines, List.map_cons, List.sum_cons, List.length_append, e8]
    omega
  · simp only [lines, List.length_cons, List.length_map]
    omega
theorem txM_len (T : GoodT l R) : (txM l R).length ≤ 8000 := by
  have := join_len [10] (lines l R)
  obtain ⟨a, b⟩ := lines_sum T
  simp only [List.length_cons, List.length_nil] at this
  unfold txM
  omega
theorem join_F {s : List Nat} {vs : List Val} {ls : List (List Nat)} (h : allS vs = some ls) (hl : (ls.map (·.length)).sum + ls.length * s.length ≤ cap) : bmtF (.str s) .join [.lst vs] = some (.fz (.str (joinS s ls))) := by
  simp only [bmtF, h, if_pos hl]
theorem q_strM (T : GoodT l R) (k : Nat) : evF tab (k + 1) "Machine.__str__" [.fz (machV l R)] = some (.ok (.fz (.str (txM l R))) [.fz (machV l R)]) := by
  refine Y.q_of fn_Machine___str__ (tab_ext _) rfl rfl ?_
  show Wp (evSs _ _ _ [_, _] [_, .un, .un, .un, .un]) (c := ⟨_⟩)
  simp only [↓Y.w_forU, ↓Y.w_lcU, ↓Y.w_lc2U, ↓Y.w_dcU, ↓WA, ↓WC, WT, ↓WX, WB, WZ, Nat.reduceAdd, eq_self, f_stT, f_leT, it_rows]
  refine ⟨by rw [List.length_map]; have := T.len; unfold cap; omega, ?_⟩
  refine Y.w_lcL rowV R (fun r => some (.str (rowTx r))) (fun r hr => ?_) ?_
  · obtain ⟨h1, h2, h3, h4⟩ := T.row r hr
    have er : rowV r = .tup [.int r.1, .tup (r.2.map .int)] := rfl
    simp only [↓Y.w_forU, ↓Y.w_lcU, ↓Y.w_lc2U, ↓Y.w_dcU, ↓WA, ↓WC, WT, ↓WX, WB, WZ, Nat.reduceAdd, eq_self, er]
    refine ⟨by omega, by rw [List.length_map]; unfold cap; omega, ?_⟩
    refine Y.w_lcL Val.int r.2 (fun t => some (.str (intS t))) (fun t ht => ?_) ?_
    · have := h4 t ht
      simp only [↓Y.w_forU, ↓Y.w_lcU, ↓Y.w_lc2U, ↓Y.w_dcU, ↓WA, ↓WC, WT, ↓WX, WB, WZ, Nat.reduceAdd, eq_self]
      omega
    · have ea : allS (.str (asStr "state") :: .str (intS r.1) :: r.2.filterMap fun t => some (Val.str (intS t))) = some (rowWs r) := by
        have : (r.2.filterMap fun t => some (Val.str (intS t))) = r.2.map fun t => Val.str (intS t) := by simp
        rw [this]
        simp only [allS, allS_mapT intS r.2, Option.map_some]
        rfl
      obtain ⟨a, b⟩ := rowWs_sum (r := r) ⟨h1, h2⟩ h4
      have ej := join_F (s := asStr " ") ea (by rw [a, b]; have : (asStr " ").length = 1 := by decide +kernel
                                                rw [this]; unfold cap; omega)
      have e32 : asStr " " = [32] := by decide +kernel
      rw [e32] at ej
      simp only [↓Y.w_forU, ↓Y.w_lcU, ↓Y.w_lc2U, ↓Y.w_dcU, ↓WA, ↓WC, WT, ↓WX, WB, WZ, Nat.reduceAdd, eq_self, e32, ej]
      refine ⟨?_, rfl⟩
      have : (r.2.filterMap fun t => some (Val.str (intS t))).length = r.2.length := by simp
      rw [this]
      unfold cap
      omega
  · have ea : allS (.str (asStr "machine " ++ l) :: R.filterMap fun r => some (Val.str (rowTx r))) = some (lines l R) := by
      have : (R.filterMap fun r => some (Val.str (rowTx r))) = R.map fun r => Val.str (rowTx r) := by simp
      rw [this]
      simp only [allS, allS_mapT rowTx R, Option.map_some]
      rfl
    obtain ⟨a, b⟩ := lines_sum T
    have ej := join_F (s := asStr "\n") ea (by have : (asStr "\n").length = 1 := by decide +kernel
                                               rw [this]; unfold cap; omega)
    have e10 : asStr "\n" = [10] := by decide +kernel
    rw [e10] at ej
    have hl := T.let_
    have h8 : (asStr "machine ").length = 8 := by decide +kernel
    have hR : (R.filterMap fun r => some (Val.str (rowTx r))).length = R.length := by simp
    have := T.len
    simp only [↓Y.w_forU, ↓Y.w_lcU, ↓Y.w_lc2U, ↓Y.w_dcU, ↓WA, ↓WC, WT, ↓WX, WB, WZ, Nat.reduceAdd, eq_self, f_leT, e10, ej, h8, hR]
    exact ⟨by unfold cap; omega, by unfold cap; omega, rfl, rfl⟩
theorem no_dig {c : Nat} (hc : c < 48) {i : Int} (h0 : 0 ≤ i) (h1 : i < 10) : c ∉ intS i := by
  rw [intS_i h0 h1]
  simp
  omega
theorem rowWs_no {r : RowI} {c : Nat} (hc : c = 10 ∨ c = 32) (h1 : 0 ≤ r.1 ∧ r.1 < 10) (h2 : ∀ t ∈ r.2, 0 ≤ t ∧ t < 10) : ∀ p ∈ rowWs r, c ∉ p := by
  intro p hp
  unfold rowWs at hp
  rcases List.mem_cons.mp hp with rfl | hp
  · rcases hc with rfl | rfl <;> decide +kernel
  · rcases List.mem_cons.mp hp with rfl | hp
    · exact no_dig (by omega) h1.1 h1.2
    · obtain ⟨t, ht, rfl⟩ := List.mem_map.mp hp
      exact no_dig (by omega) (h2 t ht).1 (h2 t ht).2
theorem join_no {c d : Nat} (h : c ≠ d) : ∀ {ps : List (List Nat)}, (∀ p ∈ ps, c ∉ p) → c ∉ joinS [d] ps
  | [], _ => by simp [joinS]
  | [p], hp => hp p (by simp)
  | p :: q :: r, hp => by
    show c ∉ p ++ [d] ++ joinS [d] (q :: r)
    have ih := join_no h (ps := q :: r) fun x hx => hp x (List.mem_cons_of_mem _ hx)
    have := hp p (by simp)
    simp [this, ih, h]
theorem lines_spl (T : GoodT l R) : splS 10 (txM l R) = lines l R := by
  refine splS_join (by simp [lines]) fun p hp => ?_
  unfold lines at hp
  rcases List.mem_cons.mp hp with rfl | hp
  · intro hc
    rcases List.mem_append.mp hc with hc | hc
    · revert hc; decide +kernel
    · have := (T.sgn _ hc).1; omega
  · obtain ⟨r, hr, rfl⟩ := List.mem_map.mp hp
    obtain ⟨h1, h2, h3, h4⟩ := T.row r hr
    exact join_no (by omega) (rowWs_no (.inl rfl) ⟨h1, h2⟩ h4)
theorem row_spl {r : RowI} (h1 : 0 ≤ r.1 ∧ r.1 < 10) (h2 : ∀ t ∈ r.2, 0 ≤ t ∧ t < 10) : splS 32 (rowTx r) = rowWs r := splS_join (by simp [rowWs]) (rowWs_no (.inr rfl) h1 h2)
theorem head_spl (T : GoodT l R) : splS 32 (asStr "machine " ++ l) = [asStr "machine", l] := by
  have e : asStr "machine " ++ l = joinS [32] [asStr "machine", l] := by
    have : asStr "machine " = asStr "machine" ++ [32] := by decide +kernel
    rw [this]; rfl
  rw [e]
  refine splS_join (by simp) fun p hp => ?_
  simp only [List.mem_cons, List.not_mem_nil, or_false] at hp
  rcases hp with rfl | rfl
  · decide +kernel
  · intro hc
    have := (T.sgn _ hc).1; omega
theorem q_digit {i : Int} (h0 : 0 ≤ i) (h1 : i < 10) (k : Nat) : evF tab (k + 1) "digit_of" [.fz (.str (intS i))] = some (.ok (.fz (.int i)) [.fz (.str (intS i))]) := by
  have : i = 0 ∨ i = 1 ∨ i = 2 ∨ i = 3 ∨ i = 4 ∨ i = 5 ∨ i = 6 ∨ i = 7 ∨ i = 8 ∨ i = 9 := by omega
  rw [intS_i h0 h1]
  rcases this with rfl | rfl | rfl | rfl | rfl | rfl | rfl | rfl | rfl | rfl <;> kernel_rfl
theorem q_state_of {r : RowI} (h1 : 0 ≤ r.1 ∧ r.1 < 10) (h2 : ∀ t ∈ r.2, 0 ≤ t ∧ t < 10) (h3 : r.2.length ≤ 100) (k : Nat) : evF tab (k + 2) "state_of" [.fz (.str (rowTx r))] = some (.ok (.fz (rowV r)) [.fz (.str (rowTx r))]) := by
  refine Y.q_of fn_state_of (tab_ext _) rfl rfl ?_
  show Wp (evSs _ _ _ [_, _, _] [_, .un, .un]) (c := ⟨_⟩)
  have e32 : asStr " " = [32] := by decide +kernel
  have hl := rowTx_len h1 h2 h3
  have qd := q_digit h1.1 h1.2 k
  have hn : decide (((((rowWs r).map Val.str).length : Nat) : Int) < 2) = false := by simp [rowWs]; omega
  have i0 : idxF (.lst ((rowWs r).map Val.str)) (.int 0) = some (.str (asStr "state")) := idx_l0
  have i1 : idxF (.lst ((rowWs r).map Val.str)) (.int 1) = some (.str (intS r.1)) := idx_l1
  have sl : slcF (.lst ((rowWs r).map Val.str)) (some 2) none = some (.ow (.lst (r.2.map fun t => .str (intS t)))) := by
    simp [rowWs, slcF, cut, sIx, Function.comp_def]
    rw [List.take_of_length_le (by simp)]
  have im : itemsF (.lst (r.2.map fun t => Val.str (intS t))) = some (r.2.map fun t => .str (intS t)) := rfl
  simp only [↓Y.w_forU, ↓Y.w_lcU, ↓Y.w_lc2U, ↓Y.w_dcU, ↓WA, ↓WC, WT, ↓WX, WB, WZ, Nat.reduceAdd, eq_self, e32, row_spl h1 h2, hn, i0, i1, sl, im, qd]
  refine ⟨⟨by omega, by decide⟩, by rw [List.length_map]; unfold cap; omega, ?_⟩
  refine Y.w_lcL (fun t => Val.str (intS t)) r.2 (fun t => some (.int t)) (fun t ht => ?_) ?_
  · have qd := q_digit (h2 t ht).1 (h2 t ht).2 k
    simp only [↓Y.w_forU, ↓Y.w_lcU, ↓Y.w_lc2U, ↓Y.w_dcU, ↓WA, ↓WC, WT, ↓WX, WB, WZ, Nat.reduceAdd, eq_self, qd]
  · have : (r.2.filterMap fun t => some (Val.int t)) = r.2.map Val.int := by simp
    simp only [↓Y.w_forU, ↓Y.w_lcU, ↓Y.w_lc2U, ↓Y.w_dcU, ↓WA, ↓WC, WT, ↓WX, WB, WZ, Nat.reduceAdd, eq_self, this]
    exact ⟨rfl, rfl⟩
theorem q_read (T : GoodT l R) (k : Nat) (hi : evF tab (k + 3) "Machine.__init__" [.ow (.obj "Machine" []), .fz (.str l), .fz (rowsV R)] = some (.ok (.fz .non) [.ow (machV l R), .fz (.str l), .fz (rowsV R)])) :
    evF tab (k + 5) "Machine.read" [.fz (.cls "Machine"), .fz (.str (txM l R))] = some (.ok (.ow (machV l R)) [.fz (.cls "Machine"), .fz (.str (txM l R))]) := by
  refine Y.q_of fn_Machine_read (tab_ext _) rfl rfl ?_
  show Wp (evSs _ _ _ [_, _, _, _, _, _] [_, _, .un, .un, .un, .un, .un]) (c := ⟨_⟩)
  have e32 : asStr " " = [32] := by decide +kernel
  have e10 : asStr "\n" = [10] := by decide +kernel
  have hl := txM_len T
  have hl2 := T.let_
  have h8 : (asStr "machine ").length = 8 := by decide +kernel
  have hn : decide ((((([asStr "machine", l].map Val.str).length : Nat) : Int)) = 2) = true := rfl
  have i0 : idxF (.lst ([asStr "machine", l].map Val.str)) (.int 0) = some (.str (asStr "machine")) := idx_l0
  have i1 : idxF (.lst ([asStr "machine", l].map Val.str)) (.int 1) = some (.str l) := idx_l1
  have im : itemsF (.lst ((R.map rowTx).map Val.str)) = some (R.map fun r => .str (rowTx r)) := by simp [itemsF, Function.comp_def]
  have el : (lines l R).map Val.str = .str (asStr "machine " ++ l) :: (R.map rowTx).map Val.str := rfl
  simp only [↓Y.w_forU, ↓Y.w_lcU, ↓Y.w_lc2U, ↓Y.w_dcU, ↓WA, ↓WC, WT, ↓WX, WB, WZ, Nat.reduceAdd, eq_self, e32, e10, lines_spl T, el, head_spl T, hn, i0, i1, im]
  refine ⟨⟨by omega, by decide⟩, by decide, ⟨by rw [List.length_append, h8]; omega, by decide⟩, rfl, by rw [List.length_map]; have := T.len; unfold cap; omega, ?_⟩
  refine Y.w_lcL (fun r => Val.str (rowTx r)) R (fun r => some (rowV r)) (fun r hr => ?_) ?_
  · obtain ⟨h1, h2, h3, h4⟩ := T.row r hr
    have qs := q_state_of ⟨h1, h2⟩ h4 h3 (k + 2)
    simp only [↓Y.w_forU, ↓Y.w_lcU, ↓Y.w_lc2U, ↓Y.w_dcU, ↓WA, ↓WC, WT, ↓WX, WB, WZ, Nat.reduceAdd, eq_self, qs]
  · have : (R.filterMap fun r => some (rowV r)) = R.map rowV := by simp
    have er : (.tup (R.map rowV) : Val) = rowsV R := rfl
    have em : (ev2 tab (k + 4)).2 = evF tab (k + 3) := rfl
    simp only [↓Y.w_forU, ↓Y.w_lcU, ↓Y.w_lc2U, ↓Y.w_dcU, ↓WA, ↓WC, WT, ↓WX, WB, WZ, Nat.reduceAdd, eq_self, this, er, em, hi, an_objM]
    rfl
end
end EV
namespace EV
open PySem GH Pl Y
theorem intS_inj {i j : Int} (h0 : 0 ≤ i) (h1 : i < 10) (g0 : 0 ≤ j) (g1 : j < 10) (e : intS i = intS j) : i = j := by
  have key : ∀ a b : Fin 10, intS ((a.val : Nat) : Int) = intS ((b.val : Nat) : Int) → a = b := by decide +kernel
  have := key ⟨i.toNat, by omega⟩ ⟨j.toNat, by omega⟩ (by
    show intS ((i.toNat : Nat) : Int) = intS ((j.toNat : Nat) : Int)
    rw [Int.toNat_of_nonneg h0, Int.toNat_of_nonneg g0, e])
  have := congrArg Fin.val this
  simp only at this
  omega
theorem map_intS : ∀ {X Y : List Int}, (∀ t ∈ X, 0 ≤ t ∧ t < 10) → (∀ t ∈ Y, 0 ≤ t ∧ t < 10) → X.map intS = Y.map intS → X = Y
  | [], [], _, _, _ => rfl
  | [], y :: Y', _, _, e => by cases e
  | x :: X', [], _, _, e => by cases e
  | x :: X', y :: Y', hx, hy, e => by
    rw [List.map_cons, List.map_cons, List.cons.injEq] at e
    rw [intS_inj (hx x List.mem_cons_self).1 (hx x List.mem_cons_self).2 (hy y List.mem_cons_self).1 (hy y List.mem_cons_self).2 e.1,
      map_intS (fun t ht => hx t (List.mem_cons_of_mem _ ht)) (fun t ht => hy t (List.mem_cons_of_mem _ ht)) e.2]
theorem rows_inj : ∀ {R S : List RowI}, (∀ r ∈ R, (0 ≤ r.1 ∧ r.1 < 10) ∧ ∀ t ∈ r.2, 0 ≤ t ∧ t < 10) → (∀ r ∈ S, (0 ≤ r.1 ∧ r.1 < 10) ∧ ∀ t ∈ r.2, 0 ≤ t ∧ t < 10) → R.map rowTx = S.map rowTx → R = S
  | [], [], _, _, _ => rfl
  | [], y :: Y', _, _, e => by cases e
  | x :: X', [], _, _, e => by cases e
  | x :: X', y :: Y', hx, hy, e => by
    rw [List.map_cons, List.map_cons, List.cons.injEq] at e
    obtain ⟨a1, a2⟩ := hx x List.mem_cons_self
    obtain ⟨b1, b2⟩ := hy y List.mem_cons_self
    have e1 : rowWs x = rowWs y := by rw [← row_spl a1 a2, ← row_spl b1 b2, e.1]
    unfold rowWs at e1
    rw [List.cons.injEq, List.cons.injEq] at e1
    rw [rows_inj (fun r hr => hx r (List.mem_cons_of_mem _ hr)) (fun r hr => hy r (List.mem_cons_of_mem _ hr)) e.2]
    congr 1
    exact Prod.ext (intS_inj a1.1 a1.2 b1.1 b1.2 e1.2.1) (map_intS a2 b2 e1.2.2)
theorem txM_inj {l l' : List Nat} {R S : List RowI} (T : GoodT l R) (U : GoodT l' S) (e : txM l R = txM l' S) : l = l' ∧ R = S := by
  have e1 : lines l R = lines l' S := by rw [← lines_spl T, ← lines_spl U, e]
  unfold lines at e1
  rw [List.cons.injEq] at e1
  exact ⟨List.append_cancel_left e1.1, rows_inj (fun r hr => let ⟨a, b, _, d⟩ := T.row r hr; ⟨⟨a, b⟩, d⟩) (fun r hr => let ⟨a, b, _, d⟩ := U.row r hr; ⟨⟨a, b⟩, d⟩) e1.2⟩
theorem sp_strE {ρ : Ro} {l : List Nat} {R : List RowI} : spAs ρ "Machine" "__str__" [.va (machV l R)] = some [.va (machV l R)] := rfl
theorem sp_eqE {ρ : Ro} {l l' : List Nat} {R S : List RowI} : spAs ρ "Machine" "__eq__" [.va (machV l R), .va (machV l' S)] = some [.va (machV l R), .va (machV l' S)] := rfl
theorem q_eqM {l l' : List Nat} {R S : List RowI} (T : GoodT l R) (U : GoodT l' S) (k : Nat) : evF tab (k + 4) "Machine.__eq__" [.fz (machV l R), .fz (machV l' S)] = some (.ok (.fz (.bl (decide (l = l' ∧ R = S)))) [.fz (machV l R), .fz (machV l' S)]) := by
  have hmk : (ev2 tab (k + 3)).2 = evF tab (k + 2) := mkc_succ tab (k + 2)
  have t1 := q_strM T (k + 1)
  have t2 := q_strM U (k + 1)
  have hi : isiV tab.isc (machV l' S) "Machine" = some true := rfl
  have hd : decide (txM l R = txM l' S) = decide (l = l' ∧ R = S) := by
    by_cases h : txM l R = txM l' S
    · rw [decide_eq_true h, decide_eq_true (txM_inj T U h)]
    · rw [decide_eq_false h, decide_eq_false fun z => h (by rw [z.1, z.2])]
  refine Y.q_of fn_Machine___eq__ (tab_ext _) rfl rfl ?_
  show Wp (evSs _ _ _ [_] [_, _]) (c := ⟨_⟩)
  simp only [↓Y.w_forU, ↓Y.w_lcU, ↓Y.w_lc2U, ↓Y.w_dcU, ↓WA, ↓WC, WT, ↓WX, WB, WZ, Nat.reduceAdd, eq_self, hmk, hi, sp_strE, t1, t2, hd]
  rfl
end EV
namespace EV
open PySem
def Rq (n c : Nat) (v : Val) : Prop := ∃ d, toD v = some d ∧ okB d = true ∧ d.depth ≤ n ∧ GH.cost d ≤ c
def Rqs (n c : Nat) (vs : List Val) : Prop := ∃ ds, toDs vs = some ds ∧ okBs ds = true ∧ PyData.depthAll ds ≤ n ∧ GH.costAll ds ≤ c
theorem Rq.mono {n c n' c' : Nat} {v : Val} (h : Rq n c v) (hn : n ≤ n') (hc : c ≤ c') : Rq n' c' v := let ⟨d, h1, h2, h3, h4⟩ := h; ⟨d, h1, h2, Nat.le_trans h3 hn, Nat.le_trans h4 hc⟩
theorem Rqs.mono {n c n' c' : Nat} {v : List Val} (h : Rqs n c v) (hn : n ≤ n') (hc : c ≤ c') : Rqs n' c' v := let ⟨d, h1, h2, h3, h4⟩ := h; ⟨d, h1, h2, Nat.le_trans h3 hn, Nat.le_trans h4 hc⟩
theorem rq_bl (b : Bool) : Rq 0 5 (.bl b) := ⟨.bool b, rfl, rfl, Nat.le_refl _, Nat.le_refl _⟩
theorem Rqs.nil : Rqs 0 0 [] := ⟨[], rfl, rfl, Nat.le_refl _, Nat.le_refl _⟩
theorem Rqs.cons {n m c d : Nat} {v : Val} {vs : List Val} (h : Rq n c v) (hs : Rqs m d vs) : Rqs (max n m) (c + 2 + d) (v :: vs) := by
  obtain ⟨x, h1, h2, h3, h4⟩ := h
  obtain ⟨xs, k1, k2, k3, k4⟩ := hs
  refine ⟨x :: xs, by simp [toDs, h1, k1], by simp [okBs, h2, k2], ?_, ?_⟩
  · simp only [PyData.depthAll]; omega
  · simp only [GH.costAll]; omega
theorem Rqs.all {n c : Nat} : ∀ {vs : List Val}, (∀ v ∈ vs, Rq n c v) → Rqs n ((c + 2) * vs.length) vs
  | [], _ => ⟨[], rfl, rfl, Nat.zero_le _, Nat.zero_le _⟩
  | v :: vs, h => by
    refine ((h v List.mem_cons_self).mono (Nat.le_refl _) (Nat.le_refl _) |> fun a => Rqs.cons a (Rqs.all fun x hx => h x (List.mem_cons_of_mem _ hx))).mono (by omega) ?_
    rw [List.length_cons, Nat.mul_add]
    omega
theorem Rqs.tup {n c : Nat} {vs : List Val} (h : Rqs n c vs) : Rq (n + 1) (c + 3) (.tup vs) := by
  obtain ⟨ds, h1, h2, h3, h4⟩ := h
  refine ⟨.tuple ds, by simp [toD, h1], by simpa only [okB] using h2, ?_, ?_⟩
  · simp only [PyData.depth]; omega
  · simp only [GH.cost]; omega
theorem Rqs.lst {n c : Nat} {vs : List Val} (h : Rqs n c vs) : Rq (n + 1) (c + 3) (.lst vs) := by
  obtain ⟨ds, h1, h2, h3, h4⟩ := h
  refine ⟨.list ds, by simp [toD, h1], by simpa only [okB] using h2, ?_, ?_⟩
  · simp only [PyData.depth]; omega
  · simp only [GH.cost]; omega
theorem Rq.repr {n c : Nat} {v : Val} (h : Rq n c v) (hn : n ≤ 60) (hc : c ≤ 10000000) : ∃ s, bltF .repr [v] = some (.fz (.str s)) := by
  obtain ⟨d, h1, h2, h3, h4⟩ := h
  refine ⟨d.shown.cps.toList, ?_⟩
  have e : bltF .repr [v] = match toD v with
    | some d => if reprOk d then some (Slot.fz (.str d.shown.cps.toList)) else none
    | none => none := by cases v <;> rfl
  rw [e, h1]
  have : reprOk d = true := by
    unfold reprOk
    rw [h2, Bool.true_and, Bool.and_eq_true]
    exact ⟨decide_eq_true (by omega), decide_eq_true (by omega)⟩
  simp only [this, if_true]
end EV
namespace EV
open PySem GH Pl Y
theorem all_true {α : Type} (xs : List α) : bltF .all [.lst (xs.filterMap fun _ => some (Val.bl true))] = some (.fz (.bl true)) := by
  have e1 : (xs.filterMap fun _ => some (Val.bl true)) = xs.map fun _ => Val.bl true := by simp
  have e2 : ∀ ys : List α, allB (ys.map fun _ => Val.bl true) = some (ys.map fun _ => true) := by
    intro ys
    induction ys with
    | nil => rfl
    | cons y ys ih => simp [allB, ih]
  rw [e1]
  simp only [bltF, e2, Option.map_some]
  simp
theorem law_by (hq : ∀ b, Wp (evF tab 27 "_law_quiet" [.ow (bagV b)]) (c := ⟨fun r fin => r = .fz (.bl true) ∧ ∃ b', fin = [.ow (bagV b')]⟩)) (ns : List Int) (h : ns.length ≤ 63) : ∃ fin, evF tab 28 "law" [.fz (.scr ns)] = some (.ok (.fz (.bl true)) fin) := by
  have key : Wp (evF tab 28 "law" [.fz (.scr ns)]) (c := ⟨fun r _ => r = .fz (.bl true)⟩) := by
    refine Y.q_ofP fn_law (tab_ext _) rfl ?_
    show Wp (evSs _ _ _ [_] [_, .un]) (c := ⟨_⟩)
    simp only [↓Y.w_forU, ↓Y.w_lcU, ↓Y.w_lc2U, ↓Y.w_dcU, ↓WA, ↓WC, WT, ↓WX, WB, WZ, Nat.reduceAdd, eq_self]
    have hm : ∃ m : Int, (if (if (5 : Int) < (ns.length : Nat) then (5 : Int) else (ns.length : Nat)) > 2 then if (5 : Int) < (ns.length : Nat) then (5 : Int) else (ns.length : Nat) else 2) = m ∧ 0 ≤ m ∧ m ≤ 1000 := ⟨_, rfl, by split <;> split <;> omega, by split <;> split <;> omega⟩
    obtain ⟨m, hm, hm0, hm1⟩ := hm
    rw [hm]
    simp only [↓Y.w_forU, ↓Y.w_lcU, ↓Y.w_lc2U, ↓Y.w_dcU, ↓WA, ↓WC, WT, ↓WX, WB, WZ, Nat.reduceAdd, eq_self, rng_okT hm0 hm1]
    refine ⟨by rw [List.length_map, List.length_range]; unfold cap; omega, ?_⟩
    refine Y.w_lcL (fun t : Nat => Val.int (t : Nat)) (List.range m.toNat) (fun _ => some (.bl true)) (fun t ht => ?_) ?_
    · obtain ⟨b, qb⟩ := q_bag 26 ns t h
      simp only [↓Y.w_forU, ↓Y.w_lcU, ↓Y.w_lc2U, ↓Y.w_dcU, ↓WA, ↓WC, WT, ↓WX, WB, WZ, Nat.reduceAdd, eq_self, qb]
      refine Y.wp_mono (hq b) ?_
      rintro r fin ⟨rfl, b', rfl⟩
      simp only [↓Y.w_forU, ↓Y.w_lcU, ↓Y.w_lc2U, ↓Y.w_dcU, ↓WA, ↓WC, WT, ↓WX, WB, WZ, Nat.reduceAdd, eq_self]
    · simp only [↓Y.w_forU, ↓Y.w_lcU, ↓Y.w_lc2U, ↓Y.w_dcU, ↓WA, ↓WC, WT, ↓WX, WB, WZ, Nat.reduceAdd, eq_self, all_true]
      first | exact ⟨rfl, _, rfl, rfl⟩ | trivial
  obtain ⟨r, fin, e, rfl⟩ := key
  exact ⟨fin, e⟩
theorem quiet_by {k : Nat} (h : ∀ b, Wp (evF tab k "_law_right" [.ow (bagV b)]) (c := ⟨fun r fin => r = .fz (.bl true) ∧ ∃ b', fin = [.ow (bagV b')]⟩)) (b : Int × Int × Int) : Wp (evF tab (k + 1) "_law_quiet" [.ow (bagV b)]) (c := ⟨fun r fin => r = .fz (.bl true) ∧ ∃ b', fin = [.ow (bagV b')]⟩) := by
  refine Y.q_ofP fn__law_quiet (tab_ext _) rfl ?_
  show Wp (evSs _ _ _ [_, _] [_, .un]) (c := ⟨_⟩)
  simp only [↓Y.w_forU, ↓Y.w_lcU, ↓Y.w_lc2U, ↓Y.w_dcU, ↓WA, ↓WC, WT, ↓WX, WB, WZ, Nat.reduceAdd, eq_self]
  refine Y.wp_mono (h b) ?_
  rintro r fin ⟨rfl, b', rfl⟩
  simp only [↓Y.w_forU, ↓Y.w_lcU, ↓Y.w_lc2U, ↓Y.w_dcU, ↓WA, ↓WC, WT, ↓WX, WB, WZ, Nat.reduceAdd, eq_self]
  exact ⟨rfl, _, rfl, rfl, _, rfl⟩
end EV
namespace EV
open PySem
abbrev tkC : Ex := .ite (.cmp .eq (.v 7) (.int 0)) (.v 6) (.call "_law_take" [.v 0, .v 3] [])
def rRo (b : Int × Int × Int) (l : List Nat) (most many : Int) (fnd : List Val) (top at_ way col : Int) (s9 s10 : Slot) : Ro := [.ow (bagV b), .fz (.str l), .fz (.int most), .fz (.int many), .ow (.lst fnd), .fz (.int top), .fz (.int at_), .fz (.int way), .fz (.int col), s9, s10]
theorem q_goals (k : Nat) (b : Int × Int × Int) (l : List Nat) (most many : Int) (fnd : List Val) (top at_ way col : Int) (s9 s10 : Slot) (hs : ∀ v, s10 ≠ .ow v) (hm : 0 < many) (hm2 : many < 1000) (ha : 0 ≤ at_ ∧ at_ < many) (hl : l.length ≤ 3) :
    ∃ (b' : Int × Int × Int) (G : List Int), evE tab (evF tab (k + 1)) (ev2 tab (k + 1)).2 (.lc [10] (.nm 10) (.seq (.v 1)) none tkC) (rRo b l most many fnd top at_ way col s9 s10) = some (.ok (.ow (.lst (G.map .int))) (rRo b' l most many fnd top at_ way col s9 s10)) ∧ G.length = l.length ∧ ∀ t ∈ G, 0 ≤ t ∧ t < many := by
  have hit : evIt tab (evF tab (k + 1)) (ev2 tab (k + 1)).2 (.seq (.v 1)) (rRo b l most many fnd top at_ way col s9 s10) = some (.ok (l.map fun c => .str [c]) (rRo b l most many fnd top at_ way col s9 s10)) := by
    simp [evIt, itemsF, rRo, eVq, evSs, evS, evOp, evC, evEs, opnd, Opd.val, Slot.val, slotAt, fixv, isiV, isiF, typ, asBool, cmpF, endF, keptIo, lift, pur, bltF, len, assn, assns, evE.eq_22, evAs, argOf, callF, ioNd, order, finish, putBack, Arg.slot, Arg.isN, Arg.isAt, Arg.isV, ownAt, newArg, idxF, ixN, binF]
  obtain ⟨ys, ρ', h1, b', G, h2, h3, h4, h5⟩ := lc_inv (f := lcF tab (evF tab (k + 1)) (ev2 tab (k + 1)).2 none tkC) (t := .nm 10) (ns := [10]) (fun n ρ acc => ∃ (b' : Int × Int × Int) (G : List Int), ρ = rRo b' l most many fnd top at_ way col s9 .un ∧ acc = G.map .int ∧ G.length = n ∧ ∀ t ∈ G, 0 ≤ t ∧ t < many) (l.map fun c => .str [c]) 0 (rRo b l most many fnd top at_ way col s9 .un) [] ⟨b, [], rfl, rfl, rfl, by simp⟩ (fun n x ρ acc hx hI => by
    obtain ⟨b1, G, rfl, rfl, hG, hA⟩ := hI
    by_cases hw : way = 0
    · refine ⟨rRo b1 l most many fnd top at_ way col s9 (.fz x), some (.int at_), rRo b1 l most many fnd top at_ way col s9 (.fz x), rfl, ?_, b1, G ++ [at_], rfl, by simp, by simp; omega, ?_⟩
      · simp [lcF, tkC, rRo, eVq, evSs, evS, evOp, evC, evEs, opnd, Opd.val, Slot.val, slotAt, fixv, isiV, isiF, typ, asBool, cmpF, endF, keptIo, lift, pur, bltF, len, assn, assns, evE.eq_22, evAs, argOf, callF, ioNd, order, finish, putBack, Arg.slot, Arg.isN, Arg.isAt, Arg.isV, ownAt, newArg, idxF, ixN, binF, eqF_int, hw]
      · intro t ht
        rcases List.mem_append.mp ht with h | h
        · exact hA t h
        · have : t = at_ := by simpa using h
          rw [this]; exact ha
    · refine ⟨rRo b1 l most many fnd top at_ way col s9 (.fz x), some (.int (draw b1 many).1), rRo (draw b1 many).2 l most many fnd top at_ way col s9 (.fz x), rfl, ?_, (draw b1 many).2, G ++ [(draw b1 many).1], rfl, by simp, by simp; omega, ?_⟩
      · have hq := q_take k b1 many hm (by omega)
        simp [lcF, tkC, rRo, eVq, evSs, evS, evOp, evC, evEs, opnd, Opd.val, Slot.val, slotAt, fixv, isiV, isiF, typ, asBool, cmpF, endF, keptIo, lift, pur, bltF, len, assn, assns, evE.eq_22, evAs, argOf, callF, ioNd, order, finish, putBack, Arg.slot, Arg.isN, Arg.isAt, Arg.isV, ownAt, newArg, idxF, ixN, binF, eqF_int, hw, fn__law_take, ir__law_take, hq]
      · intro t ht
        rcases List.mem_append.mp ht with h | h
        · exact hA t h
        · have : t = (draw b1 many).1 := by simpa using h
          rw [this]; exact draw_lt hm)
  refine ⟨b', G, ?_, by simpa using h4, h5⟩
  have hcl : clean [10] (rRo b l most many fnd top at_ way col s9 s10) = true := by
    cases s10 with
    | ow v => exact absurd rfl (hs v)
    | fz v => simp [clean, rRo]
    | un => simp [clean, rRo]
  have hw : wipeR (rRo b l most many fnd top at_ way col s9 s10) [10] = rRo b l most many fnd top at_ way col s9 .un := rfl
  have hu : unwipe [10] (rRo b l most many fnd top at_ way col s9 s10) (rRo b' l most many fnd top at_ way col s9 .un) = rRo b' l most many fnd top at_ way col s9 s10 := rfl
  rw [h2] at h1
  rw [List.nil_append] at h3
  subst h3
  have := ev_lcG hit (by rw [List.length_map]; unfold cap; omega) hcl (by rw [hw]; exact h1)
  rw [this, hu]
end EV
namespace EV
open PySem
abbrev rowsBody : List Sx := [(.par [7, 8] [(.call "_law_take" [(.v 0), (.int 5)] []), (.call "_law_take" [(.v 0), (.v 5)] [])]), (.asg (.nm 9) (.lc [10] (.nm 10) (.seq (.v 1)) none tkC)), (.ife (.cmp .eq (.v 7) (.int 1)) [(.sub 9 (.int 0) (.bin .mod (.blt .int [(.bin .add (.v 6) (.int 1))]) (.v 3)))] []), (.mut 4 .append [(.tup [(.v 8), (.blt .tuple [(.v 9)])])])]
def rRo0 (b : Int × Int × Int) (l : List Nat) (most many : Int) (fnd : List Val) (top : Int) (s6 s7 s8 s9 s10 : Slot) : Ro := [.ow (bagV b), .fz (.str l), .fz (.int most), .fz (.int many), .ow (.lst fnd), .fz (.int top), s6, s7, s8, s9, s10]
theorem q_pair (k : Nat) (b : Int × Int × Int) (l : List Nat) (most many : Int) (fnd : List Val) (top at_ : Int) (s7 s8 s9 s10 : Slot) (ht : 0 < top) (ht2 : top < 1000) :
    evS tab (evF tab (k + 1)) (ev2 tab (k + 1)).2 (.par [7, 8] [(.call "_law_take" [(.v 0), (.int 5)] []), (.call "_law_take" [(.v 0), (.v 5)] [])]) (rRo0 b l most many fnd top (.fz (.int at_)) s7 s8 s9 s10) = some (.ok .nx (rRo (draw (draw b 5).2 top).2 l most many fnd top at_ (draw b 5).1 (draw (draw b 5).2 top).1 s9 s10)) := by
  have h1 := q_take k b 5 (by omega) (by omega)
  have h2 := q_take k (draw b 5).2 top ht (by omega)
  simp [rRo0, rRo, evSl, setAll, eVq, evSs, evS, evOp, evC, evEs, opnd, Opd.val, Slot.val, slotAt, fixv, isiV, isiF, typ, asBool, cmpF, endF, keptIo, lift, pur, bltF, len, assn, assns, evE.eq_22, evAs, argOf, callF, ioNd, order, finish, putBack, Arg.slot, Arg.isN, Arg.isAt, Arg.isV, ownAt, newArg, idxF, ixN, binF, fn__law_take, ir__law_take, h1, h2]
theorem q_turn (k : Nat) (b : Int × Int × Int) (l : List Nat) (most many : Int) (fnd : List Val) (top at_ : Int) (s7 s8 s9 s10 : Slot) (hs : ∀ v, s10 ≠ .ow v) (ht : 0 < top) (ht2 : top ≤ 7) (hm : 0 < many) (hm2 : many < 1000) (ha : 0 ≤ at_ ∧ at_ < many) (hl1 : 1 ≤ l.length) (hl : l.length ≤ 3) (hf : fnd.length < 1000) :
    ∃ (b' : Int × Int × Int) (r : RowI) (way : Int) (s9' : Slot), evSs tab (evF tab (k + 1)) (ev2 tab (k + 1)).2 rowsBody (rRo0 b l most many fnd top (.fz (.int at_)) s7 s8 s9 s10) = some (.ok .nx (rRo b' l most many (fnd ++ [rowV r]) top at_ way r.1 s9' s10)) ∧ 0 ≤ r.1 ∧ r.1 < top ∧ r.2.length = l.length ∧ ∀ t ∈ r.2, 0 ≤ t ∧ t < many := by
  have hp := q_pair k b l most many fnd top at_ s7 s8 s9 s10 ht (by omega)
  generalize hw : (draw b 5).1 = way at hp
  generalize hb1 : (draw (draw b 5).2 top).2 = b1 at hp
  have hc := draw_lt (b := (draw b 5).2) (n := top) ht
  generalize hcol : (draw (draw b 5).2 top).1 = col at hp hc
  obtain ⟨b2, G, hg, hG, hA⟩ := q_goals k b1 l most many fnd top at_ way col s9 s10 hs hm hm2 ha hl
  have hst2 : evS tab (evF tab (k + 1)) (ev2 tab (k + 1)).2 (.asg (.nm 9) (.lc [10] (.nm 10) (.seq (.v 1)) none tkC)) (rRo b1 l most many fnd top at_ way col s9 s10) = some (.ok .nx (rRo b2 l most many fnd top at_ way col (.ow (.lst (G.map .int))) s10)) := by
    simp only [evS, hg, bnd_ok]
    rfl
  have hst4 : ∀ G' : List Int, G'.length = l.length → evS tab (evF tab (k + 1)) (ev2 tab (k + 1)).2 (.mut 4 .append [(.tup [(.v 8), (.blt .tuple [(.v 9)])])]) (rRo b2 l most many fnd top at_ way col (.ow (.lst (G'.map .int))) s10) = some (.ok .nx (rRo b2 l most many (fnd ++ [rowV (col, G')]) top at_ way col (.ow (.lst (G'.map .int))) s10)) := by
    intro G' hG'
    have h1 : fnd.length < cap := by unfold cap; omega
    have h2 : 2 ≤ cap := by unfold cap; omega
    simp [rRo, eVq, evSs, evS, evOp, evC, evEs, opnd, Opd.val, Slot.val, slotAt, fixv, isiV, isiF, typ, asBool, cmpF, endF, keptIo, lift, pur, bltF, len, assn, assns, evE.eq_22, evAs, argOf, callF, ioNd, order, finish, putBack, Arg.slot, Arg.isN, Arg.isAt, Arg.isV, ownAt, newArg, idxF, ixN, binF, mutK, mutF, rowV, h1, h2]
  by_cases h1 : way = 1
  · have hst3 : evS tab (evF tab (k + 1)) (ev2 tab (k + 1)).2 (.ife (.cmp .eq (.v 7) (.int 1)) [(.sub 9 (.int 0) (.bin .mod (.blt .int [(.bin .add (.v 6) (.int 1))]) (.v 3)))] []) (rRo b2 l most many fnd top at_ way col (.ow (.lst (G.map .int))) s10) = some (.ok .nx (rRo b2 l most many fnd top at_ way col (.ow (.lst ((G.set 0 ((at_ + 1) % many)).map .int))) s10)) := by
      have hz : 0 < G.length := by omega
      simp [rRo, eVq, evSs, evS, evOp, evC, evEs, opnd, Opd.val, Slot.val, slotAt, fixv, isiV, isiF, typ, asBool, cmpF, endF, keptIo, lift, pur, bltF, len, assn, assns, evE.eq_22, evAs, argOf, callF, ioNd, order, finish, putBack, Arg.slot, Arg.isN, Arg.isAt, Arg.isV, ownAt, newArg, idxF, ixN, binF, eqF_int, h1, hm, setF, hz, List.map_set]
    refine ⟨b2, (col, G.set 0 ((at_ + 1) % many)), way, .ow (.lst ((G.set 0 ((at_ + 1) % many)).map .int)), ?_, hc.1, hc.2, by simp [hG], fun t htm => ?_⟩
    · have h4 := hst4 (G.set 0 ((at_ + 1) % many)) (by simp [hG])
      simp only [rowsBody, evSs, hp, hst2, hst3, h4, bnd_ok, pur]
    · rcases List.mem_or_eq_of_mem_set htm with h | h
      · exact hA t h
      · rw [h]; exact ⟨Int.emod_nonneg _ (by omega), Int.emod_lt_of_pos _ hm⟩
  · have hst3 : evS tab (evF tab (k + 1)) (ev2 tab (k + 1)).2 (.ife (.cmp .eq (.v 7) (.int 1)) [(.sub 9 (.int 0) (.bin .mod (.blt .int [(.bin .add (.v 6) (.int 1))]) (.v 3)))] []) (rRo b2 l most many fnd top at_ way col (.ow (.lst (G.map .int))) s10) = some (.ok .nx (rRo b2 l most many fnd top at_ way col (.ow (.lst (G.map .int))) s10)) := by
      simp [rRo, eVq, evSs, evS, evOp, evC, evEs, opnd, Opd.val, Slot.val, slotAt, fixv, isiV, isiF, typ, asBool, cmpF, endF, keptIo, lift, pur, bltF, len, assn, assns, evE.eq_22, evAs, argOf, callF, ioNd, order, finish, putBack, Arg.slot, Arg.isN, Arg.isAt, Arg.isV, ownAt, newArg, idxF, ixN, binF, eqF_int, h1]
    refine ⟨b2, (col, G), way, .ow (.lst (G.map .int)), ?_, hc.1, hc.2, hG, hA⟩
    have h4 := hst4 G hG
    simp only [rowsBody, evSs, hp, hst2, hst3, h4, bnd_ok, pur]
end EV
namespace EV
open PySem
def topOf (i : Int) : Int := ([2, 3, 4, 7] : List Int).getD i.toNat 2
theorem topOf_le (i : Int) (h0 : 0 ≤ i) (h4 : i < 4) : 0 < topOf i ∧ topOf i ≤ 7 := by
  have : i = 0 ∨ i = 1 ∨ i = 2 ∨ i = 3 := by omega
  rcases this with rfl | rfl | rfl | rfl <;> decide
theorem q_rows (k : Nat) (b : Int × Int × Int) (l : List Nat) (hl1 : 1 ≤ l.length) (hl : l.length ≤ 3) :
    ∃ (b' : Int × Int × Int) (R : List RowI), evF tab (k + 2) "_law_rows" [.ow (bagV b), .fz (.str l), .fz (.int 6)] = some (.ok (.fz (rowsV R)) [.ow (bagV b'), .fz (.str l), .fz (.int 6)]) ∧ GoodM l R := by
  have d1 := draw_lt (b := b) (n := 6) (by omega)
  have d2 := draw_lt (b := (draw b 6).2) (n := 4) (by omega)
  have tp := topOf_le _ d2.1 d2.2
  have st1 : evS tab (evF tab (k + 1)) (ev2 tab (k + 1)).2 (.par [3, 4, 5] [(.bin .add (.int 1) (.call "_law_take" [(.v 0), (.v 2)] [])), (.lst []), (.idx (.lst [(.int 2), (.int 3), (.int 4), (.int 7)]) (.call "_law_take" [(.v 0), (.int 4)] []))]) [.ow (bagV b), .fz (.str l), .fz (.int 6), .un, .un, .un, .un, .un, .un, .un, .un] = some (.ok .nx (rRo0 (draw (draw b 6).2 4).2 l 6 (1 + (draw b 6).1) [] (topOf (draw (draw b 6).2 4).1) .un .un .un .un .un)) := by
    have h1 := q_take k b 6 (by omega) (by omega)
    have h2 := q_take k (draw b 6).2 4 (by omega) (by omega)
    have : (draw (draw b 6).2 4).1 = 0 ∨ (draw (draw b 6).2 4).1 = 1 ∨ (draw (draw b 6).2 4).1 = 2 ∨ (draw (draw b 6).2 4).1 = 3 := by omega
    rcases this with hi | hi | hi | hi <;> simp [rRo0, evSl, setAll, eVq, evSs, evS, evOp, evC, evEs, opnd, Opd.val, Slot.val, slotAt, fixv, isiV, isiF, typ, asBool, cmpF, endF, keptIo, lift, pur, bltF, len, assn, assns, evE.eq_22, evAs, argOf, callF, ioNd, order, finish, putBack, Arg.slot, Arg.isN, Arg.isAt, Arg.isV, ownAt, newArg, idxF, ixN, binF, fn__law_take, ir__law_take, h1, h2, hi, topOf, cap]
  generalize hmany : 1 + (draw b 6).1 = many at st1
  generalize htop : topOf (draw (draw b 6).2 4).1 = top at st1 tp
  generalize hb0 : (draw (draw b 6).2 4).2 = b0 at st1
  obtain ⟨ρ', h1, bE, R, s6, s7, s8, s9, s10, rfl, _, hRl, hRg⟩ := forF_inv (body := evSs tab (evF tab (k + 1)) (ev2 tab (k + 1)).2 rowsBody) (t := .nm 6) (fun n ρ => ∃ (b : Int × Int × Int) (R : List RowI) (s6 s7 s8 s9 s10 : Slot), ρ = rRo0 b l 6 many (R.map rowV) top s6 s7 s8 s9 s10 ∧ (∀ v, s10 ≠ .ow v) ∧ R.length = n ∧ ∀ r ∈ R, 0 ≤ r.1 ∧ r.1 < top ∧ r.2.length = l.length ∧ ∀ t ∈ r.2, 0 ≤ t ∧ t < many) (rng 0 many) 0 (rRo0 b0 l 6 many [] top .un .un .un .un .un) ⟨b0, [], .un, .un, .un, .un, .un, rfl, nofun, rfl, by simp⟩ (fun n x ρ hx hI => by
    obtain ⟨b1, R, s6, s7, s8, s9, s10, rfl, hs, hR, hg⟩ := hI
    unfold rng at hx
    rw [List.getElem?_map] at hx
    obtain ⟨i, hi, rfl⟩ := Option.map_eq_some_iff.mp hx
    obtain ⟨hi1, hi2⟩ := List.getElem?_eq_some_iff.mp hi
    rw [List.getElem_range] at hi2
    rw [List.length_range] at hi1
    subst hi2
    obtain ⟨b2, r, way, s9', e, r1, r2, r3, r4⟩ := q_turn k b1 l 6 many (R.map rowV) top (0 + (n : Nat)) s7 s8 s9 s10 hs tp.1 tp.2 (by omega) (by omega) (by omega) hl1 hl (by rw [List.length_map]; omega)
    refine ⟨_, _, rfl, e, b2, R ++ [r], .fz (.int (0 + (n : Nat))), .fz (.int way), .fz (.int r.1), s9', s10, ?_, hs, by simp [hR], ?_⟩
    · simp [rRo, rRo0]
    · intro q hq
      rcases List.mem_append.mp hq with h | h
      · exact hg q h
      · have : q = r := by simpa using h
        subst this
        exact ⟨r1, r2, r3, r4⟩)
  have hlen : (rng 0 many).length = many.toNat := by unfold rng; simp
  rw [hlen] at hRl
  have st2 : evS tab (evF tab (k + 1)) (ev2 tab (k + 1)).2 (.for_ (.nm 6) (.rng (.v 3)) rowsBody) (rRo0 b0 l 6 many [] top .un .un .un .un .un) = some (.ok .nx (rRo0 bE l 6 many (R.map rowV) top s6 s7 s8 s9 s10)) := by
    have hit : evIt tab (evF tab (k + 1)) (ev2 tab (k + 1)).2 (.rng (.v 3)) (rRo0 b0 l 6 many [] top .un .un .un .un .un) = some (.ok (rng 0 many) (rRo0 b0 l 6 many [] top .un .un .un .un .un)) := by
      have hz : -(cap : Int) ≤ many ∧ many ≤ cap := by unfold cap; omega
      simp [evIt, rRo0, eVq, evSs, evS, evOp, evC, evEs, opnd, Opd.val, Slot.val, slotAt, fixv, isiV, isiF, typ, asBool, cmpF, endF, keptIo, lift, pur, bltF, len, assn, assns, evE.eq_22, evAs, argOf, callF, ioNd, order, finish, putBack, Arg.slot, Arg.isN, Arg.isAt, Arg.isV, ownAt, newArg, idxF, ixN, binF, rngF, hz]
    simp only [evS, hit, bnd_ok]
    rw [if_pos (by rw [hlen]; unfold cap; omega), h1]
  refine ⟨bE, R, ?_, ?_⟩
  · rw [evF_succ, run_def fn__law_rows (tab_ext _) rfl]
    have st3 : evS tab (evF tab (k + 1)) (ev2 tab (k + 1)).2 (.ret (.blt .tuple [.v 4])) (rRo0 bE l 6 many (R.map rowV) top s6 s7 s8 s9 s10) = some (.ok (.rt (.fz (rowsV R))) (rRo0 bE l 6 many (R.map rowV) top s6 s7 s8 s9 s10)) := by
      simp [rRo0, eVq, evSs, evS, evOp, evC, evEs, opnd, Opd.val, Slot.val, slotAt, fixv, isiV, isiF, typ, asBool, cmpF, endF, keptIo, lift, pur, bltF, len, assn, assns, evE.eq_22, evAs, argOf, callF, ioNd, order, finish, putBack, Arg.slot, Arg.isN, Arg.isAt, Arg.isV, ownAt, newArg, idxF, ixN, binF, rowsV]
    have e : evSs tab (evF tab (k + 1)) (ev2 tab (k + 1)).2 ir__law_rows.body [.ow (bagV b), .fz (.str l), .fz (.int 6), .un, .un, .un, .un, .un, .un, .un, .un] = some (.ok (.rt (.fz (rowsV R))) (rRo0 bE l 6 many (R.map rowV) top s6 s7 s8 s9 s10)) := by
      simp only [ir__law_rows, evSs, st1, bnd_ok]
      simp only [rowsBody, tkC] at st2
      simp only [st2, st3, bnd_ok, pur]
    show endF _ _ (evSs tab (evF tab (k + 1)) (ev2 tab (k + 1)).2 ir__law_rows.body [.ow (bagV b), .fz (.str l), .fz (.int 6), .un, .un, .un, .un, .un, .un, .un, .un]) = _
    rw [e]
    simp [endF, keptIo, ir__law_rows, rRo0]
  · have hn : (R.length : Int) = many := by omega
    refine ⟨fun z => ?_, by omega, hl, fun r hr => ?_⟩
    · rw [z] at hRl; simp at hRl; omega
    · obtain ⟨a1, a2, a3, a4⟩ := hRg r hr
      refine ⟨a1, by omega, a3, fun t ht => ?_⟩
      have := a4 t ht
      omega
end EV
namespace EV.Mo
def Le {α : Type} (m m' : Res α) : Prop := ∀ r, m = some r → m' = some r
theorem Le.refl {α : Type} {m : Res α} : Le m m := fun _ h => h
theorem Le.non {α : Type} {m : Res α} : Le none m := fun _ h => nomatch h
theorem bnd_le {α β : Type} {m m' : Res α} {k k' : α → Ro → Res β} (h : Le m m') (hk : ∀ a ρ, Le (k a ρ) (k' a ρ)) : Le (bnd m k) (bnd m' k') := by
  intro r e
  match m, e with
  | some (.ok a ρ), e => rw [h _ rfl]; exact hk a ρ r e
  | some (.ex x ρ), e => rw [h _ rfl]; exact e
theorem ite_le {α : Type} {c : Prop} [Decidable c] {a a' b b' : Res α} (h1 : Le a a') (h2 : Le b b') : Le (if c then a else b) (if c then a' else b') := by split <;> assumption
theorem quiet_le {α : Type} {m m' : Res α} (h : Le m m') : Le (quiet m) (quiet m') := by
  intro r e
  match m, e with
  | some (.ok a ρ), e => rw [h _ rfl]; exact e
theorem bor_le {ρ : Ro} {m m' : Res Slot} (h : Le m m') : Le (borEnd ρ m) (borEnd ρ m') := by
  intro r e
  match m, e with
  | some (.ok a ρ'), e => rw [h _ rfl]; exact e
theorem opnd_le {e : Ex} {m m' : Ro → Res Slot} (h : ∀ ρ, Le (m ρ) (m' ρ)) (ρ : Ro) : Le (opnd e m ρ) (opnd e m' ρ) := by
  cases e <;> first | exact Le.refl | exact bnd_le (h ρ) fun _ _ => Le.refl
theorem argOf_le {io : Bool} {e : Ex} {m m' : Ro → Res Slot} (h : ∀ ρ, Le (m ρ) (m' ρ)) (ρ : Ro) : Le (argOf io e m ρ) (argOf io e m' ρ) := by
  unfold argOf
  cases io with
  | false => exact bnd_le (h ρ) fun _ _ => Le.refl
  | true => cases e <;> first | exact Le.refl | exact bnd_le (h ρ) fun _ _ => Le.refl
theorem fin_le {as : List Arg} {m m' : Res Slot} {ρ : Ro} (h : Le m m') : Le (finish as m ρ) (finish as m' ρ) := by
  intro r e
  match m, e with
  | some (.ok a ρ), e => rw [h _ rfl]; exact e
  | some (.ex x ρ), e => rw [h _ rfl]; exact e
theorem kw_le {m m' : Res Slot} {ρ : Ro} (h : Le m m') : Le (kwEnd m ρ) (kwEnd m' ρ) := by
  intro r e
  match m, e with
  | some (.ok a ρ), e => rw [h _ rfl]; exact e
  | some (.ex x ρ), e => rw [h _ rfl]; exact e
theorem mk_le {m m' : Res Slot} {ρ : Ro} (h : Le m m') : Le (mkEnd m ρ) (mkEnd m' ρ) := by
  intro r e
  match m, e with
  | some (.ok a ρ), e => rw [h _ rfl]; exact e
  | some (.ex x ρ), e => rw [h _ rfl]; exact e
theorem cat_le {h : Sum Val Exc → Option Slot} {m m' : Res Val} (g : Le m m') : Le (catEnd h m) (catEnd h m') := by
  intro r e
  match m, e with
  | some (.ok a ρ), e => rw [g _ rfl]; exact e
  | some (.ex x ρ), e => rw [g _ rfl]; exact e
def CLe (c c' : Cal) : Prop := ∀ f a, Le (c f a) (c' f a)
theorem callF_le {c c' : Cal} (h : CLe c c') {ps ks : List String} {f : String} {as : List Arg} {ρ : Ro} : Le (callF c ps f ks as ρ) (callF c' ps f ks as ρ) := by
  unfold callF
  refine ite_le ?_ Le.refl
  split
  · exact fin_le (h _ _)
  · exact Le.refl
theorem lc_le {f f' : Ro → Res (Option Val)} (h : ∀ ρ, Le (f ρ) (f' ρ)) {t : Tg} {ns : List Nat} : ∀ (xs : List Val) (ρ : Ro), Le (lcLoop f t ns xs ρ) (lcLoop f' t ns xs ρ)
  | [], _ => Le.refl
  | x :: xs, ρ => by
    simp only [lcLoop]
    split
    · exact bnd_le (h _) fun _ _ => bnd_le (lc_le h xs _) fun _ _ => Le.refl
    · exact Le.refl
theorem lc2_le {f f' : Ro → Res (List Val)} (h : ∀ ρ, Le (f ρ) (f' ρ)) {t : Tg} {ns : List Nat} : ∀ (xs : List Val) (ρ : Ro), Le (lc2Loop f t ns xs ρ) (lc2Loop f' t ns xs ρ)
  | [], _ => Le.refl
  | x :: xs, ρ => by
    simp only [lc2Loop]
    split
    · exact bnd_le (h _) fun _ _ => bnd_le (lc2_le h xs _) fun _ _ => Le.refl
    · exact Le.refl
theorem dc_le {f f' : Ro → Res (Val × Val)} (h : ∀ ρ, Le (f ρ) (f' ρ)) {t : Tg} {ns : List Nat} : ∀ (xs : List Val) (ρ : Ro) (acc : List (Val × Val)), Le (dcLoop f t ns xs ρ acc) (dcLoop f' t ns xs ρ acc)
  | [], _, _ => Le.refl
  | x :: xs, ρ, acc => by
    simp only [dcLoop]
    split
    · exact bnd_le (h _) fun _ _ => ite_le (dc_le h xs _ _) Le.refl
    · exact Le.refl
section
variable {T : Tab} {cal cal' mkc mkc' : Cal} (hc : CLe cal cal') (hm : CLe mkc mkc')
include hc hm
mutual
theorem mE : ∀ (e : Ex) (ρ : Ro), Le (evE T cal mkc e ρ) (evE T cal' mkc' e ρ)
  | .v i, ρ => by simp only [evE]; exact Le.refl
  | .g x, ρ => by simp only [evE]; exact Le.refl
  | .non, ρ => by simp only [evE]; exact Le.refl
  | .bl b, ρ => by simp only [evE]; exact Le.refl
  | .int i, ρ => by simp only [evE]; exact Le.refl
  | .str s, ρ => by simp only [evE]; exact Le.refl
  | .tup es, ρ => by simp only [evE]; exact bnd_le (mEs es ρ) fun _ _ => Le.refl
  | .lst es, ρ => by simp only [evE]; exact bnd_le (mEs es ρ) fun _ _ => Le.refl
  | .star _, ρ => by simp only [evE]; exact Le.refl
  | .bin o a b, ρ => by simp only [evE]; exact bnd_le (opnd_le (mE a) ρ) fun _ ρ1 => bnd_le (opnd_le (mE b) ρ1) fun _ _ => Le.refl
  | .neg a, ρ => by simp only [evE]; exact bnd_le (mE a ρ) fun _ _ => Le.refl
  | .nt a, ρ => by simp only [evE]; exact bnd_le (mE a ρ) fun _ _ => Le.refl
  | .and a b, ρ => by simp only [evE]; exact bnd_le (mE a ρ) fun _ _ => bnd_le Le.refl fun _ ρ2 => ite_le (mE b ρ2) Le.refl
  | .or a b, ρ => by simp only [evE]; exact bnd_le (mE a ρ) fun _ _ => bnd_le Le.refl fun _ ρ2 => ite_le Le.refl (mE b ρ2)
  | .cmp o a b, ρ => by simp only [evE]; exact bnd_le (opnd_le (mE a) ρ) fun _ ρ1 => bnd_le (opnd_le (mE b) ρ1) fun _ _ => Le.refl
  | .chain o p a b c, ρ => by
    simp only [evE]
    refine bnd_le (opnd_le (mE a) ρ) fun x ρ1 => bnd_le (opnd_le (mE b) ρ1) fun y ρ2 => ?_
    split
    · exact bnd_le (opnd_le (mE c) ρ2) fun _ _ => Le.refl
    · exact Le.refl
    · exact Le.refl
  | .ite c a b, ρ => by simp only [evE]; exact bnd_le (mE c ρ) fun _ _ => bnd_le Le.refl fun _ ρ2 => ite_le (mE a ρ2) (mE b ρ2)
  | .idx a i, ρ => by simp only [evE]; exact bnd_le (opnd_le (mE a) ρ) fun _ ρ1 => bnd_le (opnd_le (mE i) ρ1) fun _ _ => Le.refl
  | .slc a lo hi, ρ => by simp only [evE]; exact bnd_le (opnd_le (mE a) ρ) fun _ ρ1 => bnd_le (mOp lo ρ1) fun _ ρ2 => bnd_le (mOp hi ρ2) fun _ _ => Le.refl
  | .fld a f, ρ => by simp only [evE]; exact bnd_le (opnd_le (mE a) ρ) fun _ _ => Le.refl
  | .prp c p f a, ρ => by simp only [evE]; exact bnd_le (opnd_le (mE a) ρ) fun _ _ => Le.refl
  | .call f es ks, ρ => by
    simp only [evE]
    split
    · split
      · exact bnd_le (mAs _ es ρ) fun _ _ => callF_le hc
      · refine bnd_le (mEs es ρ) fun _ _ => ite_le ?_ Le.refl
        split
        · exact kw_le (hc _ _)
        · exact Le.refl
    · exact Le.refl
  | .mk c es ks, ρ => by
    simp only [evE]
    split
    · refine bnd_le (mEs es ρ) fun _ _ => ?_
      split
      · exact mk_le (hm _ _)
      · refine ite_le ?_ Le.refl
        split
        · exact mk_le (hm _ _)
        · exact Le.refl
    · exact Le.refl
  | .mth k c m a es, ρ => by
    simp only [evE]
    split
    · exact bnd_le (argOf_le (mE a) ρ) fun _ ρ0 => ite_le Le.refl (bnd_le (mAs _ es ρ0) fun _ _ => callF_le hc)
    · exact Le.refl
  | .isi a t, ρ => by simp only [evE]; exact bnd_le (opnd_le (mE a) ρ) fun _ _ => Le.refl
  | .blt b [], ρ => by simp only [evE]; exact bnd_le (mEs [] ρ) fun _ _ => Le.refl
  | .blt b [a], ρ => by simp only [evE]; exact bnd_le (opnd_le (mE a) ρ) fun _ _ => Le.refl
  | .blt b (a :: c :: r), ρ => by simp only [evE]; exact bnd_le (mEs (a :: c :: r) ρ) fun _ _ => Le.refl
  | .bmt a m es, ρ => by simp only [evE]; exact bnd_le (opnd_le (mE a) ρ) fun _ ρ1 => ite_le Le.refl (bnd_le (mEs es ρ1) fun _ _ => Le.refl)
  | .lrg e, ρ => by simp only [evE]; exact bnd_le (mE e ρ) fun _ _ => Le.refl
  | .lc ns t it c e, ρ => by
    simp only [evE]
    refine bnd_le (mIt it ρ) fun _ _ => ite_le (bnd_le (quiet_le (lc_le (fun ρ => ?_) _ _)) fun _ _ => Le.refl) Le.refl
    exact bnd_le (mC c ρ) fun _ ρ' => ite_le (bnd_le (mE e ρ') fun _ _ => Le.refl) Le.refl
  | .lc2 ns t it ns1 t1 it1 e, ρ => by
    simp only [evE]
    refine bnd_le (mIt it ρ) fun _ _ => ite_le (bnd_le (quiet_le (lc2_le (fun ρ => ?_) _ _)) fun _ _ => Le.refl) Le.refl
    exact bnd_le (mIt it1 ρ) fun _ _ => lc_le (fun ρ => bnd_le (mE e ρ) fun _ _ => Le.refl) _ _
  | .dc ns t it k e, ρ => by
    simp only [evE]
    refine bnd_le (mIt it ρ) fun _ _ => ite_le (bnd_le (quiet_le (dc_le (fun ρ => ?_) _ _ _)) fun _ _ => Le.refl) Le.refl
    exact bnd_le (mE k ρ) fun _ _ => bnd_le Le.refl fun _ ρ3 => bnd_le (mE e ρ3) fun _ _ => Le.refl
  | .dct [] [], ρ => by simp only [evE]; exact Le.refl
  | .dct [k] [e], ρ => by simp only [evE]; exact bnd_le (mE k ρ) fun _ _ => bnd_le Le.refl fun _ ρ3 => bnd_le (mE e ρ3) fun _ _ => Le.refl
  | .dct [] (_ :: _), ρ => by simp only [evE]; exact Le.refl
  | .dct [_] [], ρ => by simp only [evE]; exact Le.refl
  | .dct [_] (_ :: _ :: _), ρ => by simp only [evE]; exact Le.refl
  | .dct (_ :: _ :: _) _, ρ => by simp only [evE]; exact Le.refl
  | .tzp a b, ρ => by simp only [evE]; exact bnd_le (mE a ρ) fun _ _ => bnd_le Le.refl fun _ ρ2 => bnd_le (mE b ρ2) fun _ _ => Le.refl
  | .lzp a b, ρ => by simp only [evE]; exact bnd_le (mE a ρ) fun _ _ => bnd_le Le.refl fun _ ρ2 => bnd_le (mE b ρ2) fun _ _ => Le.refl
  | .dcl e, ρ => by simp only [evE]; exact bnd_le (mE e ρ) fun _ _ => bnd_le Le.refl fun _ _ => Le.refl
  | .rev a, ρ => by simp only [evE]; exact bnd_le (opnd_le (mE a) ρ) fun _ _ => Le.refl
  | .dct2 k e k2 e2, ρ => by simp only [evE]; exact bnd_le (mE k ρ) fun _ _ => bnd_le Le.refl fun _ ρ2 => bnd_le (mE e ρ2) fun _ _ => bnd_le Le.refl fun _ ρ4 => bnd_le (mE k2 ρ4) fun _ _ => bnd_le Le.refl fun _ ρ6 => bnd_le (mE e2 ρ6) fun _ _ => Le.refl
  | .ln f c es, ρ => by
    simp only [evE]
    split
    · exact bnd_le (mAs _ es ρ) fun _ _ => ite_le Le.refl (bnd_le (callF_le hm) fun _ _ => Le.refl)
    · exact Le.refl
  | .sp f c m ne es, ρ => by
    simp only [evE]
    split
    · refine bnd_le (mAs _ es ρ) fun _ _ => ?_
      split
      · exact bnd_le (quiet_le (callF_le hm)) fun _ _ => Le.refl
      · exact Le.refl
    · exact Le.refl
  | .cm f c es ks, ρ => by
    simp only [evE]
    split
    · refine bnd_le (mEs es ρ) fun _ _ => ?_
      split
      · exact kw_le (hc _ _)
      · refine ite_le ?_ Le.refl
        split
        · exact kw_le (hc _ _)
        · exact Le.refl
    · exact Le.refl
  | .mkv i c es, ρ => by
    simp only [evE]
    refine ite_le ?_ Le.refl
    split
    · exact bnd_le (mEs es ρ) fun _ _ => mk_le (hm _ _)
    · exact Le.refl
  | .prim p es, ρ => by
    simp only [evE]
    split
    · exact bnd_le (mEs es ρ) fun _ _ => Le.refl
    · exact Le.refl
  | .pg f c m a, ρ => by
    simp only [evE]
    split
    · exact bnd_le (argOf_le (mE a) ρ) fun _ ρ0 => ite_le Le.refl (bnd_le (quiet_le (callF_le hm)) fun _ _ => Le.refl)
    · exact Le.refl
  | .thk g e, ρ => by
    simp only [evE]
    split
    · exact cat_le (bnd_le (mE e ρ) fun _ _ => Le.refl)
    · exact Le.refl
  | .bor e, ρ => by simp only [evE]; exact bor_le (mE e _)
theorem mOp : ∀ (e : Option Ex) (ρ : Ro), Le (evOp T cal mkc e ρ) (evOp T cal' mkc' e ρ)
  | none, ρ => by simp only [evOp]; exact Le.refl
  | some e, ρ => by simp only [evOp]; exact bnd_le (mE e ρ) fun _ _ => Le.refl
theorem mC : ∀ (e : Option Ex) (ρ : Ro), Le (evC T cal mkc e ρ) (evC T cal' mkc' e ρ)
  | none, ρ => by simp only [evC]; exact Le.refl
  | some e, ρ => by simp only [evC]; exact bnd_le (mE e ρ) fun _ _ => Le.refl
theorem mEs : ∀ (es : List Ex) (ρ : Ro), Le (evEs T cal mkc es ρ) (evEs T cal' mkc' es ρ)
  | [], ρ => by simp only [evEs]; exact Le.refl
  | e :: r, ρ => by
    have h1 := mE e ρ
    have hr := mEs r
    by_cases hs : ∃ a, e = .star a
    · obtain ⟨a, rfl⟩ := hs
      have ha := mE a ρ
      simp only [evEs]
      refine bnd_le ha fun _ _ => bnd_le Le.refl fun v ρ2 => ?_
      split
      · exact bnd_le (hr ρ2) fun _ _ => Le.refl
      · exact bnd_le (hr ρ2) fun _ _ => Le.refl
      · exact Le.refl
    · have e1 : ∀ (cal mkc : Cal), evEs T cal mkc (e :: r) ρ = bnd (evE T cal mkc e ρ) fun q ρ1 => bnd (fixv q ρ1) fun v ρ2 => bnd (evEs T cal mkc r ρ2) fun vs ρ3 => pur (v :: vs) ρ3 := by
        intro cal mkc
        cases e <;> first | (simp only [evEs]; done) | exact absurd ⟨_, rfl⟩ hs
      rw [e1, e1]
      exact bnd_le h1 fun _ _ => bnd_le Le.refl fun _ ρ2 => bnd_le (hr ρ2) fun _ _ => Le.refl
theorem mAs : ∀ (io : List Bool) (es : List Ex) (ρ : Ro), Le (evAs T cal mkc io es ρ) (evAs T cal' mkc' io es ρ)
  | _, [], ρ => by simp only [evAs]; exact Le.refl
  | io, e :: r, ρ => by simp only [evAs]; exact bnd_le (argOf_le (mE e) ρ) fun _ ρ1 => ite_le Le.refl (bnd_le (mAs _ r ρ1) fun _ _ => Le.refl)
theorem mIt : ∀ (it : Iter) (ρ : Ro), Le (evIt T cal mkc it ρ) (evIt T cal' mkc' it ρ)
  | .seq e, ρ => by simp only [evIt]; exact bnd_le (mE e ρ) fun _ _ => Le.refl
  | .rng e, ρ => by simp only [evIt]; exact bnd_le (mE e ρ) fun _ _ => Le.refl
  | .rng2 a b, ρ => by simp only [evIt]; exact bnd_le (mE a ρ) fun _ _ => bnd_le Le.refl fun _ ρ2 => bnd_le (mE b ρ2) fun _ _ => Le.refl
  | .rng3 a b c, ρ => by simp only [evIt]; exact bnd_le (mE a ρ) fun _ _ => bnd_le Le.refl fun _ ρ2 => bnd_le (mE b ρ2) fun _ _ => bnd_le Le.refl fun _ ρ4 => bnd_le (mE c ρ4) fun _ _ => Le.refl
  | .enum e, ρ => by simp only [evIt]; exact bnd_le (mE e ρ) fun _ _ => Le.refl
  | .zip a b, ρ => by simp only [evIt]; exact bnd_le (mE a ρ) fun _ _ => bnd_le Le.refl fun _ ρ2 => bnd_le (mE b ρ2) fun _ _ => Le.refl
  | .items e, ρ => by simp only [evIt]; exact bnd_le (mE e ρ) fun _ _ => Le.refl
end
omit hc hm in
theorem for_le {b b' : Ro → Res Fl} (h : ∀ ρ, Le (b ρ) (b' ρ)) {t : Tg} : ∀ (xs : List Val) (ρ : Ro), Le (forF b t xs ρ) (forF b' t xs ρ)
  | [], _ => Le.refl
  | x :: xs, ρ => by
    simp only [forF]
    split
    · refine bnd_le (h _) fun f ρ2 => ?_
      cases f
      · exact for_le h xs ρ2
      · exact Le.refl
    · exact Le.refl
omit hc hm in
theorem whl_le {c c' : Ro → Res Bool} {b b' : Ro → Res Fl} (h : ∀ ρ, Le (c ρ) (c' ρ)) (hb : ∀ ρ, Le (b ρ) (b' ρ)) : ∀ (n : Nat) (ρ : Ro), Le (whlF c b n ρ) (whlF c' b' n ρ)
  | 0, _ => Le.refl
  | n + 1, ρ => by
    simp only [whlF]
    refine bnd_le (h _) fun d ρ1 => ite_le (bnd_le (hb _) fun f ρ2 => ?_) Le.refl
    cases f
    · exact whl_le h hb n ρ2
    · exact Le.refl
theorem mSl : ∀ (es : List Ex) (ρ : Ro), Le (evSl T cal mkc es ρ) (evSl T cal' mkc' es ρ)
  | [], _ => Le.refl
  | e :: r, ρ => by simp only [evSl]; exact bnd_le (mE hc hm e ρ) fun _ ρ1 => bnd_le (mSl r ρ1) fun _ _ => Le.refl
mutual
theorem mS : ∀ (s : Sx) (ρ : Ro), Le (evS T cal mkc s ρ) (evS T cal' mkc' s ρ)
  | .pass, ρ => by simp only [evS]; exact Le.refl
  | .asg t e, ρ => by simp only [evS]; exact bnd_le (mE hc hm e ρ) fun _ _ => Le.refl
  | .par is es, ρ => by simp only [evS]; exact bnd_le (mSl hc hm es ρ) fun _ _ => Le.refl
  | .aug i e, ρ => by simp only [evS]; exact ite_le Le.refl (bnd_le (opnd_le (mE hc hm e) ρ) fun _ _ => Le.refl)
  | .sub i k e, ρ => by simp only [evS]; exact bnd_le (mE hc hm e ρ) fun _ _ => bnd_le Le.refl fun _ ρ2 => ite_le Le.refl (bnd_le (opnd_le (mE hc hm k) ρ2) fun _ _ => Le.refl)
  | .subp i k j e, ρ => by
    simp only [evS]
    refine bnd_le (mE hc hm e ρ) fun r ρ1 => ?_
    split
    · exact ite_le Le.refl (bnd_le (opnd_le (mE hc hm k) ρ1) fun _ _ => Le.refl)
    · exact Le.refl
  | .mut i m es, ρ => by simp only [evS]; exact ite_le Le.refl (bnd_le (mEs hc hm es ρ) fun _ _ => Le.refl)
  | .setf i f e, ρ => by simp only [evS]; exact bnd_le (mE hc hm e ρ) fun _ _ => Le.refl
  | .expr e, ρ => by simp only [evS]; exact bnd_le (mE hc hm e ρ) fun _ _ => Le.refl
  | .ret e, ρ => by
    have h1 := mE (T := T) hc hm e ρ
    cases e <;> simp only [evS] <;> first | exact Le.refl | exact bnd_le h1 fun _ _ => Le.refl
  | .retN, ρ => by simp only [evS]; exact Le.refl
  | .ife c a b, ρ => by simp only [evS]; exact bnd_le (mE hc hm c ρ) fun _ _ => bnd_le Le.refl fun _ ρ2 => ite_le (mSs a ρ2) (mSs b ρ2)
  | .whl c a, ρ => by simp only [evS]; exact whl_le (fun ρ => bnd_le (mE hc hm c ρ) fun _ _ => Le.refl) (mSs a) _ ρ
  | .for_ t it a, ρ => by simp only [evS]; exact bnd_le (mIt hc hm it ρ) fun _ ρ1 => ite_le (for_le (mSs a) _ ρ1) Le.refl
  | .tri a cs n b, ρ => by simp only [evS]; exact quiet_le (mSs a ρ)
  | .rai _ _ es, ρ => by simp only [evS]; exact bnd_le (mEs hc hm es ρ) fun _ _ => Le.refl
  | .subs i ks e, ρ => by simp only [evS]; exact bnd_le (mE hc hm e ρ) fun _ _ => Le.refl
  | .hd i j e, ρ => by simp only [evS]; exact bnd_le (mE hc hm e ρ) fun _ _ => Le.refl
theorem mSs : ∀ (s : List Sx) (ρ : Ro), Le (evSs T cal mkc s ρ) (evSs T cal' mkc' s ρ)
  | [], ρ => by simp only [evSs]; exact Le.refl
  | s :: r, ρ => by
    simp only [evSs]
    refine bnd_le (mS s ρ) fun f ρ1 => ?_
    cases f
    · exact mSs r ρ1
    · exact Le.refl
end
end
end EV.Mo
namespace EV
open PySem GH Pl Y
section
variable {l : List Nat} {R : List RowI}
theorem q_pageL (T : GoodT l R) (k : Nat) : evF tab (k + 1) "_law_page" [.fz (.str l), .fz (rowsV R)] = some (.ok (.fz (.str (txM l R))) [.fz (.str l), .fz (rowsV R)]) := by
  refine Y.q_of fn__law_page (tab_ext _) rfl rfl ?_
  show Wp (evSs _ _ _ [_, _, _] [_, _, .un, .un, .un, .un]) (c := ⟨_⟩)
  have h8 : (asStr "machine ").length = 8 := by decide +kernel
  have hl := T.let_
  have h32 : asStr " " = [32] := by decide +kernel
  have h10 : asStr "\n" = [10] := by decide +kernel
  simp only [↓Y.w_forU, ↓Y.w_lcU, ↓Y.w_lc2U, ↓Y.w_dcU, ↓WA, ↓WC, WT, ↓WX, WB, WZ, Nat.reduceAdd, eq_self, it_rows, h8]
  refine ⟨by unfold cap; omega, by rw [List.length_map]; have := T.len; unfold cap; omega, ?_⟩
  refine Y.w_forL rowV R (fun pre ρ => ∃ s3 s4, ρ = [.fz (.str l), .fz (rowsV R), .ow (.lst (.str (asStr "machine " ++ l) :: pre.map fun r => .str (rowTx r))), s3, s4, .un]) ⟨_, _, rfl⟩ ?_ ?_
  · rintro pre r suf e ρ ⟨s3, s4, rfl⟩
    obtain ⟨h1, h2, h3, h4⟩ := T.row r (by rw [e]; simp)
    have er : rowV r = .tup [.int r.1, .tup (r.2.map .int)] := rfl
    simp only [↓Y.w_forU, ↓Y.w_lcU, ↓Y.w_lc2U, ↓Y.w_dcU, ↓WA, ↓WC, WT, ↓WX, WB, WZ, Nat.reduceAdd, eq_self, er, h32]
    refine ⟨by omega, by rw [List.length_map]; unfold cap; omega, ?_⟩
    refine Y.w_lcL Val.int r.2 (fun t => some (.str (intS t))) (fun t ht => ?_) ?_
    · have := h4 t ht
      simp only [↓Y.w_forU, ↓Y.w_lcU, ↓Y.w_lc2U, ↓Y.w_dcU, ↓WA, ↓WC, WT, ↓WX, WB, WZ, Nat.reduceAdd, eq_self]
      omega
    · have ef : (r.2.filterMap fun t => some (Val.str (intS t))) = r.2.map fun t => Val.str (intS t) := by simp
      have ea : allS (.str (asStr "state") :: .str (intS r.1) :: r.2.map fun t => Val.str (intS t)) = some (rowWs r) := by
        simp only [allS, allS_mapT intS r.2, Option.map_some]
        rfl
      obtain ⟨a, b⟩ := rowWs_sum (r := r) ⟨h1, h2⟩ h4
      have ej := join_F (s := [32]) ea (by rw [a, b]; simp; unfold cap; omega)
      have hp : pre.length < 20 := by
        have := T.len
        rw [e] at this
        simp at this
        omega
      simp only [↓Y.w_forU, ↓Y.w_lcU, ↓Y.w_lc2U, ↓Y.w_dcU, ↓WA, ↓WC, WT, ↓WX, WB, WZ, Nat.reduceAdd, eq_self, ef, h32, ej, List.length_map]
      refine ⟨by unfold cap; omega, by unfold cap; omega, .fz (.int r.1), .fz (.tup (r.2.map .int)), ?_⟩
      simp [rowTx]
  · rintro ρ ⟨s3, s4, rfl⟩
    have ea : allS (.str (asStr "machine " ++ l) :: R.map fun r => Val.str (rowTx r)) = some (lines l R) := by
      simp only [allS, allS_mapT rowTx R, Option.map_some]
      rfl
    obtain ⟨a, b⟩ := lines_sum T
    have ej := join_F (s := [10]) ea (by simp; unfold cap; omega)
    simp only [↓Y.w_forU, ↓Y.w_lcU, ↓Y.w_lc2U, ↓Y.w_dcU, ↓WA, ↓WC, WT, ↓WX, WB, WZ, Nat.reduceAdd, eq_self, h10, ej]
    first | rfl | exact ⟨rfl, rfl⟩
end
theorem sgn_ok (i : Int) (h0 : 0 ≤ i) (h8 : i < 8) : ∀ c ∈ sgn i, 33 ≤ c ∧ c < 128 := by
  have : i = 0 ∨ i = 1 ∨ i = 2 ∨ i = 3 ∨ i = 4 ∨ i = 5 ∨ i = 6 ∨ i = 7 := by omega
  rcases this with rfl | rfl | rfl | rfl | rfl | rfl | rfl | rfl <;> decide +kernel
theorem repr_b4 (a b c d : Bool) : ∃ s, bltF .repr [.lst [.bl a, .bl b, .bl c, .bl d]] = some (.fz (.str s)) :=
  Rq.repr (n := 4) (c := 50000) ((Rqs.cons (rq_bl a) (Rqs.cons (rq_bl b) (Rqs.cons (rq_bl c) (Rqs.cons (rq_bl d) Rqs.nil)))).lst.mono (by omega) (by omega)) (by omega) (by omega)
theorem q_eqP {l : List Nat} {R : List RowI} {v : Val} (hi : isiV tab.isc v "Machine" = some false) (k : Nat) : evF tab (k + 1) "Machine.__eq__" [.fz (machV l R), .fz v] = some (.ok (.fz (.bl false)) [.fz (machV l R), .fz v]) := by
  refine Y.q_of fn_Machine___eq__ (tab_ext _) rfl rfl ?_
  show Wp (evSs _ _ _ [_] [_, _]) (c := ⟨_⟩)
  simp only [↓Y.w_forU, ↓Y.w_lcU, ↓Y.w_lc2U, ↓Y.w_dcU, ↓WA, ↓WC, WT, ↓WX, WB, WZ, Nat.reduceAdd, eq_self, hi]
  rfl
theorem q_pairM {l l' : List Nat} {R S : List RowI} (T : GoodT l R) (U : GoodT l' S) (k : Nat) {d : Bool} (hd : decide (l' = l ∧ S = R) = d) :
    evF tab (k + 6) "_law_pair_right" [.fz (machV l R), .fz (machV l' S), .fz (.bl d)] = some (.ok (.fz (.bl true)) [.fz (machV l R), .fz (machV l' S), .fz (.bl d)]) := by
  refine Y.q_of fn__law_pair_right (tab_ext _) rfl rfl ?_
  show Wp (evSs _ _ _ [_, _] [_, _, _, .un]) (c := ⟨_⟩)
  have hmk : (ev2 tab (k + 5)).2 = evF tab (k + 4) := mkc_succ tab (k + 4)
  have e1 := q_eqM T U k
  have e2 := q_eqM U T k
  have hd2 : decide (l = l' ∧ R = S) = d := by rw [← hd]; exact decide_eq_decide.mpr ⟨fun h => ⟨h.1.symm, h.2.symm⟩, fun h => ⟨h.1.symm, h.2.symm⟩⟩
  rw [hd2] at e1
  rw [hd] at e2
  obtain ⟨s, hs⟩ := repr_b4 d d (!d) (!d)
  have ess : eqF (.str s) (.str s) = some true := by rw [eq_ss, decide_eq_true rfl]
  have t1 : (true != false) = true := rfl
  have t2 : (false != false) = false := rfl
  have t3 : (true != true) = false := rfl
  have t4 : (false != true) = true := rfl
  cases d
  · simp only [Bool.not_false] at hs
    simp only [↓Y.w_forU, ↓Y.w_lcU, ↓Y.w_lc2U, ↓Y.w_dcU, ↓WA, ↓WC, WT, ↓WX, WB, WZ, Nat.reduceAdd, eq_self, hmk, sp_eqE, e1, e2, t1, t2, t3, t4, hs, ess]
    first | done | rfl | exact ⟨rfl, rfl⟩
  · simp only [Bool.not_true] at hs
    simp only [↓Y.w_forU, ↓Y.w_lcU, ↓Y.w_lc2U, ↓Y.w_dcU, ↓WA, ↓WC, WT, ↓WX, WB, WZ, Nat.reduceAdd, eq_self, hmk, sp_eqE, e1, e2, t1, t2, t3, t4, hs, ess]
    first | done | rfl | exact ⟨rfl, rfl⟩
theorem q_pairP {l : List Nat} {R : List RowI} {v : Val} (hp : Arg.isPln (.va v) = true) (k : Nat) :
    evF tab (k + 6) "_law_pair_right" [.fz (machV l R), .fz v, .fz (.bl false)] = some (.ok (.fz (.bl true)) [.fz (machV l R), .fz v, .fz (.bl false)]) := by
  refine Y.q_of fn__law_pair_right (tab_ext _) rfl rfl ?_
  show Wp (evSs _ _ _ [_, _] [_, _, _, .un]) (c := ⟨_⟩)
  have hmk : (ev2 tab (k + 5)).2 = evF tab (k + 4) := mkc_succ tab (k + 4)
  have hi : isiV tab.isc v "Machine" = some false := by cases v <;> first | rfl | cases hp
  have s1 : ∀ ρ : Ro, spAs ρ "Machine" "__eq__" [.va (machV l R), .va v] = some [.va (machV l R), .va v] := fun ρ => by cases v <;> first | rfl | cases hp
  have s2 : ∀ ρ : Ro, spAs ρ "Machine" "__eq__" [.va v, .va (machV l R)] = some [.va (machV l R), .va v] := fun ρ => by cases v <;> first | rfl | cases hp
  have e1 := q_eqP (l := l) (R := R) hi (k + 3)
  obtain ⟨s, hs⟩ := repr_b4 false false true true
  have ess : eqF (.str s) (.str s) = some true := by rw [eq_ss, decide_eq_true rfl]
  have t2 : (false != false) = false := rfl
  have t4 : (false != true) = true := rfl
  simp only [↓Y.w_forU, ↓Y.w_lcU, ↓Y.w_lc2U, ↓Y.w_dcU, ↓WA, ↓WC, WT, ↓WX, WB, WZ, Nat.reduceAdd, eq_self, hmk, s1, s2, e1, t2, t4, hs, ess, Bool.not_false]
  first | done | rfl | exact ⟨rfl, rfl⟩
end EV
namespace EV
open PySem GH Pl Y
theorem cut_to5 {α : Type} {xs : List α} {d : Int} (h0 : 0 ≤ d) (h1 : d ≤ xs.length) : cut xs none (some d) = xs.take d.toNat := by
  have e1 : sIx xs.length 0 none = 0 := rfl
  have e2 : sIx xs.length xs.length (some d) = d.toNat := by
    show (if d < 0 then (d + (xs.length : Int)).toNat else min d.toNat xs.length) = _
    rw [if_neg (by omega)]; omega
  unfold cut
  rw [e1, e2, List.drop_zero, Nat.sub_zero]
theorem cut_from5 {α : Type} {xs : List α} {d : Int} (h0 : 0 ≤ d) (h1 : d ≤ xs.length) : cut xs (some d) none = xs.drop d.toNat := by
  have e1 : sIx xs.length 0 (some d) = d.toNat := by
    show (if d < 0 then (d + (xs.length : Int)).toNat else min d.toNat xs.length) = _
    rw [if_neg (by omega)]; omega
  have e2 : sIx xs.length xs.length none = xs.length := rfl
  unfold cut
  rw [e1, e2, List.take_of_length_le (by rw [List.length_drop]; omega)]
theorem apart {α : Type} (xs : List α) {d : Int} (h0 : 0 ≤ d) (h1 : d < xs.length) : ∃ A x B, xs = A ++ x :: B ∧ (A.length : Int) = d := by
  have h : d.toNat < xs.length := by omega
  refine ⟨xs.take d.toNat, xs[d.toNat], xs.drop (d.toNat + 1), ?_, by rw [List.length_take]; omega⟩
  rw [← List.drop_eq_getElem_cons h, List.take_append_drop]
theorem sl_to {α : Type} {f : α → Val} {A B : List α} {x : α} {d : Int} (h : (A.length : Int) = d) : slcF (.tup ((A ++ x :: B).map f)) none (some d) = some (.fz (.tup (A.map f))) := by
  show some (Slot.fz (.tup (cut _ none (some d)))) = _
  rw [cut_to5 (by omega) (by rw [List.length_map, List.length_append]; omega), ← List.map_take, show d.toNat = A.length by omega, List.take_left']
  rfl
theorem sl_from {α : Type} {f : α → Val} {A B : List α} {x : α} {d : Int} (h : (A.length : Int) = d) : slcF (.tup ((A ++ x :: B).map f)) (some (d + 1)) none = some (.fz (.tup (B.map f))) := by
  show some (Slot.fz (.tup (cut _ (some (d + 1)) none))) = _
  rw [cut_from5 (by omega) (by rw [List.length_map, List.length_append, List.length_cons]; omega), ← List.map_drop, show (d + 1).toNat = A.length + 1 by omega]
  have : (A ++ x :: B).drop (A.length + 1) = B := by
    rw [show A ++ x :: B = (A ++ [x]) ++ B by simp, List.drop_left' (by simp)]
  rw [this]
theorem ix_at {α : Type} {f : α → Val} {A B : List α} {x : α} {d : Int} (h : (A.length : Int) = d) : idxF (.tup ((A ++ x :: B).map f)) (.int d) = some (f x) := by
  have hx : ixN ((A ++ x :: B).map f).length d = some A.length := by
    unfold ixN
    rw [List.length_map, List.length_append, List.length_cons, if_pos ⟨by omega, by omega⟩]
    congr 1; omega
  show ((ixN ((A ++ x :: B).map f).length d).bind fun j => ((A ++ x :: B).map f)[j]?) = _
  rw [hx, Option.bind_some, List.getElem?_map, List.getElem?_append_right (Nat.le_refl _), Nat.sub_self]
  rfl
theorem add_t {a b : List Val} (h : a.length + b.length ≤ 1000) : binF .add (.tup a) (.tup b) = some (.fz (.tup (a ++ b))) := by
  have : a.length + b.length ≤ cap := by unfold cap; omega
  simp only [binF, this, if_true]
theorem good_of {l l' : List Nat} {R S : List RowI} (M : GoodM l R) (hl : l'.length = l.length) (h6 : S.length ≤ 6) (hle : R.length ≤ S.length) (h : ∀ r ∈ S, r ∈ R ∨ (0 ≤ r.1 ∧ r.1 ≤ 6 ∧ r.2.length = l.length ∧ ∀ t ∈ r.2, 0 ≤ t ∧ t < R.length)) : GoodM l' S := by
  have h1 := List.length_pos_iff.mpr M.one
  refine ⟨List.length_pos_iff.mp (by omega), h6, by rw [hl]; exact M.let_, fun r hr => ?_⟩
  rcases h r hr with z | ⟨z1, z2, z3, z4⟩
  · obtain ⟨y1, y2, y3, y4⟩ := M.row r z
    exact ⟨y1, y2, by rw [hl]; exact y3, fun t ht => ⟨(y4 t ht).1, by have := (y4 t ht).2; omega⟩⟩
  · exact ⟨z1, z2, by rw [hl]; exact z3, fun t ht => ⟨(z4 t ht).1, by have := (z4 t ht).2; omega⟩⟩
def othV (p : List Nat × List RowI) : Val := .tup [.str p.1, rowsV p.2]
def oth (l : List Nat) : List Nat := if l = asStr "ab" then asStr "ac" else if l = asStr "a" then asStr "b" else if l = asStr "abc" then asStr "abd" else l
def dctO : Val := .dct [(.str (asStr "ab"), .str (asStr "ac")), (.str (asStr "a"), .str (asStr "b")), (.str (asStr "abc"), .str (asStr "abd"))]
theorem prm_oth : prmDc [("ab", "ac"), ("a", "b"), ("abc", "abd")] [] = some (.ow dctO) := by kernel_rfl
theorem oth_get (i : Int) (h0 : 0 ≤ i) (h8 : i < 8) : bmtF dctO .get [.str (sgn i), .str (sgn i)] = some (.fz (.str (oth (sgn i)))) := by
  have : i = 0 ∨ i = 1 ∨ i = 2 ∨ i = 3 ∨ i = 4 ∨ i = 5 ∨ i = 6 ∨ i = 7 := by omega
  rcases this with rfl | rfl | rfl | rfl | rfl | rfl | rfl | rfl <;> kernel_rfl
theorem oth_len (i : Int) (h0 : 0 ≤ i) (h8 : i < 8) : (oth (sgn i)).length = (sgn i).length ∧ ∀ c ∈ oth (sgn i), 33 ≤ c ∧ c < 128 := by
  have : i = 0 ∨ i = 1 ∨ i = 2 ∨ i = 3 ∨ i = 4 ∨ i = 5 ∨ i = 6 ∨ i = 7 := by omega
  rcases this with rfl | rfl | rfl | rfl | rfl | rfl | rfl | rfl <;> decide +kernel
theorem q_letO (k : Nat) (i : Int) (h0 : 0 ≤ i) (h8 : i < 8) : evF tab (k + 2) "are_letters" [.fz (.str (oth (sgn i)))] = some (.ok (.fz (.bl true)) [.fz (.str (oth (sgn i)))]) := by
  have : i = 0 ∨ i = 1 ∨ i = 2 ∨ i = 3 ∨ i = 4 ∨ i = 5 ∨ i = 6 ∨ i = 7 := by omega
  rcases this with rfl | rfl | rfl | rfl | rfl | rfl | rfl | rfl <;> kernel_rfl
theorem q_others (k : Nat) {l l' : List Nat} {R : List RowI} (M : GoodM l R) (h1 : 1 ≤ l.length) (hg : bmtF dctO .get [.str l, .str l] = some (.fz (.str l'))) (hl' : l'.length = l.length) (b : Int × Int × Int) :
    Wp (evF tab (k + 3) "_law_others" [.ow (bagV b), .fz (.str l), .fz (rowsV R)]) (c := ⟨fun r fin => ∃ (b' : Int × Int × Int) (xs : List (List Nat × List RowI)), r = .ow (.lst (xs.map othV)) ∧ fin = [.ow (bagV b'), .fz (.str l), .fz (rowsV R)] ∧ xs.length ≤ 5 ∧ ∀ p ∈ xs, (p.1 = l ∨ p.1 = l') ∧ GoodM p.1 p.2⟩) := by
  refine Y.q_ofP fn__law_others (tab_ext _) rfl ?_
  show Wp (evSs _ _ _ [_, _, _, _, _, _, _, _, _] [_, _, _, .un, .un, .un, .un, .un, .un, .un]) (c := ⟨_⟩)
  have hn := List.length_pos_iff.mpr M.one
  have h6 := M.six
  have ll : bltF .len [rowsV R] = some (.fz (.int (R.length : Nat))) := by simp [rowsV, bltF, len]
  have q1 := q_take (k + 1) b (R.length : Nat) (by omega) (by omega)
  have d1 := draw_lt (b := b) (n := (R.length : Nat)) (by omega)
  generalize (draw b (R.length : Nat)).2 = b1 at q1
  generalize (draw b (R.length : Nat)).1 = at_ at q1 d1
  have q2 := q_take (k + 1) b1 6 (by omega) (by omega)
  have d2 := draw_lt (b := b1) (n := 6) (by omega)
  generalize (draw b1 6).2 = b2 at q2
  generalize (draw b1 6).1 = by_ at q2 d2
  obtain ⟨A, r, B, eR, hA⟩ := apart R d1.1 d1.2
  obtain ⟨r1, r2, r3, r4⟩ := M.row r (by rw [eR]; simp)
  have ix1 : idxF (rowsV R) (.int at_) = some (.tup [.int r.1, .tup (r.2.map .int)]) := by rw [eR]; exact ix_at (f := rowV) hA
  have lg : bltF .len [.tup (r.2.map .int)] = some (.fz (.int (r.2.length : Nat))) := by simp [bltF, len]
  have q3 := q_take (k + 1) b2 (r.2.length : Nat) (by omega) (by have := M.let_; omega)
  have d3 := draw_lt (b := b2) (n := (r.2.length : Nat)) (by omega)
  generalize (draw b2 (r.2.length : Nat)).2 = b3 at q3
  generalize (draw b2 (r.2.length : Nat)).1 = sp at q3 d3
  obtain ⟨C, g, D, eG, hC⟩ := apart r.2 d3.1 d3.2
  have s1 : slcF (.tup (r.2.map .int)) none (some sp) = some (.fz (.tup (C.map .int))) := by rw [eG]; exact sl_to hC
  have s2 : slcF (.tup (r.2.map .int)) (some (sp + 1)) none = some (.fz (.tup (D.map .int))) := by rw [eG]; exact sl_from hC
  have ix2 : idxF (.tup (r.2.map .int)) (.int sp) = some (.int g) := by rw [eG]; exact ix_at (f := Val.int) hC
  have md1 : binF .mod (.int (g + 1)) (.int (R.length : Nat)) = some (.fz (.int ((g + 1) % (R.length : Nat)))) := by
    have : (0 : Int) < (R.length : Nat) := by omega
    simp only [binF, this, if_true]
  have md2 : binF .mod (.int (r.1 + (1 + by_))) (.int 7) = some (.fz (.int ((r.1 + (1 + by_)) % 7))) := rfl
  have hCD : C.length + D.length < 3 := by
    have h3 := M.let_
    have e := congrArg List.length eG
    rw [List.length_append, List.length_cons] at e
    omega
  have hAB : A.length + B.length + 1 = R.length := by
    have e := congrArg List.length eR
    rw [List.length_append, List.length_cons] at e
    omega
  have x0 := Int.emod_nonneg (g + 1) (show ((R.length : Nat) : Int) ≠ 0 by omega)
  have x1 := Int.emod_lt_of_pos (g + 1) (show (0 : Int) < (R.length : Nat) by omega)
  generalize hx : (g + 1) % ((R.length : Nat) : Int) = x at md1 x0 x1
  have y0 := Int.emod_nonneg (r.1 + (1 + by_)) (show (7 : Int) ≠ 0 by omega)
  have y1 := Int.emod_lt_of_pos (r.1 + (1 + by_)) (show (0 : Int) < 7 by omega)
  generalize hy : (r.1 + (1 + by_)) % 7 = y at md2 y0 y1
  have a1 : binF .add (.tup (C.map .int)) (.tup [.int x]) = some (.fz (.tup (C.map .int ++ [.int x]))) := add_t (by simp; omega)
  have a2 : binF .add (.tup (C.map .int ++ [.int x])) (.tup (D.map .int)) = some (.fz (.tup ((C ++ x :: D).map .int))) := by rw [add_t (by simp; omega)]; simp
  have s3 : slcF (rowsV R) none (some at_) = some (.fz (.tup (A.map rowV))) := by rw [eR]; exact sl_to hA
  have s4 : slcF (rowsV R) (some (at_ + 1)) none = some (.fz (.tup (B.map rowV))) := by rw [eR]; exact sl_from hA
  have a3 : ∀ v : Val, binF .add (.tup (A.map rowV)) (.tup [v]) = some (.fz (.tup (A.map rowV ++ [v]))) := fun v => add_t (by simp; omega)
  have a4 : ∀ (c : Int) (ts : List Int), binF .add (.tup (A.map rowV ++ [.tup [.int c, .tup (ts.map .int)]])) (.tup (B.map rowV)) = some (.fz (rowsV (A ++ (c, ts) :: B))) := fun c ts => by rw [add_t (by simp; omega)]; simp [rowsV, rowV]
  have a5 : binF .add (rowsV R) (.tup [.tup [.int r.1, .tup (r.2.map .int)]]) = some (.fz (rowsV (R ++ [r]))) := by
    show binF .add (.tup (R.map rowV)) _ = _
    rw [add_t (by simp; omega)]; simp [rowsV, rowV]
  have rv : revF (rowsV R) = some (.fz (rowsV R.reverse)) := by
    show some (Slot.fz (.tup (R.map rowV).reverse)) = _
    rw [← List.map_reverse]; rfl
  have tp := tp_dict0
  simp only [↓Y.w_forU, ↓Y.w_lcU, ↓Y.w_lc2U, ↓Y.w_dcU, ↓WA, ↓WC, WT, ↓WX, WB, WZ, Nat.reduceAdd, eq_self, ll, q1, q2, q3, ix1, lg, s1, s2, ix2, md1, md2, a1, a2, s3, s4, a3, a4, tp, prm_oth, hg, rv]
  have gS1 : GoodM l (A ++ (y, r.2) :: B) := good_of M rfl (by simp; omega) (by simp; omega) fun z hz => by
    rcases List.mem_append.mp hz with h | h
    · exact .inl (by rw [eR]; exact List.mem_append_left _ h)
    · rcases List.mem_cons.mp h with rfl | h
      · exact .inr ⟨y0, by omega, r3, r4⟩
      · exact .inl (by rw [eR]; exact List.mem_append_right _ (List.mem_cons_of_mem _ h))
  have gS2 : GoodM l (A ++ (r.1, C ++ x :: D) :: B) := good_of M rfl (by simp; omega) (by simp; omega) fun z hz => by
    rcases List.mem_append.mp hz with h | h
    · exact .inl (by rw [eR]; exact List.mem_append_left _ h)
    · rcases List.mem_cons.mp h with rfl | h
      · refine .inr ⟨r1, r2, ?_, fun t ht => ?_⟩
        · have e := congrArg List.length eG
          rw [List.length_append, List.length_cons] at e
          rw [List.length_append, List.length_cons]
          omega
        · rcases List.mem_append.mp ht with h | h
          · exact r4 t (by rw [eG]; exact List.mem_append_left _ h)
          · rcases List.mem_cons.mp h with rfl | h
            · exact ⟨x0, x1⟩
            · exact r4 t (by rw [eG]; exact List.mem_append_right _ (List.mem_cons_of_mem _ h))
      · exact .inl (by rw [eR]; exact List.mem_append_right _ (List.mem_cons_of_mem _ h))
  have gS3 : GoodM l' R := good_of M hl' h6 (Nat.le_refl _) fun z hz => .inl hz
  have gS4 : GoodM l R.reverse := good_of M rfl (by rw [List.length_reverse]; exact h6) (by rw [List.length_reverse]; exact Nat.le_refl _) fun z hz => .inl (List.mem_reverse.mp hz)
  refine ⟨by simp only [List.length_append, List.length_map, List.length_cons, List.length_nil]; unfold cap; omega, by simp only [List.length_append, List.length_map, List.length_cons, List.length_nil]; unfold cap; omega, by simp only [List.length_append, List.length_map, List.length_cons, List.length_nil]; unfold cap; omega, by simp only [List.length_append, List.length_map, List.length_cons, List.length_nil]; unfold cap; omega, by simp only [List.length_append, List.length_map, List.length_cons, List.length_nil]; unfold cap; omega, by simp only [List.length_append, List.length_map, List.length_cons, List.length_nil]; unfold cap; omega, by unfold cap; omega, rfl, ?_⟩
  refine Y.ifW_of (fun h => ?_) (fun h => ?_)
  · have hlt : R.length < 6 := by
      have := of_decide_eq_true h
      omega
    have gS5 : GoodM l (R ++ [r]) := good_of M rfl (by simp; omega) (by simp) fun z hz => by
      rcases List.mem_append.mp hz with h | h
      · exact .inl h
      · rw [List.mem_singleton.mp h]
        exact .inl (by rw [eR]; simp)
    simp only [↓Y.w_forU, ↓Y.w_lcU, ↓Y.w_lc2U, ↓Y.w_dcU, ↓WA, ↓WC, WT, ↓WX, WB, WZ, Nat.reduceAdd, eq_self, a5]
    refine ⟨by unfold cap; omega, ?_⟩
    refine ⟨rfl, _, rfl, b3, [(l, A ++ (y, r.2) :: B), (l, A ++ (r.1, C ++ x :: D) :: B), (l', R), (l, R.reverse), (l, R ++ [r])], ?_, rfl, by simp, ?_⟩
    · simp [othV, rowsV, rowV]
    · intro p hp
      simp only [List.mem_cons, List.not_mem_nil, or_false] at hp
      rcases hp with rfl | rfl | rfl | rfl | rfl
      · exact ⟨.inl rfl, gS1⟩
      · exact ⟨.inl rfl, gS2⟩
      · exact ⟨.inr rfl, gS3⟩
      · exact ⟨.inl rfl, gS4⟩
      · exact ⟨.inl rfl, gS5⟩
  · simp only [↓Y.w_forU, ↓Y.w_lcU, ↓Y.w_lc2U, ↓Y.w_dcU, ↓WA, ↓WC, WT, ↓WX, WB, WZ, Nat.reduceAdd, eq_self]
    refine ⟨rfl, _, rfl, b3, [(l, A ++ (y, r.2) :: B), (l, A ++ (r.1, C ++ x :: D) :: B), (l', R), (l, R.reverse)], ?_, rfl, by simp, ?_⟩
    · simp [othV, rowsV, rowV]
    · intro p hp
      simp only [List.mem_cons, List.not_mem_nil, or_false] at hp
      rcases hp with rfl | rfl | rfl | rfl
      · exact ⟨.inl rfl, gS1⟩
      · exact ⟨.inl rfl, gS2⟩
      · exact ⟨.inr rfl, gS3⟩
      · exact ⟨.inl rfl, gS4⟩
end EV
namespace EV
open PySem GH Pl Y
theorem eqvs_int5 : ∀ X Y : List Int, eqvs (X.map .int) (Y.map .int) = decide (X = Y)
  | [], [] => rfl
  | [], _ :: _ => rfl
  | _ :: _, [] => rfl
  | a :: X, b :: Y => by
    show ((a == b) && eqvs (X.map .int) (Y.map .int)) = _
    rw [eqvs_int5 X Y]
    by_cases h : a = b <;> by_cases g : X = Y <;> simp [h, g]
theorem eqv_row5 (a b : RowI) : eqv (rowV a) (rowV b) = decide (a = b) := by
  show ((a.1 == b.1) && (eqvs (a.2.map .int) (b.2.map .int) && true)) = _
  rw [eqvs_int5]
  by_cases h : a.1 = b.1 <;> by_cases g : a.2 = b.2 <;> simp [h, g, Prod.ext_iff]
theorem eqvs_rows5 : ∀ X Y : List RowI, eqvs (X.map rowV) (Y.map rowV) = decide (X = Y)
  | [], [] => rfl
  | [], _ :: _ => rfl
  | _ :: _, [] => rfl
  | a :: X, b :: Y => by
    show (eqv (rowV a) (rowV b) && eqvs (X.map rowV) (Y.map rowV)) = _
    rw [eqvs_rows5 X Y, eqv_row5]
    by_cases h : a = b <;> by_cases g : X = Y <;> simp [h, g]
theorem sh_rows5 (R : List RowI) : Sh 3 (rowsV R) := Sh.tup (m := 2) fun v hv => by
  obtain ⟨r, _, rfl⟩ := List.mem_map.mp hv
  refine Sh.tup (m := 1) fun w hw => ?_
  rcases List.mem_cons.mp hw with rfl | hw
  · exact (Sh.int _).mono (by omega)
  · rcases List.mem_cons.mp hw with rfl | hw
    · refine Sh.tup (m := 0) fun z hz => ?_
      obtain ⟨i, _, rfl⟩ := List.mem_map.mp hz
      exact Sh.int _
    · cases hw
theorem eq_rows5 (R S : List RowI) : eqF (rowsV R) (rowsV S) = some (decide (R = S)) := by
  have h1 := (sh_rows5 R).shp (by omega)
  have h2 := (sh_rows5 S).shp (by omega)
  unfold eqF
  rw [h1, h2]
  show some (eqvs (R.map rowV) (S.map rowV)) = _
  rw [eqvs_rows5]
theorem q_right (k : Nat) (b : Int × Int × Int) : Wp (evF tab (k + 9) "_law_right" [.ow (bagV b)]) (c := ⟨fun r fin => r = .fz (.bl true) ∧ ∃ b', fin = [.ow (bagV b')]⟩) := by
  refine Y.q_ofP fn__law_right (tab_ext _) rfl ?_
  show Wp (evSs _ _ _ [_, _, _, _, _, _, _] [_, .un, .un, .un, .un, .un, .un, .un]) (c := ⟨_⟩)
  have d8 := draw_lt (b := b) (n := 8) (by omega)
  have q1 := q_signs (k + 6) b
  have hl := sgn_len _ d8.1 d8.2
  have hs := sgn_ok _ d8.1 d8.2
  have hlet := fun k => q_let k _ d8.1 d8.2
  have hlet' := fun k => q_letO k _ d8.1 d8.2
  have hg := oth_get _ d8.1 d8.2
  obtain ⟨hl', hs'⟩ := oth_len _ d8.1 d8.2
  generalize oth (sgn (draw b 8).1) = l' at hlet' hg hl' hs'
  generalize sgn (draw b 8).1 = l at q1 hl hs hlet hg hl'
  generalize (draw b 8).2 = b1 at q1
  obtain ⟨b2, R, q2, M⟩ := q_rows (k + 6) b1 l hl.1 hl.2
  have T := M.t hs
  have hm : (ev2 tab (k + 8)).2 = evF tab (k + 7) := mkc_succ tab (k + 7)
  have qi := q_init (k + 4) M (hlet _)
  have qr := q_read T (k + 3) (q_init (k + 3) M (hlet _))
  have qp := q_pageL T (k + 7)
  have qs := q_strM T (k + 6)
  simp only [↓Y.w_forU, ↓Y.w_lcU, ↓Y.w_lc2U, ↓Y.w_dcU, ↓WA, ↓WC, WT, ↓WX, WB, WZ, Nat.reduceAdd, eq_self, q1, q2, hm, qi, an_objM]
  refine Y.wp_mono (q_others (k + 5) M hl.1 hg hl' b2) ?_
  rintro r fin ⟨b3, xs, rfl, rfl, hx5, hall⟩
  have eRR : eqF (rowsV R) (rowsV R) = some true := by rw [eq_rows5, decide_eq_true rfl]
  simp only [↓Y.w_forU, ↓Y.w_lcU, ↓Y.w_lc2U, ↓Y.w_dcU, ↓WA, ↓WC, WT, ↓WX, WB, WZ, Nat.reduceAdd, eq_self]
  refine ⟨by rw [List.length_map]; unfold cap; omega, ?_⟩
  refine Y.w_forL othV xs (fun pre ρ => ∃ s3 s4 s5 s6, (s3 = .ow (machV l R) ∨ s3 = .fz (machV l R)) ∧ ρ = [.ow (bagV b3), .fz (.str l), .fz (rowsV R), s3, s4, s5, s6, .un]) ⟨_, _, _, _, .inl rfl, rfl⟩ ?_ ?_
  · rintro pre p suf e ρ ⟨s3, s4, s5, s6, hb, rfl⟩
    obtain ⟨hp1, N⟩ := hall p (by rw [e]; simp)
    obtain ⟨l1, S⟩ := p
    simp only at hp1 N
    have hN : (∀ c ∈ l1, 33 ≤ c ∧ c < 128) ∧ ∀ k, evF tab (k + 2) "are_letters" [.fz (.str l1)] = some (.ok (.fz (.bl true)) [.fz (.str l1)]) := by
      rcases hp1 with rfl | rfl
      · exact ⟨hs, hlet⟩
      · exact ⟨hs', hlet'⟩
    have U := N.t hN.1
    have qi2 := q_init (k + 4) N (hN.2 _)
    have er : othV (l1, S) = .tup [.str l1, rowsV S] := rfl
    have e2 := eq_rows5 S R
    have pr := q_pairM T U (k + 2) rfl
    obtain ⟨c1, hc1⟩ : ∃ c, decide (l1 = l) = c := ⟨_, rfl⟩
    obtain ⟨c2, hc2⟩ : ∃ c, decide (S = R) = c := ⟨_, rfl⟩
    have hd : decide (l1 = l ∧ S = R) = (c1 && c2) := by rw [← hc1, ← hc2, Bool.decide_and]
    rw [hd] at pr
    rw [hc2] at e2
    rcases hb with rfl | rfl <;> cases c1 <;> cases c2
    all_goals
      simp only [Bool.and_true, Bool.and_false, Bool.and_self] at pr
      simp only [↓Y.w_forU, ↓Y.w_lcU, ↓Y.w_lc2U, ↓Y.w_dcU, ↓WA, ↓WC, WT, ↓WX, WB, WZ, Nat.reduceAdd, eq_self, er, hc1, e2, hm, qi2, an_objM, pr, m_stT, eRR]
      exact ⟨_, _, _, _, .inr rfl, rfl⟩
  · rintro ρ ⟨s3, s4, s5, s6, hb, rfl⟩
    have pt := q_pairM T T (k + 2) (d := true) (decide_eq_true ⟨rfl, rfl⟩)
    have pf : ∀ v : Val, Arg.isPln (.va v) = true → evF tab (k + 2 + 6) "_law_pair_right" [.fz (machV l R), .fz v, .fz (.bl false)] = some (.ok (.fz (.bl true)) [.fz (machV l R), .fz v, .fz (.bl false)]) := fun v h => q_pairP h (k + 2)
    have p1 := pf (.str (txM l R)) rfl
    have p2 := pf (rowsV R) rfl
    have p3 := pf (.str l) rfl
    have p4 := pf (.tup [.str l, rowsV R]) rfl
    have p5 := pf .non rfl
    have p6 := pf (.bl true) rfl
    have p7 := pf (.int (R.length : Nat)) rfl
    have p8 := pf (.dct []) rfl
    have p9 := pf (.lst [machV l R]) rfl
    have p0 := pf (.tup [machV l R]) rfl
    have ll : bltF .len [rowsV R] = some (.fz (.int (R.length : Nat))) := by simp [rowsV, bltF, len]
    rcases hb with rfl | rfl
    all_goals
      simp only [↓Y.w_forU, ↓Y.w_lcU, ↓Y.w_lc2U, ↓Y.w_dcU, ↓WA, ↓WC, WT, ↓WX, WB, WZ, Nat.reduceAdd, eq_self, hm, qp, qr, pt, sp_strE, qs, ll, p1, p2, p3, p4, p5, p6, p7, p8, p9, p0]
      exact ⟨by unfold cap; omega, by unfold cap; omega, rfl, _, rfl, rfl, _, rfl⟩
theorem law_holds (ns : List Int) (h : ns.length ≤ 63) : ∃ fin, evF tab 28 "law" [.fz (.scr ns)] = some (.ok (.fz (.bl true)) fin) := law_by (quiet_by (q_right 17)) ns h
end EV
namespace GH
open PySem PySem.Spec PyProof.Rows L2
theorem lawTxt {K : PySem.W.Frag} {h : Heap} {mg : Str → Option Value} (X : K.In h) (G : h.Ns mainGlobals mg) (c : SaysM lawDn lawEx K) : Txt K mg := by
  have z := c.more
  obtain ⟨z, zNe⟩ := He.ba z
  obtain ⟨z, zC_read⟩ := He.ba z
  obtain ⟨z, zM⟩ := He.ba z
  exact {
    B := ⟨He.free_ok X G (facts_at z 0), He.free_ok X G (facts_at z 1), He.free_ok X G (facts_at z 2), He.free_ok X G (facts_at z 3), He.free_ok X G (facts_at z 4), He.free_ok X G (facts_at z 5), He.free_ok X G (facts_at z 6), He.free_ok X G (facts_at z 7), He.free_ok X G (facts_at z 8), He.free_ok X G (facts_at z 9), He.free_ok X G (facts_at z 10), He.free_ok X G (facts_at z 11), He.free_ok X G (facts_at z 12), He.free_ok X G (facts_at z 13), He.free_ok X G (facts_at z 14), He.free_ok X G (facts_at z 15), He.free_ok X G (facts_at z 16), He.free_ok X G (facts_at z 17), He.free_ok X G (facts_at z 18), He.free_ok X G (facts_at z 19)⟩
    d_is_integer := def_is X G (facts_at z 20) (c.is 0)
    d_is_word_of := def_is X G (facts_at z 21) (c.is 1)
    d_is_tuple_of := def_is X G (facts_at z 22) (c.is 2)
    d_are_letters := def_is X G (facts_at z 23) (c.is 3)
    d_is_state := def_is X G (facts_at z 24) (c.is 4)
    d_digit_of := def_is X G (facts_at z 25) (c.is 5)
    d_state_of := def_is X G (facts_at z 26) (c.is 6)
    d__law_bag := def_is X G (facts_at z 27) (c.is 7)
    d__law_take := def_is X G (facts_at z 28) (c.is 8)
    d__law_signs := def_is X G (facts_at z 29) (c.is 9)
    d__law_rows := def_is X G (facts_at z 30) (c.is 10)
    d__law_page := def_is X G (facts_at z 31) (c.is 11)
    d__law_pair_right := def_is X G (facts_at z 32) (c.is 12)
    d__law_others := def_is X G (facts_at z 33) (c.is 13)
    d__law_right := def_is X G (facts_at z 34) (c.is 14)
    d__law_quiet := def_is X G (facts_at z 35) (c.is 15)
    d_law := def_is X G (facts_at z 36) (c.is 16)
    c_MOST_LETTERS := cst_int X G (facts_at z 37)
    c_MOST_STATES := cst_int X G (facts_at z 38)
    c_MOST_COLOUR := cst_int X G (facts_at z 39)
    c_LETTERS := cst_str X G (facts_at z 40)
    c_DIGITS := cst_str X G (facts_at z 41)
    M := mach_is X G zM (c.is 17) (c.is 18) (c.is 19)
    m_Machine___len__ := meth_is X G (facts_at z 42) (facts_at z 43) (facts_at z 44) (c.is 20)
    m_Machine___bool__ := meth_is X G (facts_at z 42) (facts_at z 43) (facts_at z 45) (c.is 21)
    m_Machine___str__ := meth_is X G (facts_at z 42) (facts_at z 43) (facts_at z 46) (c.is 22)
    m_Machine___eq__ := meth_is X G (facts_at z 42) (facts_at z 43) (facts_at z 47) (c.is 23)
    m_Machine_read := cmet_is X G (facts_at z 48) zC_read (c.is 24)
    ne := ne_is X G (facts_at z 48) zNe
  }
end GH
open PySem PySem.W PySem.Calls PyProof.Rows
theorem PySem.Challenge.cw_guardhopes_k05_machines_compared_holds : PySem.Challenge.rw_guardhopes_k05_machines_compared.Holds := by
  w_on; o_law
  refine HandSHeadRun.head_any (r := OpenLaw.row PySem.Challenge.rw_guardhopes_k05_machines_compared) (q := view (OpenLaw.row PySem.Challenge.rw_guardhopes_k05_machines_compared).prog [33]) (H := GH.lawHook) (ob := GH.lawOb) (M := 9000) (loose := GH.lawOut) (d := HandSHeadRun.topDef (OpenLaw.row PySem.Challenge.rw_guardhopes_k05_machines_compared).prog 33) (kwd := []) GH.lawOb_eq
    (by kernel_rfl) (fun s => by kernel_rfl) GH.lawRun (by kernel_rfl) (by kernel_rfl) (by kernel_rfl) (by rfl) (by first | assumption | decide +kernel) (by decide +kernel) ⟨rfl, rfl, rfl, rfl, rfl, by decide +kernel⟩ ?hw ?hc
  case hw => w_witness2
  case hc =>
    refine GH.go_walk (l := PySem.Challenge.rw_guardhopes_k05_machines_compared) (n := 63) (k := 30) (x := "_law_script") rfl (by decide) (by kernel_rfl) ⟨rfl, by decide, by decide⟩ ?F
    intro w mg fa h Y G hmg0
    obtain ⟨K, KX, c⟩ := Y
    have e0 : (HandSHeadRun.topDef (OpenLaw.row PySem.Challenge.rw_guardhopes_k05_machines_compared).prog 33).name = ("law" : PySem.Str) := by kernel_rfl
    rw [e0] at hmg0
    have T := GH.lawTxt KX G c
    obtain ⟨fd, hb, hF⟩ := GH.OkG.every (P := (PySem.Challenge.rw_guardhopes_k05_machines_compared).prog) (w := w) (fun base => EV.okG_of (EV.good T 28).f_law) hmg0
    exact ⟨K, fd, EV.spL K mg (EV.evF EV.tab 28) "law", KX, hb, fun H a ns hl hS => (let ⟨_, z⟩ := EV.law_holds ns hl; EV.law_sp z (EV.tbs_nil rfl) hS _), fun base => hF base⟩
