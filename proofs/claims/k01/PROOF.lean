import PyProof.Rows.All
import Wide.All
import OpenK.AllK
import Wide.FinOn
import HandS.ForMost
import HandS.Walk
import KE.GoesZip
import KE.GoesEnum
import HandS.Defaults
import HandS.WordsExc
import HandS.IsInst
import HandS.Star
import HandS.Style
import HandS.Property
import HandS.Replace
import HandS.Exc
import HandS.Codes
import HandS.HeadHook1
import HandS.More
import HandS.Head0
import HandS.Head1
import HandS.Head2
import HandS.HeadEnd
import HandS.HeadHook2
import HandS.Dict
import HandS.DictComp
import HandS.WordsDict
import PyProof.DictUpdate
import PyProof.FactsAll.dict_3
import PyProof.FactsAll.dict_4
import HandS.ClsMeth
import HandS.HeadNt
import HandS.Base
import HandS.List
import PyProof.Claim2
import HandS.RaiseMore
import PyProof.ReprLen
import PyProof.ReprRoads
import KE.SortData
import PyProof.TupleKey
import PyProof.Dict
import HandS.Lambda
import HandS.EndTab
import HandS.ExcInit
import HandS.ExcCtx
import HandS.Iter
import HandS.TupMul
import HandS.Conv
import PyProof.ListStr
import HandS.TupAny
import HandS.Deep
import HandS.Text
import HandS.TupLen
import HandS.Comp
import KE.KDictCopyH
import KE.KDictDisplayH
import HandS.ExcInitHot
import HandS.RaiseFrom
import HandS.ExcIs
import HandS.ExcField
import KE.KExcInit
import HandS.Words
import HandS.TryMany
import KE.KTryMore
import HandS.SuiteRaise
import HandS.Ends
import KE.KIndexOf
import HandS.Zip
import KE.KDictZip
import PyProof.TupleOfGen
import KE.KRevSl
import KE.KDictSum
import HandS.ExcOwn
import KE.SortKeyed
import PyProof.Methods
import KE.KExcIs
import HandS.SetFor
import PyProof.ListNew
import KE.KDictPairs
import KE.KDictWalk
import PySem.Challenge.RW_guardhopes_k01_limits_and_errors
set_option Elab.async false
set_option linter.all false
set_option maxRecDepth 100000
set_option maxHeartbeats 0
namespace GH
open PySem PySem.Spec PyProof.Rows L2
inductive Src where
  | txt (x : Str)
  | tup (a : Addr) (xs : List V)
namespace Src
def val : Src → V
  | .txt x => .str x
  | .tup a _ => .ref a
def items : Src → List V
  | .txt x => x.cps.toList.map fun c => V.str ⟨#[c]⟩
  | .tup _ xs => xs
def At (K : PySem.W.Frag) (H : Hp) : Src → Prop
  | .txt _ => True
  | .tup a xs => SqT K H a xs
def On (h : Heap) (it : Addr) (i : Nat) : Src → Prop
  | .txt x => ∃ t, h.IsStrIter it (strIterType x) x t i
  | .tup a _ => h.IsTupleIter it a i
theorem On.obj {h : Heap} {it : Addr} {i : Nat} : ∀ {s : Src}, s.On h it i → ∃ o, h.get? it = some o ∧ ∀ v, o.data ≠ .cell v
  | .txt _, ⟨t, ob, q, _, d⟩ => ⟨ob, q, fun v z => by rw [d] at z; cases z⟩
  | .tup _ _, ⟨ob, q, _, d⟩ => ⟨ob, q, fun v z => by rw [d] at z; cases z⟩
structure Gives (X : Cx) (s : Shared) (A : Around) (H : Hp) (it : Addr) (i : Nat) (src : Src) (fp : List Addr) (P : Nat → Value → Prop) (St : Nat → Heap → Prop) : Prop where
  d : Draws X.prog X.w A it fp src.items.length P St
  st : St i s.heap
  mem : it ∈ fp
  sub : ∀ b ∈ fp, b = it ∨ (H b ≠ none ∨ ∃ o, X.base.get? b = some o)
  yl : ∀ j v, P j v → ∃ x, src.items[j]? = some x ∧ RelV x v
  on : ∀ j h, St j h → src.On h it j
theorem gives {X : Cx} {pins : List (Addr × Obj)} {σ : L2.St} {H : Hp} {s : Shared} {A : Around} {it : Addr} {i : Nat} (hh : A.handled = none) (I : Inv X pins σ H s) : ∀ {src : Src}, src.At X.K H → src.On s.heap it i → ∃ fp P St, Gives X s A H it i src fp P St
  | .txt x, _, ⟨t, on⟩ => by
    have e : (Src.txt x).items.length = x.cps.size := by simp [items]
    have d := Draws.text (prog := X.prog) (w := X.w) hh it x t
    rw [← e] at d
    refine ⟨[it], _, _, ⟨d, on, by simp, fun b hb => .inl (by simpa using hb), fun j v hv => ?_, fun j h st => ⟨t, st⟩⟩⟩
    obtain ⟨c, u, hc, rfl⟩ := hv
    exact ⟨.str ⟨#[c]⟩, by simp [items, hc], u, rfl⟩
  | .tup a xs, hat, on => by
    have hat' : SqT X.K H a xs := hat
    obtain ⟨its, rv, p, _⟩ := I.tuple hat'
    have hne : a ≠ it := by
      intro e
      obtain ⟨o, ho, hc, n, hd⟩ := p
      obtain ⟨o2, ho2, hc2, hd2⟩ := on
      rw [e, ho2] at ho
      cases ho
      rw [hc] at hc2
      exact absurd hc2 (by decide)
    have el : its.toArray.size = xs.length := by
      have := rv.length
      simp [this]
    have d := Draws.tuple (prog := X.prog) (w := X.w) hh it a hne its.toArray
    rw [show its.toArray.size = (Src.tup a xs).items.length from el] at d
    refine ⟨[it, a], _, _, ⟨d, ⟨on, p⟩, by simp, fun b hb => ?_, fun j v hv => ?_, fun j h st => st.1⟩⟩
    · have e' : b = it ∨ b = a := by simpa using hb
      rcases e' with z | z
      · exact .inl z
      · refine .inr ?_
        rw [z]
        rcases hat' with (h1 | ⟨o, h1⟩) | h1
        · exact .inl (by rw [h1]; simp)
        · exact .inl (by rw [h1]; simp)
        · obtain ⟨o, its2, n2, lk, _⟩ := h1
          exact .inr ⟨o, I.ok.mod.kin _ _ lk⟩
    · have hv' : its[j]? = some v := by simpa using hv
      cases hx : xs[j]? with
      | none =>
        have := rv.none_of hx
        rw [this] at hv'; cases hv'
      | some x =>
        obtain ⟨u, hu, ru⟩ := rv.get hx
        rw [hu] at hv'
        cases hv'
        exact ⟨x, hx, ru⟩
theorem Gives.out {X : Cx} {pins : List (Addr × Obj)} {σ : L2.St} {H : Hp} {s : Shared} {A : Around} {it b : Addr} {i : Nat} {src : Src} {fp : List Addr} {P : Nat → Value → Prop} {St : Nat → Heap → Prop} (g : Gives X s A H it i src fp P St) (I : Inv X pins σ H s) (hb : FpOk X pins H b) (hx : X.base.get? b = none) (hne : b ≠ it) : b ∉ fp := fun hm => by
  rcases g.sub b hm with z | z | ⟨o, z⟩
  · exact hne z
  · exact z hb.1
  · rw [hx] at z; cases z
end Src
end GH
namespace GH
open PySem PySem.Spec PyProof.Rows L2
end GH
namespace GH
abbrev W := Nat → Nat
def app (u : List Nat) (a : W) : W := fun n => if h : n < u.length then u[n] else a (n - u.length)
def rep (v : List Nat) : W := fun n => v.getD (n % v.length) 0
def pow (v : List Nat) : Nat → List Nat
  | 0 => []
  | n + 1 => v ++ pow v n
abbrev Row := Nat × List Nat
def stp (L : List Nat) (R : List Row) (s c : Nat) : Nat := ((R.getD s (0, [])).2).getD (L.idxOf c) 0
def col (R : List Row) (s : Nat) : Nat := (R.getD s (0, [])).1
def way (L : List Nat) (R : List Row) : Nat → List Nat → List Nat
  | _, [] => []
  | s, c :: w => stp L R s c :: way L R (stp L R s c) w
def run (L : List Nat) (R : List Row) (s : Nat) (a : W) : Nat → Nat
  | 0 => s
  | n + 1 => stp L R (run L R s a n) (a n)
def iter (f : Nat → Nat) : Nat → Nat → Nat
  | 0, s => s
  | n + 1, s => iter f n (f s)
theorem pow_length (v : List Nat) : ∀ n, (pow v n).length = n * v.length
  | 0 => by simp [pow]
  | n + 1 => by
    show (v ++ pow v n).length = _
    rw [List.length_append, pow_length v n, Nat.succ_mul, Nat.add_comm]
end GH
namespace GH
open PySem PySem.Spec PyProof.Rows L2
def Besides (x : Addr) (H H' : Hp) : Prop := ∀ b o, b ≠ x → H b = some o → H' b = some o
structure Tups (H H' : Hp) : Prop where
  t : ∀ b xs, H b = some (.tup xs) → H' b = some (.tup xs)
  f : ∀ b o u, H b = some (.frz o u) → H' b = some (.frz o u)
theorem Tups.refl (H : Hp) : Tups H H := ⟨fun _ _ e => e, fun _ _ _ e => e⟩
theorem Tups.trans {H H1 H2 : Hp} (a : Tups H H1) (b : Tups H1 H2) : Tups H H2 := ⟨fun c xs e => b.t c xs (a.t c xs e), fun c o u e => b.f c o u (a.f c o u e)⟩
theorem Same.tups {H H' : Hp} (s : Same H H') : Tups H H' := ⟨fun b xs e => s b _ e, fun b o u e => s b _ e⟩
theorem Tups.seq {K : PySem.W.Frag} {H H' : Hp} {a : Addr} {xs : List V} (s : Tups H H') (h : SqT K H a xs) : SqT K H' a xs := by
  rcases h with (h | ⟨o, h⟩) | h
  · exact .inl (.inl (s.t _ _ h))
  · exact .inl (.inr ⟨o, s.f _ _ _ h⟩)
  · exact .inr h
theorem Same.new {H : Hp} {p : Addr} {o : HO} (h : H p = none) : Same H (upd H p o) := fun b x e => by
  rw [upd_ne (ne_of_none e h)]; exact e
theorem Same.mut {H H' : Hp} {p : Addr} {o : HO} (s : Same H H') (h : H p = none) : Same H (upd H' p o) := fun b x e => by
  rw [upd_ne (ne_of_none e h)]; exact s b x e
theorem Besides.refl (x : Addr) (H : Hp) : Besides x H H := fun _ _ _ e => e
theorem Besides.trans {x : Addr} {H H1 H2 : Hp} (a : Besides x H H1) (b : Besides x H1 H2) : Besides x H H2 := fun c o n e => b c o n (a c o n e)
theorem Same.but {x : Addr} {H H' : Hp} (s : Same H H') : Besides x H H' := fun b o _ e => s b o e
theorem Besides.upd {x : Addr} {H H' : Hp} {o : HO} (s : Besides x H H') : Besides x H (upd H' x o) := fun b u n e => by
  rw [upd_ne n]; exact s b u n e
theorem Besides.new {x p : Addr} {H H' : Hp} {o : HO} (s : Besides x H H') (h : H' p = none) : Besides x H (L2.upd H' p o) := fun b u n e => by
  have e' := s b u n e
  rw [upd_ne (ne_of_none e' h)]; exact e'
theorem Besides.tups {x : Addr} {H H' : Hp} {xs : List V} (s : Besides x H H') (h : H x = some (.lst xs)) : Tups H H' := by
  refine ⟨fun b ys e => s b _ (fun z => ?_) e, fun b o u e => s b _ (fun z => ?_) e⟩
  · rw [z, h] at e; cases e
  · rw [z, h] at e; cases e
structure Ok (P : Program) (w : World) (K : PySem.W.Frag) (mg : Str → Option Value) (base : Heap) (n : Nat) (x : Str) (ps : List Str) (sp : Sp) : Prop where
  ex : ∃ f fd, FnOk P w K mg base CX0 n f fd ps sp ∧ Binds K fd ps [] ∧ mg x = some (.ref f) ∧ PySem.W.keepIn K (.ref f) = true ∧ (∀ (s : Shared) (us : List Value), us.length = ps.length → BindsTo s fd ⟨us, []⟩ (ps.zip us)) ∧ ∃ oc od osl, K.lookup f = some ⟨oc, od, .func fd, osl⟩
section
variable {X : Cx} {n : Nat} {x : Str} {ps : List Str} {sp : Sp} {p pos : Pos} {e : Expr} {es : List Expr} {t : TA}
end
theorem foldl_cat : ∀ (n : Nat) (b a : Array Nat), ((List.replicate n b).foldl (· ++ ·) a).toList = a.toList ++ pow b.toList n
  | 0, b, a => by simp [pow]
  | n + 1, b, a => by
    rw [List.replicate_succ, List.foldl_cons, foldl_cat n b (a ++ b)]
    simp [pow]
theorem pow_nil : ∀ n, pow [] n = []
  | 0 => rfl
  | n + 1 => by show [] ++ pow [] n = []; rw [pow_nil n]; rfl
def rMulS : R2 := fun x y H Q => ∃ (l : List Nat) (n : Nat), x = .str (SX.S l) ∧ y = .int (n : Int) ∧ 1 ≤ n ∧ n ≤ 1000 ∧ l.length ≤ 1000 ∧ Q (.str (SX.S (pow l n))) H
theorem op_mulS {X : Cx} : OpR X (binaryOp .Mult) rMulS := by
  intro pins s σ H x y v u Q I rx ry h
  obtain ⟨l, n, rfl, rfl, h1, h2, h3, q⟩ := h
  obtain ⟨t, rfl⟩ := rx
  obtain ⟨t', rfl⟩ := ry
  have hl : (SX.S l).length = l.length := SX.S_len l
  have hmul : l.length * n ≤ 1000 * 1000 := Nat.mul_le_mul h3 h2
  refine PySem.P.mul_str (by simp; omega) (fun _ _ => ?_) (fun _ _ => ?_) ?_
  · rw [hl]
    have h4 : (1000 : Int) ≤ (2 ^ 63 - 1) / (n : Int) := Int.le_ediv_of_mul_le (by omega) (by omega)
    omega
  · rw [hl, Int.toNat_natCast]
    show decide (l.length * n > sizeLine) = false
    rw [sizeLine_eq]
    exact decide_eq_false (by omega)
  · rw [if_neg (by omega)]
    by_cases hc : ((n : Int) == 1 || (SX.S l).length == 0) = true
    · rw [if_pos hc]
      have e : pow l n = l := by
        rcases Bool.or_eq_true_iff.mp hc with z | z
        · have : n = 1 := by have := eq_of_beq z; omega
          subst this
          show l ++ [] = l
          simp
        · have : l.length = 0 := by have := eq_of_beq z; rw [hl] at this; exact this
          have : l = [] := List.length_eq_zero_iff.mp this
          subst this
          exact pow_nil n
      rw [e] at q
      exact ⟨.str (SX.S l), H, I, ⟨t, rfl⟩, q⟩
    · rw [if_neg hc]
      have e : (⟨(List.replicate ((n : Int)).toNat (SX.S l).cps).foldl (· ++ ·) #[]⟩ : Str) = SX.S (pow l n) := by
        have z := foldl_cat n (SX.S l).cps #[]
        rw [Int.toNat_natCast]
        unfold SX.S at z ⊢
        congr 1
        apply Array.ext'
        rw [z]; simp
      rw [e]
      refine ⟨?_, .str _, H, I.tok _, ⟨_, rfl⟩, q⟩
      rw [SX.S_len, pow_length, Nat.mul_comm, sizeLine_eq]
      omega
end GH
namespace GH
open PySem PySem.Spec PyProof.Rows L2
theorem paired_get {α β : Type} {R : α → β → Prop} : ∀ {xs : List α} {ys : List β} {i : Nat} {x : α}, Paired R xs ys → xs[i]? = some x → ∃ y, ys[i]? = some y ∧ R x y
  | _, _, _, _, .nil, e => by simp at e
  | _, _, 0, _, .cons r _, e => by simp at e; subst e; exact ⟨_, rfl, r⟩
  | _, _, i + 1, x, .cons _ t, e => by
    obtain ⟨y, h1, h2⟩ := paired_get (i := i) t (by simpa using e)
    exact ⟨y, by simpa using h1, h2⟩
theorem paired_get' {α β : Type} {R : α → β → Prop} : ∀ {xs : List α} {ys : List β} {i : Nat} {y : β}, Paired R xs ys → ys[i]? = some y → ∃ x, xs[i]? = some x ∧ R x y
  | _, _, _, _, .nil, e => by simp at e
  | _, _, 0, _, .cons r _, e => by simp at e; subst e; exact ⟨_, rfl, r⟩
  | _, _, i + 1, y, .cons _ t, e => by
    obtain ⟨x, h1, h2⟩ := paired_get' (i := i) t (by simpa using e)
    exact ⟨x, by simpa using h1, h2⟩
end GH
namespace GH
open PySem PySem.Spec PyProof.Rows L2
structure Blt (mg : Str → Option Value) : Prop where
  len_ : mg "len" = none
  all_ : mg "all" = none
  isinstance_ : mg "isinstance" = none
  zip_ : mg "zip" = none
  enumerate_ : mg "enumerate" = none
  range_ : mg "range" = none
  max_ : mg "max" = none
  min_ : mg "min" = none
  abs_ : mg "abs" = none
  divmod_ : mg "divmod" = none
  int_ : mg "int" = none
  str_ : mg "str" = none
  bool_ : mg "bool" = none
  tuple_ : mg "tuple" = none
  list_ : mg "list" = none
  repr_ : mg "repr" = none
  any_ : mg "any" = none
  sorted_ : mg "sorted" = none
  dict_ : mg "dict" = none
  set_ : mg "set" = none
section
variable {X : Cx} {e e2 : Expr} {ta : TA} {p pos : Pos}
end
section
variable {X : Cx} {K : PySem.W.Frag}
theorem pe_bmK {T : String} {name : Str} {id : String} {r : V → List V → Hp → VK → Prop} {o e : Expr} {es : List Expr} {to : TE} {t : TA} {apos cpos : Pos} (pa : PlainAttrs T) (slot : Slot T name id) (hty : typeOf (.builtin id) = pure (.type "method_descriptor")) (hm : MtR X id r) (ho : PE X o to) (ha : PA X (e :: es) t) (h : X.K = K := by rfl)
    (hbase : attributeBase o name X.env (eval o X.env) = eval o X.env := by rfl)
    (hfew : ((backTo cpos (starEach (e :: es) X.env)).all (fun x => !x.1) && (backToKw cpos (keywordEach [] X.env)).all (fun x => x.1.isSome) && decide ((e :: es).length + ([] : List Keyword).length + (if ([] : List Keyword).isEmpty then 0 else 1) < 30)) = true := by rfl)
    (hline : (apos.endLine == cpos.line) = true := by rfl) (hs : starEach (e :: es) X.env = (false, eval e X.env) :: starEach es X.env := by rfl) (hplain : (backTo cpos (starEach es X.env)).any (·.1) = false := by rfl) :
    PE X (.Call (.Attribute o name apos) (e :: es) [] cpos) (tBM K T r to t) := by
  subst h; exact pe_bm pa slot hty hm ho ha hbase hfew hline hs hplain
end
def Cst (mg : Str → Option Value) (x : Str) (v : V) : Prop := ∃ u, mg x = some u ∧ RelV v u
theorem pe_cst {X : Cx} {x : Str} {v : V} {pos : Pos} (h : Cst X.mg x v) (hg : Gl X x := by rfl) (hd : (x == ("__debug__" : Str)) = false := by decide) : PE X (.Name x pos) (tC v) := by
  obtain ⟨u, m, r⟩ := h
  exact pe_glob hg m r hd
theorem pe_type {X : Cx} {x : Str} {T : String} {pos : Pos} (hm : X.mg x = none) (hv : bootBuiltins x = some (.type T)) (hg : Gl X x := by rfl) (hn : x ≠ "__name__" := by decide) (hd : (x == ("__debug__" : Str)) = false := by decide) : PE X (.Name x pos) (tC (.ty T)) := pe_bltn hg hm hv rfl hn hd
end GH
namespace GH
open PySem PySem.Spec PyProof.Rows L2
def Def (K : PySem.W.Frag) (mg : Str → Option Value) (x : Str) (st : Stmt) : Prop := ∃ f fd, Fun K x x st f fd ∧ mg x = some (.ref f)
def kitBs : List String := ["NoneType", "bool", "int", "str", "list", "tuple", "dict"]
def KitNo (K : PySem.W.Frag) (C : Addr) : Prop := ∀ B ∈ kitBs, PySem.W.kitOne K (.type B) (.ref C) = some false
structure MachCls (K : PySem.W.Frag) (mg : Str → Option Value) (sI sL sS : Stmt) : Prop where
  ex : ∃ (C fI pL gL pS gS : Addr) (fdI fdL fdS : FuncData), mg "Machine" = some (.ref C) ∧ Cls K C ∧ Mk K C fI ∧ NoAttr K C "held_letters" ∧ NoAttr K C "held_states" ∧
    Fun K "__init__" "Machine.__init__" sI fI fdI ∧ PropOf K C "letters" pL gL ∧ Fun K "letters" "Machine.letters" sL gL fdL ∧ PropOf K C "states" pS gS ∧ Fun K "states" "Machine.states" sS gS fdS ∧
    PySem.W.findIn K (.ref C) "__class__" = some (some (.builtin "object.__class__")) ∧ PySem.W.specialIn K (.builtin "object.__class__") "__get__" = some (some (.builtin "getset_descriptor.__get__")) ∧ PySem.W.takesIn K (.builtin "object.__class__") = some true ∧
    PySem.W.mroIn K C (.type "object") = some true ∧ PySem.W.kitOne K (.ref C) (.ref C) = some true ∧ KitNo K C
def machC (mg : Str → Option Value) : Addr := match mg "Machine" with
  | some (.ref C) => C
  | _ => 0
section
variable {K : PySem.W.Frag} {mg : Str → Option Value} {sI sL sS : Stmt}
theorem MachCls.c (M : MachCls K mg sI sL sS) : ∃ (fI pL gL pS gS : Addr) (fdI fdL fdS : FuncData), mg "Machine" = some (.ref (machC mg)) ∧ Cls K (machC mg) ∧ Mk K (machC mg) fI ∧ NoAttr K (machC mg) "held_letters" ∧ NoAttr K (machC mg) "held_states" ∧
    Fun K "__init__" "Machine.__init__" sI fI fdI ∧ PropOf K (machC mg) "letters" pL gL ∧ Fun K "letters" "Machine.letters" sL gL fdL ∧ PropOf K (machC mg) "states" pS gS ∧ Fun K "states" "Machine.states" sS gS fdS := by
  obtain ⟨C, fI, pL, gL, pS, gS, fdI, fdL, fdS, m, h1, h2, h3, h4, h5, h6, h7, h8, h9, _⟩ := M.ex
  have e : machC mg = C := by unfold machC; rw [m]
  rw [e]
  exact ⟨fI, pL, gL, pS, gS, fdI, fdL, fdS, m, h1, h2, h3, h4, h5, h6, h7, h8, h9⟩
theorem MachCls.g (M : MachCls K mg sI sL sS) : mg "Machine" = some (.ref (machC mg)) := by
  obtain ⟨_, _, _, _, _, _, _, _, m, _⟩ := M.c
  exact m
theorem MachCls.cl (M : MachCls K mg sI sL sS) : Cls K (machC mg) := by
  obtain ⟨_, _, _, _, _, _, _, _, _, m, _⟩ := M.c
  exact m
theorem MachCls.n1 (M : MachCls K mg sI sL sS) : NoAttr K (machC mg) "held_letters" := by
  obtain ⟨_, _, _, _, _, _, _, _, _, _, _, m, _⟩ := M.c
  exact m
theorem MachCls.n2 (M : MachCls K mg sI sL sS) : NoAttr K (machC mg) "held_states" := by
  obtain ⟨_, _, _, _, _, _, _, _, _, _, _, _, m, _⟩ := M.c
  exact m
theorem MachCls.no (M : MachCls K mg sI sL sS) : KitNo K (machC mg) := by
  obtain ⟨C, fI, pL, gL, pS, gS, fdI, fdL, fdS, m, h1, h2, h3, h4, h5, h6, h7, h8, h9, a1, a2, a3, a4, a5, a6⟩ := M.ex
  have z : machC mg = C := by unfold machC; rw [m]
  rw [z]
  exact a6
theorem MachCls.ty (M : MachCls K mg sI sL sS) {H : Hp} {a dx : Addr} {fs : List (Str × V)} (e : H a = some (.ins (machC mg) dx fs)) : TyX K H (.ref a) (.ref (machC mg)) ∧ PySem.W.kitOne K (.ref (machC mg)) (.ref (machC mg)) = some true ∧ KitNo K (machC mg) := by
  obtain ⟨C, fI, pL, gL, pS, gS, fdI, fdL, fdS, m, h1, h2, h3, h4, h5, h6, h7, h8, h9, a1, a2, a3, a4, a5, a6⟩ := M.ex
  have z : machC mg = C := by unfold machC; rw [m]
  rw [z] at e ⊢
  exact ⟨.base (.ins e h1 a1 a2 a3 a4), a5, a6⟩
end
section
variable {X : Cx} {sI sL sS : Stmt} {e : Expr} {te : TE} {pos : Pos}
end
end GH
namespace GH
open PySem PySem.Spec PyProof.Rows L2
structure Dn where
  adr : PySem.W.Frag → Addr
  nm : Str
  qu : Str
  st : Stmt
def Dn.seen (K : PySem.W.Frag) (d : Dn) : He.FnV := match K.lookup (d.adr K) with
  | some ⟨_, _, .func u, _⟩ => some (u.name, u.qualname, u.params, u.body, u.scope, u.globals, u.closure, u.defaults, u.builtins)
  | _ => none
def Dn.due (d : Dn) : He.FnV := some (d.nm, d.qu, defArgs d.st, .stmts (defBody d.st), defScope d.st, mainGlobals, [], .none, builtinsNs)
def Dn.fit (K : PySem.W.Frag) (d : Dn) : Bool := PySem.W.keepIn K (.ref (d.adr K)) && (match K.lookup (d.adr K) with
  | some ⟨_, _, .func u, _⟩ => PySem.W.codeIn K u.code d.qu
  | _ => false)
theorem Dn.is {K : PySem.W.Frag} {d : Dn} (e : d.seen K = d.due) (c : d.fit K = true) : ∃ u, Fun K d.nm d.qu d.st (d.adr K) u := by
  obtain ⟨kp, c⟩ := He.ba c
  unfold Dn.seen at e
  cases q : K.lookup (d.adr K) with
  | none => rw [q] at c; cases c
  | some o =>
    obtain ⟨oc, od, dt, osl⟩ := o
    rw [q] at c e
    cases dt with
    | func u =>
      obtain ⟨m1, m2, m3, m4, m5, m6, m7, m8, m9, m10, m11, m12, m13, m14, m15⟩ := u
      have e2 : (some (m1, m2, m3, m4, m5, m6, m7, m8, m15) : He.FnV) = some (d.nm, d.qu, defArgs d.st, .stmts (defBody d.st), defScope d.st, mainGlobals, [], .none, builtinsNs) := e
      simp only [Option.some.injEq, Prod.mk.injEq] at e2
      obtain ⟨i1, i2, i3, i4, i5, i6, i7, i8, i9⟩ := e2
      subst i1 i2 i3 i4 i5 i6 i7 i8 i9
      exact ⟨_, fun_mk q c kp⟩
    | _ => cases c
def lookM (ds : List Dn) (ex : PySem.W.Frag → Bool) (K : PySem.W.Frag) : He.Al := (ex K && ds.all fun d => d.fit K, ds.map fun d => d.seen K)
def dueM (ds : List Dn) : He.Al := (true, ds.map Dn.due)
def SaysM (ds : List Dn) (ex : PySem.W.Frag → Bool) (K : PySem.W.Frag) : Prop := lookM ds ex K = dueM ds
def lookR (n : Nat) (ds : List Dn) (ex : PySem.W.Frag → Bool) (g : Addr → Option Obj) : He.Al := lookM ds ex (He.frG g (List.range n))
def hookR (n : Nat) (ds : List Dn) (ex : PySem.W.Frag → Bool) : PySem.W.Hook where
  α := He.Al
  obs := fun s => lookR n ds ex s.heap.get?
  val := fun _ => dueM ds
  says := fun _ h => ∃ K : PySem.W.Frag, K.In h ∧ SaysM ds ex K
  of := fun _ _ e => ⟨_, He.frG_in, e⟩
  keeps := fun _ _ _ ⟨K, hK, c⟩ k => ⟨K, PySem.W.Frag.In.keeps hK k, c⟩
theorem lookR_eq {n : Nat} {ds : List Dn} {ex : PySem.W.Frag → Bool} {g : Addr → Option Obj} {s : Shared} (h : ∀ a, g a = s.heap.get? a) : lookR n ds ex g = (hookR n ds ex).obs s := by
  have e : g = s.heap.get? := funext h
  rw [e] <;> rfl
section
variable {ds : List Dn} {ex : PySem.W.Frag → Bool} {K : PySem.W.Frag} {mg : Str → Option Value} {h : Heap}
theorem SaysM.more (c : SaysM ds ex K) : ex K = true := (He.ba (show (ex K && ds.all fun d => d.fit K) = true from congrArg (fun z : He.Al => z.1) c)).1
theorem SaysM.is (c : SaysM ds ex K) (i : Nat) {d : Dn} (h : ds[i]? = some d := by rfl) : ∃ u, Fun K d.nm d.qu d.st (d.adr K) u := by
  have c2 := (He.ba (show (ex K && ds.all fun d => d.fit K) = true from congrArg (fun z : He.Al => z.1) c)).2
  have e : ds.map (fun d => d.seen K) = ds.map Dn.due := congrArg (fun z : He.Al => z.2) c
  have e2 : (ds.map fun d => d.seen K)[i]? = (ds.map Dn.due)[i]? := by rw [e]
  rw [List.getElem?_map, List.getElem?_map, h] at e2
  exact Dn.is (Option.some.inj e2) (List.all_eq_true.mp c2 d (List.mem_of_getElem? h))
def dnG (x : Str) (st : Stmt) : Dn := ⟨fun K => He.ga K x, x, x, st⟩
def facts (fs : List He.Fa) (K : PySem.W.Frag) : Bool := fs.all fun f => f.ok K
theorem facts_at {fs : List He.Fa} (c : facts fs K = true) (i : Nat) {f : He.Fa} (h : fs[i]? = some f := by rfl) : f.ok K = true := List.all_eq_true.mp c f (List.mem_of_getElem? h)
theorem def_is (X : K.In h) (G : h.Ns mainGlobals mg) {x : Str} {st : Stmt} (g : (He.Fa.glo x).ok K = true) (c : ∃ u, Fun K x x st (He.ga K x) u) : Def K mg x st := by
  obtain ⟨u, F⟩ := c
  exact ⟨_, u, F, He.glo_ok X G g⟩
theorem cst_int (X : K.In h) (G : h.Ns mainGlobals mg) {x : Str} {i : Int} (c : (He.Fa.int x i).ok K = true) : Cst mg x (.int i) := by
  obtain ⟨t, e⟩ := He.int_ok X G c
  exact ⟨_, e, t, rfl⟩
def mP (x f : Str) (K : PySem.W.Frag) : Addr := He.ma K (He.ga K x) f
end
theorem Ok.every {P : Program} {w : World} {K : PySem.W.Frag} {mg : Str → Option Value} {n : Nat} {x p : Str} {sp : Sp} {f : Addr} (O : ∀ base : Heap, Ok P w K mg base n x [p] sp) (m : mg x = some (.ref f)) :
    ∃ fd : FuncData, (∀ (s : Shared) (u : Value), BindsTo s fd ⟨[u], []⟩ [(p, u)]) ∧ ∀ base : Heap, FnOk P w K mg base CX0 n f fd [p] sp := by
  obtain ⟨f0, fd, F, b, m0, k, bt, oc, od, osl, lk⟩ := (O default).ex
  rw [m] at m0
  cases m0
  refine ⟨fd, fun s u => bt s [u] rfl, fun base => ?_⟩
  obtain ⟨f1, fd1, F1, _, m1, _, _, oc1, od1, osl1, lk1⟩ := (O base).ex
  rw [m] at m1
  cases m1
  rw [lk] at lk1
  cases lk1
  exact F1
end GH
namespace GH
open PySem PySem.Spec PyProof.Rows L2
def tAlt (t1 t2 : TE) : TE := fun σ H Q => t1 σ H Q ∨ t2 σ H Q
theorem pe_alt {X : Cx} {e : Expr} {t1 t2 : TE} (h1 : PE X e t1) (h2 : PE X e t2) : PE X e (tAlt t1 t2) :=
  ⟨fun pins s σ H Q I h => h.elim (fun z => h1.run pins s σ H Q I z) fun z => h2.run pins s σ H Q I z⟩
def iAlt (t1 t2 : TI) : TI := fun σ H R => t1 σ H R ∨ t2 σ H R
theorem pi_alt {X : Cx} {tg e : Expr} {t1 t2 : TI} (h1 : PI X tg e t1) (h2 : PI X tg e t2) : PI X tg e (iAlt t1 t2) :=
  ⟨fun pins s σ H R I h => h.elim (fun z => h1.run pins s σ H R I z) fun z => h2.run pins s σ H R I z⟩
end GH
namespace GH
open PySem PySem.Spec PyProof.Rows L2
def clsA (mg : Str → Option Value) (c : Str) : Addr := match mg c with
  | some (.ref C) => C
  | _ => 0
theorem clsA_of {mg : Str → Option Value} {c : Str} {C : Addr} (h : mg c = some (.ref C)) : clsA mg c = C := by unfold clsA; rw [h]
section
variable {P : Program} {w : World} {K : PySem.W.Frag} {mg : Str → Option Value} {base : Heap} {k : Nat} {c m qual : Str} {st : Stmt} {N ps : List Str} {sp : Sp}
end
section
variable {X : Cx} {n : Nat} {c m x : Str} {ps : List Str} {sp : Sp} {p pos apos : Pos} {e o : Expr} {es : List Expr} {ta : TE} {t : TA} {mg : Str → Option Value}
end
section
variable {K : PySem.W.Frag} {mg : Str → Option Value} {h : Heap}
def dnM (c m qual : Str) (st : Stmt) : Dn := ⟨mP c m, m, qual, st⟩
end
end GH
namespace GH
open PySem PySem.Spec PyProof.Rows L2
def SqK (K : PySem.W.Frag) (a : Addr) (xs : List V) : Prop := ∃ (o : Obj) (its : Array Value) (n : Nat), K.lookup a = some o ∧ o.cls = .type "tuple" ∧ o.dict = none ∧ o.data = .seq its n ∧ its.size ≤ sizeLine ∧ Vals xs its.toList
theorem SqK.sqT {K : PySem.W.Frag} {a : Addr} {xs : List V} (h : SqK K a xs) (H : Hp) : SqT K H a xs := by
  obtain ⟨o, its, n, h1, h2, _, h3, h4, h5⟩ := h
  exact .inr ⟨o, its, n, h1, h2, h3, h4, h5⟩
end GH
namespace GH
open PySem PySem.Spec PyProof.Rows L2
section
variable {K : PySem.W.Frag} {mg : Str → Option Value} {h : Heap}
end
end GH
namespace EU
open PySem PySem.Spec PyProof.Rows L2
section
variable {prog : Program} {w : World} {A : Around} {E : Value → Shared → Prop} {s : Shared}
end
end EU
namespace EV
open PySem
structure LamD where
  nm : String
  qual : Str
  params : Arguments
  body : Expr
  scope : Scope
  ps : List Str
inductive Val where
  | non | bl (b : Bool) | int (i : Int) | str (l : List Nat)
  | lst (xs : List Val) | tup (xs : List Val) | dct (kvs : List (Val × Val)) | obj (c : String) (fs : List (String × Val)) | scr (xs : List Int) | wtp (xs : List (List Nat)) | cls (c : String) | clo (L : LamD) (vs : List Val) | exo (c : String) (fs : List (String × Val))
inductive Slot where
  | un | fz (v : Val) | ow (v : Val)
def Slot.val : Slot → Option Val
  | .un => none
  | .fz v => some v
  | .ow v => some v
abbrev Ro := List Slot
structure Exc where
  c : String
  fs : List (String × Val)
  pr : Bool := false
inductive Out (α : Type) where
  | ok (a : α) (ρ : Ro) | ex (e : Exc) (ρ : Ro)
abbrev Res (α : Type) := Option (Out α)
def bnd {α β : Type} (m : Res α) (k : α → Ro → Res β) : Res β := match m with
  | some (.ok a ρ) => k a ρ
  | some (.ex e ρ) => some (.ex e ρ)
  | none => none
def pur {α : Type} (a : α) (ρ : Ro) : Res α := some (.ok a ρ)
@[simp] theorem bnd_none {α β : Type} (k : α → Ro → Res β) : bnd none k = none := rfl
@[simp] theorem bnd_ok {α β : Type} (a : α) (ρ : Ro) (k : α → Ro → Res β) : bnd (some (.ok a ρ)) k = k a ρ := rfl
@[simp] theorem bnd_pur {α β : Type} (a : α) (ρ : Ro) (k : α → Ro → Res β) : bnd (pur a ρ) k = k a ρ := rfl
@[simp] theorem bnd_ex {α β : Type} (e : Exc) (ρ : Ro) (k : α → Ro → Res β) : bnd (some (.ex e ρ)) k = some (.ex e ρ) := rfl
def lift {α : Type} (o : Option α) (ρ : Ro) : Res α := match o with
  | some a => pur a ρ
  | none => none
@[simp] theorem lift_some {α : Type} (a : α) (ρ : Ro) : lift (some a) ρ = pur a ρ := rfl
@[simp] theorem lift_none {α : Type} (ρ : Ro) : lift (none : Option α) ρ = none := rfl
def cap : Nat := 1000000
mutual
def toD : Val → Option PyData
  | .non => some .none
  | .bl b => some (.bool b)
  | .int i => some (.int i)
  | .str l => some (.str ⟨l.toArray⟩)
  | .lst xs => (toDs xs).map .list
  | .tup xs => (toDs xs).map .tuple
  | .dct _ => none
  | .obj _ _ => none
  | .scr _ => none
  | .wtp _ => none
  | .cls _ => none
  | .clo _ _ => none
  | .exo _ _ => none
def toDs : List Val → Option (List PyData)
  | [] => some []
  | x :: r => (toD x).bind fun d => (toDs r).map (d :: ·)
end
mutual
def eqv : Val → Val → Bool
  | .non, b => match b with | .non => true | _ => false
  | .bl a, b => match b with | .bl b => a == b | .int j => (if a then 1 else 0) == j | _ => false
  | .int a, b => match b with | .int b => a == b | .bl c => a == (if c then 1 else 0) | _ => false
  | .str a, b => match b with | .str b => a == b | _ => false
  | .lst a, b => match b with | .lst b => eqvs a b | _ => false
  | .tup a, b => match b with | .tup b => eqvs a b | _ => false
  | .dct _, _ => false
  | .obj _ _, _ => false
  | .scr _, _ => false
  | .wtp _, _ => false
  | .cls _, _ => false
  | .clo _ _, _ => false
  | .exo _ _, _ => false
def eqvs : List Val → List Val → Bool
  | [], b => match b with | [] => true | _ => false
  | x :: r, b => match b with | [] => false | y :: s => eqv x y && eqvs r s
end
mutual
def noClo : Val → Bool
  | .lst xs => noClos xs
  | .tup xs => noClos xs
  | .dct kvs => noCloK kvs
  | .obj _ fs => noCloF fs
  | .clo _ _ => false
  | .exo _ _ => false
  | _ => true
def noClos : List Val → Bool
  | [] => true
  | v :: r => noClo v && noClos r
def noCloK : List (Val × Val) → Bool
  | [] => true
  | p :: r => noClo p.2 && noCloK r
def noCloF : List (String × Val) → Bool
  | [] => true
  | p :: r => noClo p.2 && noCloF r
end
def shp (v : Val) : Bool := match toD v with
  | some d => SeqAt.shaped d
  | none => false
def isS : Val → Bool
  | .str _ => true
  | _ => false
def eqF (a b : Val) : Option Bool := if (isS a && isS b) || (shp a && shp b) then some (eqv a b) else none
inductive Bin where
  | add | sub | mul | mod | fdiv | pow
def repS (l : List Nat) : Nat → List Nat
  | 0 => []
  | n + 1 => l ++ repS l n
def repV (l : List Val) : Nat → List Val
  | 0 => []
  | n + 1 => l ++ repV l n
def small (i : Int) : Bool := decide (-(2 ^ 64) < i) && decide (i < 2 ^ 64)
def binF : Bin → Val → Val → Option Slot
  | .add, .int a, .int b => some (.fz (.int (a + b)))
  | .add, .str a, .str b => if a.length + b.length ≤ cap then some (.fz (.str (a ++ b))) else none
  | .add, .lst a, .lst b => if a.length + b.length ≤ cap then some (.ow (.lst (a ++ b))) else none
  | .add, .tup a, .tup b => if a.length + b.length ≤ cap then some (.fz (.tup (a ++ b))) else none
  | .sub, .int a, .int b => some (.fz (.int (a - b)))
  | .mul, .int a, .int b => if small a || small b then some (.fz (.int (a * b))) else none
  | .mul, .str a, .int n => if a.length ≤ 1000 ∧ 1 ≤ n ∧ n ≤ 1000 then some (.fz (.str (repS a n.toNat))) else none
  | .mul, .lst a, .int n => if a.length ≤ 1000 ∧ 0 ≤ n ∧ n ≤ 1000 then some (.ow (.lst (repV a n.toNat))) else none
  | .mul, .tup a, .int n => if a.length ≤ 1000 ∧ 1 ≤ n ∧ n ≤ 1000 ∧ 1 ≤ a.length then some (.fz (.tup (repV a n.toNat))) else none
  | .mod, .int a, .int b => if 0 < b then some (.fz (.int (a % b))) else none
  | .fdiv, .int a, .int b => if 0 < b ∧ b < 2 ^ 30 then some (.fz (.int (a / b))) else none
  | .pow, .int a, .int b => if 0 ≤ a ∧ a ≤ 10 ∧ 0 ≤ b ∧ b ≤ 40 then some (.fz (.int (a ^ b.toNat))) else none
  | _, _, _ => none
inductive Cmp where
  | eq | ne | lt | le | gt | ge | isin | notin | is | isnt
def keyOk : Val → Bool
  | .int _ => true
  | .str _ => true
  | _ => false
def dkey : Val → Bool
  | .int _ => true
  | .str _ => true
  | .tup xs => xs.all keyOk
  | _ => false
def look (kvs : List (Val × Val)) (k : Val) : Option Val := (kvs.find? fun p => eqv p.1 k).map (·.2)
def put (kvs : List (Val × Val)) (k v : Val) : List (Val × Val) :=
  if (kvs.any fun p => eqv p.1 k) then kvs.map fun p => if eqv p.1 k then (p.1, v) else p else kvs ++ [(k, v)]
def isTup : Val → Bool
  | .tup _ => true
  | _ => false
def fits (kvs : List (Val × Val)) (k : Val) : Bool := kvs.all fun p => isTup p.1 == isTup k
def inF (x c : Val) : Option Bool := match c with
  | .str l => (match x with
    | .str [s] => some (l.contains s)
    | _ => none)
  | .lst ys => if shp x && shp (.lst ys) then some (ys.any fun y => eqv y x) else none
  | .tup ys => if shp x && shp (.tup ys) then some (ys.any fun y => eqv y x) else none
  | .dct kvs => if dkey x && fits kvs x then some (look kvs x).isSome else none
  | .wtp xs => (match x with
    | .str l => some (xs.contains l)
    | _ => none)
  | _ => none
def cmpF : Cmp → Val → Val → Option Bool
  | .eq, a, b => eqF a b
  | .ne, a, b => (eqF a b).map (!·)
  | .lt, .int a, .int b => some (decide (a < b))
  | .le, .int a, .int b => some (decide (a ≤ b))
  | .gt, .int a, .int b => some (decide (b < a))
  | .ge, .int a, .int b => some (decide (b ≤ a))
  | .lt, .str a, .str b => some (decide (a < b))
  | .isin, a, b => inF a b
  | .notin, a, b => (inF a b).map (!·)
  | .is, a, .non => some (match a with | .non => true | _ => false)
  | .isnt, a, .non => some (match a with | .non => false | _ => true)
  | .is, .bl a, .bl b => some (a == b)
  | .isnt, .bl a, .bl b => some (a != b)
  | _, _, _ => none
def ixN (n : Nat) (i : Int) : Option Nat := if 0 ≤ i ∧ i < n then some i.toNat else if i < 0 ∧ -(n : Int) ≤ i then some (i + n).toNat else none
def idxF : Val → Val → Option Val
  | .lst xs, .int i => (ixN xs.length i).bind fun j => xs[j]?
  | .tup xs, .int i => (ixN xs.length i).bind fun j => xs[j]?
  | .str l, .int i => if l.length ≤ cap then (ixN l.length i).bind fun j => (l[j]?).map fun c => .str [c] else none
  | .dct kvs, k => if dkey k && fits kvs k then look kvs k else none
  | .scr xs, .int i => ((ixN xs.length i).bind fun j => xs[j]?).map .int
  | _, _ => none
def sIx (n d : Nat) : Option Int → Nat
  | none => d
  | some v => if v < 0 then (v + (n : Int)).toNat else min v.toNat n
def cut {α : Type} (xs : List α) (lo hi : Option Int) : List α := (xs.drop (sIx xs.length 0 lo)).take (sIx xs.length xs.length hi - sIx xs.length 0 lo)
def slcF (v : Val) (lo hi : Option Int) : Option Slot := match v with
  | .lst xs => some (.ow (.lst (cut xs lo hi)))
  | .tup xs => some (.fz (.tup (cut xs lo hi)))
  | .str l => if l.length ≤ cap then some (.fz (.str (cut l lo hi))) else none
  | .scr xs => some (.ow (.lst ((cut xs lo hi).map .int)))
  | _ => none
def typ : Val → String
  | .non => "NoneType" | .bl _ => "bool" | .int _ => "int" | .str _ => "str" | .lst _ => "list" | .tup _ => "tuple" | .dct _ => "dict" | .obj c _ => c | .scr _ => "list" | .wtp _ => "tuple" | .cls _ => "type" | .clo _ _ => "function" | .exo _ _ => "error"
def isiF (v : Val) (t : String) : Bool := typ v == t || (t == "int" && typ v == "bool")
def allB : List Val → Option (List Bool)
  | [] => some []
  | .bl b :: r => (allB r).map (b :: ·)
  | _ :: _ => none
def allI : List Val → Option (List Int)
  | [] => some []
  | .int i :: r => (allI r).map (i :: ·)
  | _ :: _ => none
def allS : List Val → Option (List (List Nat))
  | [] => some []
  | .str l :: r => (allS r).map (l :: ·)
  | _ :: _ => none
def maxI : Int → List Int → Int
  | m, [] => m
  | m, i :: r => maxI (max m i) r
def joinS (sep : List Nat) : List (List Nat) → List Nat
  | [] => []
  | [x] => x
  | x :: r => x ++ sep ++ joinS sep r
def rng (a b : Int) : List Val := (List.range (b - a).toNat).map fun k => .int (a + (k : Nat))
def len : Val → Option Nat
  | .lst xs => some xs.length
  | .tup xs => some xs.length
  | .str l => if l.length ≤ cap then some l.length else none
  | .dct kvs => some kvs.length
  | .scr xs => some xs.length
  | _ => none
end EV
namespace GH
open PySem PySem.Spec PyProof.Rows L2
mutual
def okD : PyData → Prop
  | .none | .bool _ => True
  | .int i => i.natAbs.log2 < 1920
  | .str x => ∀ c ∈ x.cps.toList, c < 16 ^ 8
  | .list xs | .tuple xs => okAll xs
  | .dict _ => False
def okAll : List PyData → Prop
  | [] => True
  | x :: xs => okD x ∧ okAll xs
end
mutual
def cost : PyData → Nat
  | .none | .bool _ => 5
  | .int _ => 1930
  | .str x => 10 * x.cps.size + 2
  | .list xs | .tuple xs => costAll xs + 3
  | .dict _ => 0
def costAll : List PyData → Nat
  | [] => 0
  | x :: xs => cost x + 2 + costAll xs
end
mutual
theorem okD_showable : ∀ d : PyData, okD d → d.showable = true ∧ d.hasDict = false
  | .none, _ => ⟨rfl, rfl⟩
  | .bool _, _ => ⟨rfl, rfl⟩
  | .int i, h => ⟨decide_eq_true (by simpa only [okD] using h), rfl⟩
  | .str _, _ => ⟨rfl, rfl⟩
  | .list xs, h => by
    have := okAll_showable xs (by simpa only [okD] using h)
    simpa only [PyData.showable, PyData.hasDict] using this
  | .tuple xs, h => by
    have := okAll_showable xs (by simpa only [okD] using h)
    simpa only [PyData.showable, PyData.hasDict] using this
  | .dict _, h => by simp only [okD] at h
theorem okAll_showable : ∀ xs : List PyData, okAll xs → PyData.showableAll xs = true ∧ PyData.hasDictAll xs = false
  | [], _ => ⟨rfl, rfl⟩
  | x :: xs, h => by
    have h' : okD x ∧ okAll xs := by simpa only [okAll] using h
    have h1 := okD_showable x h'.1
    have h2 := okAll_showable xs h'.2
    simp only [PyData.showableAll, PyData.hasDictAll, h1.1, h1.2, h2.1, h2.2]
    decide
end
mutual
theorem shown_cost : ∀ d : PyData, okD d → d.shown.length ≤ cost d
  | .none, _ => by
    have e : (PyData.shown .none).length = 4 := rfl
    simp only [cost]; omega
  | .bool b, _ => by
    have e : (PyData.shown (.bool b)).length ≤ 5 := by cases b <;> decide
    simp only [cost]; omega
  | .int i, h => by
    have h' : i.natAbs.log2 < 1920 := by simpa only [okD] using h
    have e := int_text_length_le (by decide) h'
    have e2 : (PyData.shown (.int i)).length = (toString i).length := by
      simp only [PyData.shown]
      exact PySem.ofString_length _
    simp only [cost]; omega
  | .str x, h => by
    have h' : ∀ c ∈ x.cps.toList, c < 16 ^ 8 := by simpa only [okD] using h
    have e := StrLaws.reprText_len x h'
    have e2 : x.length = x.cps.size := rfl
    simp only [PyData.shown, cost]; omega
  | .list xs, h => by
    have h1 := shownAll_cost xs (by simpa only [okD] using h)
    have h2 := listText_len_le (PyData.shownAll xs)
    have h3 := PyData.shownAll_length xs
    simp only [PyData.shown, cost]; omega
  | .tuple xs, h => by
    have h1 := shownAll_cost xs (by simpa only [okD] using h)
    have h2 := tupleText_len_le (PyData.shownAll xs)
    have h3 := PyData.shownAll_length xs
    simp only [PyData.shown, cost]; omega
  | .dict _, h => by simp only [okD] at h
theorem shownAll_cost : ∀ xs : List PyData, okAll xs → ((PyData.shownAll xs).map (·.length)).sum + 2 * xs.length ≤ costAll xs
  | [], _ => by simp [PyData.shownAll, costAll]
  | x :: xs, h => by
    have h' : okD x ∧ okAll xs := by simpa only [okAll] using h
    have h1 := shown_cost x h'.1
    have h2 := shownAll_cost xs h'.2
    simp only [PyData.shownAll, costAll, List.map_cons, List.sum_cons, List.length_cons]
    omega
end
end GH
namespace EV
open PySem
inductive Tg where
  | nm (i : Nat) | tp (ts : List Tg)
inductive Bl where
  | len | all | any | max | min | abs | int | divmod | tuple | list | str | repr | sorted
inductive Bm where
  | sindex | lindex | join | split | tindex | get
inductive Mu where
  | append | extend | update | setdefault | insert | pop
inductive HV where
  | non | bl (b : Bool) | lst (s : String) (fs : List String)
inductive HB where
  | ret (v : HV) | rai (c f : String) (i : Nat)
structure Hd where
  cs : List String
  b : HB
mutual
inductive Ex where
  | v (i : Nat) | g (x : String)
  | non | bl (b : Bool) | int (i : Int) | str (s : String)
  | tup (es : List Ex) | lst (es : List Ex) | star (e : Ex)
  | bin (o : Bin) (a b : Ex) | neg (a : Ex) | nt (a : Ex) | and (a b : Ex) | or (a b : Ex)
  | cmp (o : Cmp) (a b : Ex) | chain (o p : Cmp) (a b c : Ex)
  | ite (c a b : Ex)
  | idx (a i : Ex) | slc (a : Ex) (lo hi : Option Ex)
  | fld (a : Ex) (f : String) | prp (c p f : String) (a : Ex)
  | call (f : String) (es : List Ex) (ks : List String)
  | mk (c : String) (es : List Ex) (ks : List String)
  | mth (k c m : String) (a : Ex) (es : List Ex)
  | isi (a : Ex) (t : String)
  | blt (b : Bl) (es : List Ex)
  | bmt (a : Ex) (m : Bm) (es : List Ex)
  | lrg (e : Ex)
  | lc (ns : List Nat) (t : Tg) (it : Iter) (c : Option Ex) (e : Ex)
  | dc (ns : List Nat) (t : Tg) (it : Iter) (k e : Ex)
  | dct (ks es : List Ex)
  | ln (f c : String) (es : List Ex)
  | tzp (a b : Ex)
  | rev (a : Ex)
  | dct2 (k e k2 e2 : Ex)
  | lzp (a b : Ex)
  | dcl (e : Ex)
  | cm (f c : String) (es : List Ex) (ks : List String)
  | mkv (i : Nat) (c : String) (es : List Ex)
  | sp (f c m : String) (ne : Bool) (es : List Ex)
  | lc2 (ns : List Nat) (t : Tg) (it : Iter) (ns1 : List Nat) (t1 : Tg) (it1 : Iter) (e : Ex)
  | prim (p : String) (es : List Ex)
  | pg (f c m : String) (a : Ex)
  | thk (g : String) (e : Ex)
  | bor (e : Ex)
  | ide (ne : Bool) (c : String) (i j : Nat)
  | idv (c : String) (i : Nat) (e : Ex)
  | cap (g : String) (i : Nat)
  | app (e : Ex)
inductive Iter where
  | seq (e : Ex) | rng (e : Ex) | rng2 (a b : Ex) | rng3 (a b c : Ex) | enum (e : Ex) | zip (a b : Ex) | items (e : Ex)
end
inductive Sx where
  | pass
  | asg (t : Tg) (e : Ex)
  | par (is : List Nat) (es : List Ex)
  | aug (i : Nat) (e : Ex)
  | sub (i : Nat) (k e : Ex)
  | subp (i : Nat) (k : Ex) (j : Nat) (e : Ex)
  | mut (i : Nat) (m : Mu) (es : List Ex)
  | setf (i : Nat) (f : String) (e : Ex)
  | expr (e : Ex)
  | ret (e : Ex) | retN
  | ife (c : Ex) (a b : List Sx)
  | whl (c : Ex) (a : List Sx)
  | for_ (t : Tg) (it : Iter) (a : List Sx)
  | tri (a : List Sx) (cs : List String) (n : Option Nat) (b : List Sx)
  | rai (c : String) (fs : List String) (es : List Ex)
  | hd (i j : Nat) (e : Ex)
  | subs (i : Nat) (ks : List String) (e : Ex)
  | trh (a : List Sx) (hs : List Hd)
structure Def where
  ps : List String
  n : Nat
  io : List Bool
  body : List Sx
structure Tab where
  fn : String → Option Def
  cst : String → Option Val
  ext : String → Option (List Slot → Option (Slot × List Slot))
  fld : String → String → Bool
  prp : String → String → String → Bool
  isc : String → Bool
  prm : String → Option (List Val → Option Slot) := fun _ => none
  cat : String → Option (Sum Val Exc → Option Slot) := fun _ => none
  xc : String → List String := fun _ => []
inductive Opd where
  | pl (i : Nat) | tm (v : Val)
def Opd.val (o : Opd) (ρ : Ro) : Option Val := match o with
  | .pl i => (ρ[i]?).bind Slot.val
  | .tm v => some v
def opnd (e : Ex) (m : Ro → Res Slot) (ρ : Ro) : Res Opd := match e with
  | .v i => if ((ρ[i]?).bind Slot.val).isSome then pur (.pl i) ρ else none
  | _ => bnd (m ρ) fun r ρ' => match r with
    | .fz v => pur (.tm v) ρ'
    | .ow v => pur (.tm v) ρ'
    | .un => none
def fixv (r : Slot) (ρ : Ro) : Res Val := match r with
  | .fz v => pur v ρ
  | .ow v => pur v ρ
  | .un => none
def slotAt (i : Nat) (ρ : Ro) : Res Slot := match ρ[i]? with
  | some (.fz v) => pur (.fz v) ρ
  | some (.ow v) => pur (.fz v) (ρ.set i (.fz v))
  | _ => none
def asBool (r : Slot) (ρ : Ro) : Res Bool := match r with
  | .fz (.bl b) => pur b ρ
  | _ => none
def isObjAt (c : String) : Option Slot → Bool
  | some (.ow (.obj d _)) => d == c
  | _ => false
def isStrV : Val → Bool
  | .str _ => true
  | _ => false
mutual
def assn : Tg → Slot → Ro → Option Ro
  | .nm i, r, ρ => if i < ρ.length then some (ρ.set i r) else none
  | .tp ts, r, ρ => match r with
    | .fz (.tup xs) => if xs.length = ts.length then assns ts xs ρ else none
    | .fz (.lst xs) => if xs.length = ts.length then assns ts xs ρ else none
    | _ => none
def assns : List Tg → List Val → Ro → Option Ro
  | [], _, ρ => some ρ
  | _ :: _, [], _ => none
  | t :: ts, x :: xs, ρ => (assn t (.fz x) ρ).bind (assns ts xs)
end
def wipeR (ρ : Ro) : List Nat → Ro
  | [] => ρ
  | i :: is => (wipeR ρ is).set i .un
mutual
def okB : PyData → Bool
  | .none => true
  | .bool _ => true
  | .int i => decide (i.natAbs.log2 < 1920)
  | .str x => x.cps.toList.all fun c => decide (c < 16 ^ 8)
  | .list xs => okBs xs
  | .tuple xs => okBs xs
  | .dict _ => false
def okBs : List PyData → Bool
  | [] => true
  | x :: xs => okB x && okBs xs
end
def reprOk (d : PyData) : Bool := okB d && decide (d.depth ≤ 60) && decide (GH.cost d ≤ 10000000)
def encV (v : Val) : PyData := (toD v).getD .none
def leV : Val → Val → Bool := PySem.W.dataLe false encV
def srtOk (ds : List PyData) : Bool := ds.all (fun d => ds.all fun d' => PySem.W.alike d d') && ds.all (fun d => decide (d.depth ≤ 60)) && (ds.all (fun d => match d with | .tuple (_ :: _) => true | _ => false) || ds.all (fun d => match d with | .none => false | .tuple _ => false | _ => true))
def intS (i : Int) : List Nat := (Str.ofString (toString i)).cps.toList
def bltF (b : Bl) (vs : List Val) : Option Slot := match b, vs with
  | .len, [v] => (len v).map fun n => .fz (.int (n : Nat))
  | .all, [.lst xs] => (allB xs).map fun bs => .fz (.bl (bs.all id))
  | .any, [.lst xs] => (allB xs).map fun bs => .fz (.bl (bs.any id))
  | .max, [.lst xs] => match allI xs with
    | some (i :: is) => some (.fz (.int (maxI i is)))
    | _ => none
  | .max, [.int i, .int j] => some (.fz (.int (if j > i then j else i)))
  | .min, [.int i, .int j] => some (.fz (.int (if j < i then j else i)))
  | .abs, [.int i] => some (.fz (.int (if i < 0 then -i else i)))
  | .int, [.int i] => some (.fz (.int i))
  | .int, [.bl b] => some (.fz (.int (if b then 1 else 0)))
  | .int, [.str [c]] => if 48 ≤ c ∧ c ≤ 57 then some (.fz (.int ((c : Nat) - 48 : Int))) else none
  | .str, [.int i] => if i.natAbs < 1000 then some (.fz (.str (intS i))) else none
  | .str, [.str l] => some (.fz (.str l))
  | .divmod, [.int i, .int j] => if 0 < j ∧ j < 2 ^ 30 then some (.fz (.tup [.int (i / j), .int (i % j)])) else none
  | .tuple, [.lst xs] => some (.fz (.tup xs))
  | .tuple, [.tup xs] => some (.fz (.tup xs))
  | .list, [.lst xs] => some (.ow (.lst xs))
  | .list, [.tup xs] => some (.ow (.lst xs))
  | .list, [.str l] => if l.length ≤ 100000 then some (.ow (.lst (l.map fun c => .str [c]))) else none
  | .list, [.dct kvs] => some (.ow (.lst (kvs.map (·.1))))
  | .sorted, [.lst xs] => match toDs xs with
    | some ds => if srtOk ds && decide (xs.length ≤ cap) then some (.ow (.lst (xs.mergeSort leV))) else none
    | none => none
  | .repr, [v] => match toD v with
    | some d => if reprOk d then some (.fz (.str d.shown.cps.toList)) else none
    | none => none
  | _, _ => none
def splS (c : Nat) : List Nat → List (List Nat)
  | [] => [[]]
  | d :: r => if d = c then [] :: splS c r else (match splS c r with
    | w :: ws => (d :: w) :: ws
    | [] => [[d]])
def bmtF (v : Val) (m : Bm) (vs : List Val) : Option Slot := match m, v, vs with
  | .sindex, .str l, [.str [c]] => if l.Nodup ∧ c ∈ l then some (.fz (.int (l.idxOf c : Nat))) else none
  | .lindex, .lst xs, [y] => if shp y && shp (.lst xs) then (match xs.findIdx? fun z => eqv z y with
      | some j => some (.fz (.int (j : Nat)))
      | none => none) else none
  | .join, .str sep, [.lst xs] => match allS xs with
      | some ls => if (ls.map (·.length)).sum + ls.length * sep.length ≤ cap then some (.fz (.str (joinS sep ls))) else none
      | none => none
  | .join, .str sep, [.tup xs] => match allS xs with
      | some ls => if (ls.map (·.length)).sum + ls.length * sep.length ≤ cap then some (.fz (.str (joinS sep ls))) else none
      | none => none
  | .tindex, .wtp zs, [.str l] => if l ∈ zs then some (.fz (.int (zs.idxOf l : Nat))) else none
  | .split, .str l, [.str [c]] => if l.length ≤ 100000 ∧ c < 128 then some (.ow (.lst ((splS c l).map .str))) else none
  | .get, .dct kvs, [k, d] => if keyOk k && fits kvs k && !kvs.isEmpty then some (.fz ((look kvs k).getD d)) else none
  | _, _, _ => none
def bmtK (m : Bm) (v : Val) : Bool := match m, v with
  | .sindex, .str _ => true
  | .lindex, .lst _ => true
  | .join, .str _ => true
  | .tindex, .wtp _ => true
  | .get, .dct _ => true
  | .split, .str _ => true
  | _, _ => false
def hashV : Val → Int
  | .tup xs => reduceHash (Builtin.Tuple.tupleHashOf (xs.map fun v => match v with
    | .int i => hashInt i
    | _ => 0))
  | _ => 0
def tkI (k : Val) : Bool := match k with
  | .tup xs => xs.all fun v => match v with
    | .int _ => true
    | _ => false
  | _ => false
def updOk (kvs more : List (Val × Val)) : Bool := (more.all (fun p => keyOk p.1) && kvs.all (fun p => keyOk p.1)) || (!more.isEmpty && more.all (fun p => tkI p.1) && kvs.all (fun p => tkI p.1) && (!kvs.isEmpty || decide (more.map fun p => hashV p.1).Nodup))
def mutF (m : Mu) (v : Val) (vs : List Val) : Option Val := match m, v, vs with
  | .append, .lst xs, [y] => if xs.length < cap then some (.lst (xs ++ [y])) else none
  | .insert, .lst xs, [.int i, y] => if 0 ≤ i ∧ i ≤ xs.length ∧ xs.length < cap then some (.lst (xs.take i.toNat ++ y :: xs.drop i.toNat)) else none
  | .extend, .lst xs, [.lst ys] => if xs.length + ys.length < cap then some (.lst (xs ++ ys)) else none
  | .update, .dct kvs, [.dct more] => if kvs.length + more.length ≤ 1000 && updOk kvs more then some (.dct (more.foldl (fun a p => put a p.1 p.2) kvs)) else none
  | .pop, .lst xs, [] => if xs.isEmpty then none else some (.lst xs.dropLast)
  | .setdefault, .dct kvs, [k, y] => if kvs.length < cap ∧ keyOk k = true ∧ fits kvs k = true then some (.dct (if (look kvs k).isSome then kvs else put kvs k y)) else none
  | _, _, _ => none
def putFs (f : String) (x : Val) : List (String × Val) → List (String × Val)
  | [] => [(f, x)]
  | (g, y) :: r => if g = f then (g, x) :: r else (g, y) :: putFs f x r
def mutK (m : Mu) (v : Val) : Bool := match m, v with
  | .append, .lst _ => true
  | .extend, .lst _ => true
  | .insert, .lst _ => true
  | .update, .dct _ => true
  | .setdefault, .dct _ => true
  | .pop, .lst _ => true
  | _, _ => false
def setF (v k x : Val) : Option Val := match v, k with
  | .lst xs, .int i => (ixN xs.length i).map fun j => .lst (xs.set j x)
  | .dct kvs, k => if kvs.length < cap ∧ dkey k = true ∧ fits kvs k = true then some (.dct (put kvs k x)) else none
  | _, _ => none
def itemsF (v : Val) : Option (List Val) := match v with
  | .lst xs => some xs
  | .tup xs => some xs
  | .str l => some (l.map fun c => .str [c])
  | .dct kvs => some (kvs.map (·.1))
  | _ => none
def itmF (v : Val) : Option (List Val) := match v with
  | .dct kvs => if (kvs.all (fun p => keyOk p.1) || kvs.all (fun p => dkey p.1 && isTup p.1)) && !kvs.isEmpty then some (kvs.map fun p => .tup [p.1, p.2]) else none
  | _ => none
def seqOf (v : Val) : Option (List Val) := match v with
  | .tup xs => some xs
  | .str l => some (l.map fun c => .str [c])
  | _ => none
def enumL (n : Nat) : List Val → List Val
  | [] => []
  | x :: r => .tup [.int (n : Nat), x] :: enumL (n + 1) r
def zipL : List Val → List Val → List Val
  | x :: r, y :: s => .tup [x, y] :: zipL r s
  | _, _ => []
def tzpF (u w : Val) : Option Slot := match u, w with
  | .tup xs, .tup ys => if min xs.length ys.length ≤ 1000 then some (.fz (.tup (zipL xs ys))) else none
  | _, _ => none
def lzpF (u w : Val) : Option Slot := match u, w with
  | .tup xs, .tup ys => if min xs.length ys.length ≤ 1000 then some (.ow (.lst (zipL xs ys))) else none
  | _, _ => none
def prsOf : List Val → Option (List (Val × Val))
  | [] => some []
  | .tup [k, v] :: r => (prsOf r).map ((k, v) :: ·)
  | _ :: _ => none
def prsL : Val → Option (List (Val × Val))
  | .lst ps => prsOf ps
  | _ => none
def dclF (v : Val) : Option Slot := (prsL v).bind fun kvs => if kvs.length ≤ 1000 ∧ ((kvs.all fun p => keyOk p.1) || (kvs.all fun p => dkey p.1 && isTup p.1)) = true then some (.ow (.dct (kvs.foldl (fun a p => put a p.1 p.2) []))) else none
def revF (u : Val) : Option Slot := match u with
  | .tup xs => some (.fz (.tup xs.reverse))
  | .lst xs => some (.ow (.lst xs.reverse))
  | _ => none
def rngF : List Val → Option (List Val)
  | [.int n] => if -(cap : Int) ≤ n ∧ n ≤ cap then some (rng 0 n) else none
  | [.int a, .int b] => if -(cap : Int) ≤ a ∧ a ≤ cap ∧ -(cap : Int) ≤ b ∧ b ≤ cap then some (rng a b) else none
  | [.int a, .int b, .int c] => if 0 ≤ a ∧ a ≤ 1000 ∧ 0 ≤ b ∧ b ≤ 1000 ∧ 1 ≤ c ∧ c ≤ 1000 then some ((List.range ((b - a + c - 1) / c).toNat).map fun k => .int (a + (k : Nat) * c)) else none
  | _ => none
def isiV (isc : String → Bool) (v : Val) (t : String) : Option Bool := match v with
  | .obj c _ => if c == t && isc t then some true else none
  | .scr _ => none
  | .cls _ => none
  | .clo _ _ => none
  | .exo _ _ => none
  | v => if ["bool", "int", "str", "tuple", "list"].contains t then some (isiF v t) else if isc t then some false else none
def order (ps ks : List String) (vs : List Slot) : Option (List Slot) :=
  if ks = [] then some vs else
    ((ps.drop (vs.length - ks.length)).mapM fun p => (ks.zip (vs.drop (vs.length - ks.length))).lookup p).map fun ws => vs.take (vs.length - ks.length) ++ ws
def clean (ns : List Nat) (ρ : Ro) : Bool := ns.all fun i => match ρ[i]? with
  | some (.ow _) => false
  | some _ => true
  | none => false
def lcLoop (f : Ro → Res (Option Val)) (t : Tg) (ns : List Nat) : List Val → Ro → Res (List Val)
  | [], ρ => pur [] ρ
  | x :: r, ρ => match assn t (.fz x) ρ with
    | some ρ1 => bnd (f ρ1) fun y ρ2 => bnd (lcLoop f t ns r (wipeR ρ2 ns)) fun ys ρ3 => pur (match y with
      | some v => v :: ys
      | none => ys) ρ3
    | none => none
def lc2Loop (f : Ro → Res (List Val)) (t : Tg) (ns : List Nat) : List Val → Ro → Res (List Val)
  | [], ρ => pur [] ρ
  | x :: r, ρ => match assn t (.fz x) ρ with
    | some ρ1 => bnd (f ρ1) fun ys ρ2 => bnd (lc2Loop f t ns r (wipeR ρ2 ns)) fun zs ρ3 => pur (ys ++ zs) ρ3
    | none => none
def dcLoop (f : Ro → Res (Val × Val)) (t : Tg) (ns : List Nat) : List Val → Ro → List (Val × Val) → Res (List (Val × Val))
  | [], ρ, acc => pur acc ρ
  | x :: r, ρ, acc => match assn t (.fz x) ρ with
    | some ρ1 => bnd (f ρ1) fun y ρ2 => if dkey y.1 && fits acc y.1 then dcLoop f t ns r (wipeR ρ2 ns) (put acc y.1 y.2) else none
    | none => none
def unwipe (ns : List Nat) (ρ ρ' : Ro) : Ro := match ns with
  | [] => ρ'
  | i :: r => (unwipe r ρ ρ').set i ((ρ[i]?).getD .un)
def quiet {α : Type} (m : Res α) : Res α := match m with
  | some (.ok a ρ) => some (.ok a ρ)
  | _ => none
inductive Arg where
  | io (i : Nat) | va (v : Val) | nw (v : Val)
def Arg.slot (ρ : Ro) : Arg → Option Slot
  | .io i => match ρ[i]? with
    | some (.ow v) => some (.ow v)
    | _ => none
  | .va v => some (.fz v)
  | .nw v => some (.ow v)
def putBack : List Arg → List Slot → Ro → Option Ro
  | [], _, ρ => some ρ
  | .io i :: r, .ow v :: s, ρ => (putBack r s ρ).map fun ρ' => ρ'.set i (.ow v)
  | .io _ :: _, _, _ => none
  | .va _ :: r, _ :: s, ρ => putBack r s ρ
  | .nw _ :: r, _ :: s, ρ => putBack r s ρ
  | _ :: _, [], _ => none
def Arg.isN : Arg → Bool
  | .nw _ => true
  | _ => false
def Arg.isAt (i : Nat) : Arg → Bool
  | .io j => i == j
  | _ => false
def ioNd : List Arg → Bool
  | [] => true
  | .io i :: r => !(r.any (Arg.isAt i)) && ioNd r
  | .nw _ :: r => !(r.any Arg.isN) && ioNd r
  | .va _ :: r => ioNd r
def finish (as : List Arg) (res : Res Slot) (ρ : Ro) : Res Slot := match res with
  | some (.ok r fin) => match putBack as fin ρ with
    | some ρ' => some (.ok r ρ')
    | none => none
  | some (.ex e fin) => match putBack as fin ρ with
    | some ρ' => some (.ex e ρ')
    | none => none
  | none => none
abbrev Cal := String → List Slot → Res Slot
def Arg.isV : Arg → Bool
  | .va _ => true
  | _ => false
def callF (cal : Cal) (ps : List String) (f : String) (ks : List String) (as : List Arg) (ρ : Ro) : Res Slot :=
  if ioNd as && (ks.isEmpty || as.all Arg.isV) then match (as.mapM (Arg.slot ρ)).bind (order ps ks) with
    | some args => finish as (cal f args) ρ
    | none => none
  else none
def asStr (s : String) : List Nat := (Str.ofString s).cps.toList
def ownAt (i : Nat) (ρ : Ro) : Option Val := match ρ[i]? with
  | some (.ow v) => some v
  | _ => none
def newArg (r : Slot) (ρ : Ro) : Res Arg := match r with
  | .ow v => pur (.nw v) ρ
  | _ => none
def Arg.isObj (ρ : Ro) (c m : String) : Arg → Bool
  | .io i => (match ownAt i ρ with
    | some (.obj c' fs) => c' == c && (fs.lookup m).isNone
    | _ => false)
  | .va (.obj c' fs) => c' == c && (fs.lookup m).isNone
  | _ => false
def Arg.isPln : Arg → Bool
  | .va v => (match v with
    | .non => true | .bl _ => true | .int _ => true | .str _ => true | .lst _ => true | .tup _ => true | .dct _ => true
    | _ => false)
  | _ => false
def argOf (io : Bool) (e : Ex) (m : Ro → Res Slot) (ρ : Ro) : Res Arg :=
  if io then (match e with
    | .v i => if (ownAt i ρ).isSome then pur (.io i) ρ else none
    | _ => bnd (m ρ) newArg)
  else bnd (m ρ) fun r ρ1 => bnd (fixv r ρ1) fun v ρ2 => pur (.va v) ρ2
def mkEnd (m : Res Slot) (ρ : Ro) : Res Slot := match m with
  | some (.ok (.fz .non) (.ow (.obj c fs) :: _)) => pur (.ow (.obj c fs)) ρ
  | some (.ex e _) => some (.ex e ρ)
  | _ => none
def byName (ps ks : List String) (vs : List Val) : Option (List Val) := ps.mapM fun p => (ks.zip vs).lookup p
def kwEnd (m : Res Slot) (ρ : Ro) : Res Slot := match m with
  | some (.ok r _) => some (.ok r ρ)
  | some (.ex e _) => some (.ex e ρ)
  | none => none
def isCls (c : String) : Option Slot → Bool
  | some (.fz (.cls c')) => c' == c
  | _ => false
def lenEnd (r : Slot) (ρ : Ro) : Res Slot := match r with
  | .fz (.int n) => if 0 ≤ n ∧ n < 2 ^ 63 then pur (.fz (.int n)) ρ else none
  | _ => none
def spEnd (m : String) (ne : Bool) (r : Slot) (ρ : Ro) : Res Slot := match r with
  | .fz (.str l) => if m = "__str__" then pur (.fz (.str l)) ρ else none
  | .fz (.bl b) => if m = "__str__" then none else pur (.fz (.bl (b != ne))) ρ
  | _ => none
def bw : Slot → Slot
  | .ow (.lst vs) => .fz (.lst vs)
  | .ow _ => .un
  | s => s
def smpV : Val → Bool
  | .non => true
  | .bl _ => true
  | .int _ => true
  | .str _ => true
  | _ => false
def smp : Slot → Bool
  | .fz v => smpV v
  | _ => false
def borEnd (ρ : Ro) (m : Res Slot) : Res Slot := match m with
  | some (.ok r _) => if smp r then some (.ok r ρ) else none
  | _ => none
def catEnd (g : Sum Val Exc → Option Slot) (m : Res Val) : Res Slot := match m with
  | some (.ok v ρ) => lift (g (.inl v)) ρ
  | some (.ex e ρ) => lift (g (.inr e)) ρ
  | none => none
def cloEnd (h : Sum Val Exc → Option Slot) (ρ : Ro) (m : Res Slot) : Res Slot := match m with
  | some (.ok (.fz v) _) => lift (h (.inl v)) ρ
  | some (.ok (.ow v) _) => lift (h (.inl v)) ρ
  | some (.ex e _) => lift (h (.inr e)) ρ
  | _ => none
def hdOf (xs : List String) : List Hd → Option Hd
  | [] => none
  | h :: r => if h.cs.any fun c => xs.contains c then some h else hdOf xs r
def hvF (fs : List (String × Val)) : HV → Option Slot
  | .non => some (.fz .non)
  | .bl b => some (.fz (.bl b))
  | .lst s ks => (ks.mapM fun k => fs.lookup k).map fun vs => .ow (.lst (.str (asStr s) :: vs))
def setKs : List String → List Val → Val → Option Val
  | [], [], u => some u
  | k :: ks, x :: xs, u => (setF u (.str (asStr k)) x).bind (setKs ks xs)
  | _, _, _ => none
def spAs (ρ : Ro) (c m : String) : List Arg → Option (List Arg)
  | [a] => if Arg.isObj ρ c m a then some [a] else none
  | [a, b] => if Arg.isObj ρ c m a && (Arg.isPln b || Arg.isObj ρ c m b) then some [a, b] else if Arg.isPln a && Arg.isObj ρ c m b then some [b, a] else none
  | _ => none
section
variable (T : Tab) (cal mkc : Cal)
mutual
def evE : Ex → Ro → Res Slot
  | .v i, ρ => slotAt i ρ
  | .g x, ρ => match T.cst x with
    | some v => pur (.fz v) ρ
    | none => none
  | .non, ρ => pur (.fz .non) ρ
  | .bl b, ρ => pur (.fz (.bl b)) ρ
  | .int i, ρ => pur (.fz (.int i)) ρ
  | .str s, ρ => pur (.fz (.str (asStr s))) ρ
  | .tup es, ρ => bnd (evEs es ρ) fun vs ρ' => if vs.length ≤ cap then pur (.fz (.tup vs)) ρ' else none
  | .lst es, ρ => bnd (evEs es ρ) fun vs ρ' => if vs.length ≤ cap then pur (.ow (.lst vs)) ρ' else none
  | .star _, _ => none
  | .bin o a b, ρ => bnd (opnd a (evE a) ρ) fun x ρ1 => bnd (opnd b (evE b) ρ1) fun y ρ2 => lift ((x.val ρ2).bind fun u => (y.val ρ2).bind (binF o u)) ρ2
  | .neg a, ρ => bnd (evE a ρ) fun r ρ1 => match r with
    | .fz (.int i) => pur (.fz (.int (-i))) ρ1
    | _ => none
  | .nt a, ρ => bnd (evE a ρ) fun r ρ1 => bnd (asBool r ρ1) fun b ρ2 => pur (.fz (.bl (!b))) ρ2
  | .and a b, ρ => bnd (evE a ρ) fun r ρ1 => bnd (asBool r ρ1) fun c ρ2 => if c then evE b ρ2 else pur (.fz (.bl false)) ρ2
  | .or a b, ρ => bnd (evE a ρ) fun r ρ1 => bnd (asBool r ρ1) fun c ρ2 => if c then pur (.fz (.bl true)) ρ2 else evE b ρ2
  | .cmp o a b, ρ => bnd (opnd a (evE a) ρ) fun x ρ1 => bnd (opnd b (evE b) ρ1) fun y ρ2 => lift (((x.val ρ2).bind fun u => (y.val ρ2).bind (cmpF o u)).map fun c => .fz (.bl c)) ρ2
  | .chain o p a b c, ρ => bnd (opnd a (evE a) ρ) fun x ρ1 => bnd (opnd b (evE b) ρ1) fun y ρ2 => match (x.val ρ2).bind fun u => (y.val ρ2).bind (cmpF o u) with
    | some true => bnd (opnd c (evE c) ρ2) fun z ρ3 => lift (((y.val ρ3).bind fun u => (z.val ρ3).bind (cmpF p u)).map fun c => .fz (.bl c)) ρ3
    | some false => pur (.fz (.bl false)) ρ2
    | none => none
  | .ite c a b, ρ => bnd (evE c ρ) fun r ρ1 => bnd (asBool r ρ1) fun d ρ2 => if d then evE a ρ2 else evE b ρ2
  | .idx a i, ρ => bnd (opnd a (evE a) ρ) fun x ρ1 => bnd (opnd i (evE i) ρ1) fun y ρ2 => lift (((x.val ρ2).bind fun u => (y.val ρ2).bind (idxF u)).map .fz) ρ2
  | .slc a lo hi, ρ => bnd (opnd a (evE a) ρ) fun x ρ1 => bnd (evOp lo ρ1) fun l ρ2 => bnd (evOp hi ρ2) fun h ρ3 => lift ((x.val ρ3).bind fun u => slcF u l h) ρ3
  | .fld a f, ρ => bnd (opnd a (evE a) ρ) fun x ρ1 => lift (((x.val ρ1).bind fun u => match u with
    | .obj c fs => if T.fld c f then fs.lookup f else none
    | _ => none).map .fz) ρ1
  | .prp c p f a, ρ => bnd (opnd a (evE a) ρ) fun x ρ1 => lift (((x.val ρ1).bind fun u => match u with
    | .obj c' fs => if c' = c ∧ T.prp c p f = true then fs.lookup f else none
    | _ => none).map .fz) ρ1
  | .call f es ks, ρ => match T.fn f with
    | some d => (match ks with
      | [] => bnd (evAs d.io es ρ) fun as ρ1 => callF cal d.ps f [] as ρ1
      | ks => bnd (evEs es ρ) fun vs ρ1 => if vs.length = ks.length then (match byName d.ps ks vs with
        | some ws => kwEnd (cal f (ws.map .fz)) ρ1
        | none => none) else none)
    | none => none
  | .mk c es ks, ρ => match T.fn (c ++ ".__init__") with
    | some d => bnd (evEs es ρ) fun vs ρ1 => (match ks with
      | [] => mkEnd (mkc (c ++ ".__init__") (.ow (.obj c []) :: vs.map .fz)) ρ1
      | ks => if vs.length = ks.length then (match byName (d.ps.drop 1) ks vs with
        | some ws => mkEnd (mkc (c ++ ".__init__") (.ow (.obj c []) :: ws.map .fz)) ρ1
        | none => none) else none)
    | none => none
  | .mth k c m a es, ρ => match T.fn k with
    | some d => bnd (argOf (d.io.getD 0 false) a (evE a) ρ) fun r ρ0 => if !r.isObj ρ0 c m then none else bnd (evAs (d.io.drop 1) es ρ0) fun as ρ1 => callF cal d.ps k [] (r :: as) ρ1
    | none => none
  | .isi a t, ρ => bnd (opnd a (evE a) ρ) fun x ρ1 => lift (((x.val ρ1).bind fun u => isiV T.isc u t).map fun b => .fz (.bl b)) ρ1
  | .blt b es, ρ => match es with
    | [a] => bnd (opnd a (evE a) ρ) fun x ρ1 => lift ((x.val ρ1).bind fun u => bltF b [u]) ρ1
    | es => bnd (evEs es ρ) fun vs ρ1 => lift (bltF b vs) ρ1
  | .bmt a m es, ρ => bnd (opnd a (evE a) ρ) fun x ρ1 => if !((x.val ρ1).map (bmtK m)).getD false then none else bnd (evEs es ρ1) fun vs ρ2 => lift ((x.val ρ2).bind fun u => bmtF u m vs) ρ2
  | .lrg e, ρ => bnd (evE e ρ) fun r ρ1 => bnd (fixv r ρ1) fun v ρ2 => lift ((rngF [v]).map fun xs => .ow (.lst xs)) ρ2
  | .lc ns t it c e, ρ => bnd (evIt it ρ) fun xs ρ1 => if xs.length ≤ cap ∧ clean ns ρ1 = true then
      bnd (quiet (lcLoop (fun ρ => bnd (evC c ρ) fun b ρ' => if b then bnd (evE e ρ') fun r ρ2 => bnd (fixv r ρ2) fun v ρ3 => pur (some v) ρ3 else pur none ρ') t ns xs (wipeR ρ1 ns))) fun ys ρ2 => pur (.ow (.lst ys)) (unwipe ns ρ1 ρ2)
    else none
  | .lc2 ns t it ns1 t1 it1 e, ρ => bnd (evIt it ρ) fun xs ρ1 => if clean ns ρ1 = true ∧ ns1.all (fun i => ns.contains i) = true then
      bnd (quiet (lc2Loop (fun ρ => bnd (evIt it1 ρ) fun ys ρ2 => lcLoop (fun ρ => bnd (evE e ρ) fun r ρ2 => bnd (fixv r ρ2) fun v ρ3 => pur (some v) ρ3) t1 ns1 ys (wipeR ρ2 ns1)) t ns xs (wipeR ρ1 ns))) fun ys ρ2 => if ys.length ≤ cap then pur (.ow (.lst ys)) (unwipe ns ρ1 ρ2) else none
    else none
  | .dc ns t it k e, ρ => bnd (evIt it ρ) fun xs ρ1 => if xs.length ≤ cap ∧ clean ns ρ1 = true then
      bnd (quiet (dcLoop (fun ρ => bnd (evE k ρ) fun r ρ2 => bnd (fixv r ρ2) fun a ρ3 => bnd (evE e ρ3) fun q ρ4 => bnd (fixv q ρ4) fun v ρ5 => pur (a, v) ρ5) t ns xs (wipeR ρ1 ns) [])) fun ys ρ2 => pur (.ow (.dct ys)) (unwipe ns ρ1 ρ2)
    else none
  | .dct ks es, ρ => match ks, es with
    | [], [] => pur (.ow (.dct [])) ρ
    | [k], [e] => bnd (evE k ρ) fun r ρ1 => bnd (fixv r ρ1) fun a ρ2 => bnd (evE e ρ2) fun q ρ3 => bnd (fixv q ρ3) fun v ρ4 => if dkey a then pur (.ow (.dct [(a, v)])) ρ4 else none
    | _, _ => none
  | .ln f c es, ρ => match T.fn f with
    | some d => bnd (evAs d.io es ρ) fun as ρ1 => if !(as.all (Arg.isObj ρ1 c "__len__")) then none else bnd (callF mkc d.ps f [] as ρ1) lenEnd
    | none => none
  | .tzp a b, ρ => bnd (evE a ρ) fun r ρ1 => bnd (fixv r ρ1) fun u ρ2 => bnd (evE b ρ2) fun q ρ3 => bnd (fixv q ρ3) fun w ρ4 => lift (tzpF u w) ρ4
  | .lzp a b, ρ => bnd (evE a ρ) fun r ρ1 => bnd (fixv r ρ1) fun u ρ2 => bnd (evE b ρ2) fun q ρ3 => bnd (fixv q ρ3) fun w ρ4 => lift (lzpF u w) ρ4
  | .dcl e, ρ => bnd (evE e ρ) fun r ρ1 => bnd (fixv r ρ1) fun v ρ2 => lift (dclF v) ρ2
  | .rev a, ρ => bnd (opnd a (evE a) ρ) fun x ρ1 => lift ((x.val ρ1).bind revF) ρ1
  | .dct2 k e k2 e2, ρ => bnd (evE k ρ) fun r ρ1 => bnd (fixv r ρ1) fun a ρ2 => bnd (evE e ρ2) fun q ρ3 => bnd (fixv q ρ3) fun v ρ4 => bnd (evE k2 ρ4) fun r2 ρ5 => bnd (fixv r2 ρ5) fun b ρ6 => bnd (evE e2 ρ6) fun q2 ρ7 => bnd (fixv q2 ρ7) fun w ρ8 => if keyOk a && keyOk b then pur (.ow (.dct (put [(a, v)] b w))) ρ8 else none
  | .sp f c m ne es, ρ => match T.fn f with
    | some d => bnd (evAs d.io es ρ) fun as ρ1 => (match spAs ρ1 c m as with
      | some bs => bnd (quiet (callF mkc d.ps f [] bs ρ1)) (spEnd m ne)
      | none => none)
    | none => none
  | .cm f c es ks, ρ => match T.fn f with
    | some d => bnd (evEs es ρ) fun vs ρ1 => (match ks with
      | [] => kwEnd (cal f (.fz (.cls c) :: vs.map .fz)) ρ1
      | ks => if vs.length = ks.length then (match byName (d.ps.drop 1) ks vs with
        | some ws => kwEnd (cal f (.fz (.cls c) :: ws.map .fz)) ρ1
        | none => none) else none)
    | none => none
  | .mkv i c es, ρ => if isCls c (ρ[i]?) then (match T.fn (c ++ ".__init__") with
    | some _ => bnd (evEs es ρ) fun vs ρ1 => mkEnd (mkc (c ++ ".__init__") (.ow (.obj c []) :: vs.map .fz)) ρ1
    | none => none) else none
  | .prim p es, ρ => match T.prm p with
    | some g => bnd (evEs es ρ) fun vs ρ1 => lift (g vs) ρ1
    | none => none
  | .pg f c m a, ρ => match T.fn f with
    | some d => bnd (argOf (d.io.getD 0 false) a (evE a) ρ) fun r ρ1 => if !r.isObj ρ1 c m then none else bnd (quiet (callF mkc d.ps f [] [r] ρ1)) pur
    | none => none
  | .thk g e, ρ => match T.cat g with
    | some h => catEnd h (bnd (evE e ρ) fixv)
    | none => none
  | .bor e, ρ => borEnd ρ (evE e (ρ.map bw))
  | .ide ne c i j, ρ => if isObjAt c (ρ[i]?) && isObjAt c (ρ[j]?) then pur (.fz (.bl ((i == j) != ne))) ρ else none
  | .idv c i e, ρ => if isObjAt c (ρ[i]?) then bnd (bnd (evE e ρ) fixv) fun v ρ1 => if isStrV v && isObjAt c (ρ1[i]?) then pur (.fz (.bl false)) ρ1 else none else none
  | .cap g i, ρ => match ρ[i]? with
    | some (.fz (.clo L vs)) => (match T.cat g with
      | some h => if noClos vs then cloEnd h ρ (cal L.nm (vs.map .fz)) else none
      | none => none)
    | _ => none
  | .app e, ρ => bnd (evE e ρ) fun r ρ1 => bnd (fixv r ρ1) fun v ρ2 => match v with
    | .clo L vs => if noClos vs then kwEnd (cal L.nm (vs.map .fz)) ρ2 else none
    | _ => none
def evOp : Option Ex → Ro → Res (Option Int)
  | none, ρ => pur none ρ
  | some e, ρ => bnd (evE e ρ) fun r ρ1 => match r with
    | .fz (.int i) => pur (some i) ρ1
    | _ => none
def evC : Option Ex → Ro → Res Bool
  | none, ρ => pur true ρ
  | some e, ρ => bnd (evE e ρ) asBool
def evEs : List Ex → Ro → Res (List Val)
  | [], ρ => pur [] ρ
  | e :: r, ρ => match e with
    | .star a => bnd (evE a ρ) fun q ρ1 => bnd (fixv q ρ1) fun v ρ2 => match v with
      | .lst xs => bnd (evEs r ρ2) fun vs ρ3 => pur (xs ++ vs) ρ3
      | .tup xs => bnd (evEs r ρ2) fun vs ρ3 => pur (xs ++ vs) ρ3
      | _ => none
    | e => bnd (evE e ρ) fun q ρ1 => bnd (fixv q ρ1) fun v ρ2 => bnd (evEs r ρ2) fun vs ρ3 => pur (v :: vs) ρ3
def evAs : List Bool → List Ex → Ro → Res (List Arg)
  | _, [], ρ => pur [] ρ
  | io, e :: r, ρ => bnd (argOf (io.getD 0 false) e (evE e) ρ) fun a ρ1 => if a.isN && !r.isEmpty then none else bnd (evAs (io.drop 1) r ρ1) fun as ρ2 => pur (a :: as) ρ2
def evIt : Iter → Ro → Res (List Val)
  | .seq e, ρ => bnd (evE e ρ) fun r ρ1 => bnd (fixv r ρ1) fun v ρ2 => lift (itemsF v) ρ2
  | .rng e, ρ => bnd (evE e ρ) fun r ρ1 => bnd (fixv r ρ1) fun v ρ2 => lift (rngF [v]) ρ2
  | .rng2 a b, ρ => bnd (evE a ρ) fun r ρ1 => bnd (fixv r ρ1) fun u ρ2 => bnd (evE b ρ2) fun q ρ3 => bnd (fixv q ρ3) fun w ρ4 => lift (rngF [u, w]) ρ4
  | .rng3 a b c, ρ => bnd (evE a ρ) fun r ρ1 => bnd (fixv r ρ1) fun u ρ2 => bnd (evE b ρ2) fun q ρ3 => bnd (fixv q ρ3) fun w ρ4 => bnd (evE c ρ4) fun s ρ5 => bnd (fixv s ρ5) fun z ρ6 => lift (rngF [u, w, z]) ρ6
  | .enum e, ρ => bnd (evE e ρ) fun r ρ1 => bnd (fixv r ρ1) fun v ρ2 => lift ((seqOf v).map (enumL 0)) ρ2
  | .zip a b, ρ => bnd (evE a ρ) fun r ρ1 => bnd (fixv r ρ1) fun u ρ2 => bnd (evE b ρ2) fun q ρ3 => bnd (fixv q ρ3) fun w ρ4 => lift ((seqOf u).bind fun xs => (seqOf w).map (zipL xs)) ρ4
  | .items e, ρ => bnd (evE e ρ) fun r ρ1 => bnd (fixv r ρ1) fun v ρ2 => lift (itmF v) ρ2
end
inductive Fl where
  | nx | rt (r : Slot)
def forF (body : Ro → Res Fl) (t : Tg) : List Val → Ro → Res Fl
  | [], ρ => pur .nx ρ
  | x :: r, ρ => match assn t (.fz x) ρ with
    | some ρ1 => bnd (body ρ1) fun f ρ2 => (match f with
      | .nx => forF body t r ρ2
      | .rt q => pur (.rt q) ρ2)
    | none => none
def whlF (test : Ro → Res Bool) (body : Ro → Res Fl) : Nat → Ro → Res Fl
  | 0, _ => none
  | n + 1, ρ => bnd (test ρ) fun b ρ1 => if b then bnd (body ρ1) fun f ρ2 => (match f with
      | .nx => whlF test body n ρ2
      | .rt q => pur (.rt q) ρ2) else pur .nx ρ1
def trhEnd (xc : String → List String) (hs : List Hd) (m : Res Fl) : Res Fl := match m with
  | some (.ex e ρ) => if (xc e.c).isEmpty then none else (match hdOf (xc e.c) hs with
    | none => some (.ex ⟨e.c, e.fs, true⟩ ρ)
    | some h => (match h.b with
      | .ret v => (match hvF e.fs v with
        | some r => pur (.rt r) ρ
        | none => none)
      | .rai c f i => if e.pr then none else (match ρ[i]? with
        | some (.fz v) => some (.ex ⟨c, [(f, v)], true⟩ ρ)
        | _ => none)))
  | o => o
def fuel : Nat := 1000000
def evSl : List Ex → Ro → Res (List Slot)
  | [], ρ => pur [] ρ
  | e :: r, ρ => bnd (evE T cal mkc e ρ) fun q ρ1 => bnd (evSl r ρ1) fun qs ρ2 => pur (q :: qs) ρ2
def setAll : List Nat → List Slot → Ro → Option Ro
  | [], [], ρ => some ρ
  | i :: is, r :: rs, ρ => if i < ρ.length then setAll is rs (ρ.set i r) else none
  | _, _, _ => none
mutual
def evS : Sx → Ro → Res Fl
  | .pass, ρ => pur .nx ρ
  | .asg t e, ρ => bnd (evE T cal mkc e ρ) fun r ρ1 => match t with
    | .nm i => (match assn (.nm i) r ρ1 with
      | some ρ2 => pur .nx ρ2
      | none => none)
    | t => bnd (fixv r ρ1) fun v ρ2 => (match assn t (.fz v) ρ2 with
      | some ρ3 => pur .nx ρ3
      | none => none)
  | .par is es, ρ => bnd (evSl T cal mkc es ρ) fun rs ρ1 => match setAll is rs ρ1 with
    | some ρ2 => pur .nx ρ2
    | none => none
  | .aug i e, ρ => if !((ρ[i]?).bind Slot.val).isSome then none else bnd (opnd e (evE T cal mkc e) ρ) fun y ρ1 => match ((ρ1[i]?).bind Slot.val).bind fun u => (y.val ρ1).bind (binF .add u) with
    | some (.fz (.int n)) => pur .nx (ρ1.set i (.fz (.int n)))
    | some (.fz (.str l)) => pur .nx (ρ1.set i (.fz (.str l)))
    | _ => none
  | .sub i k e, ρ => bnd (evE T cal mkc e ρ) fun r ρ1 => bnd (fixv r ρ1) fun x ρ2 => if !(ownAt i ρ2).isSome then none else bnd (opnd k (evE T cal mkc k) ρ2) fun y ρ3 =>
      match (ownAt i ρ3).bind fun u => (y.val ρ3).bind fun w => setF u w x with
      | some v => pur .nx (ρ3.set i (.ow v))
      | none => none
  | .subp i k j e, ρ => bnd (evE T cal mkc e ρ) fun r ρ1 => match r with
    | .fz (.tup [x, y]) => if !(ownAt i ρ1).isSome then none else bnd (opnd k (evE T cal mkc k) ρ1) fun z ρ2 => (match (ownAt i ρ2).bind fun u => (z.val ρ2).bind fun w => setF u w x with
      | some v => if j < ρ2.length ∧ i ≠ j then pur .nx ((ρ2.set i (.ow v)).set j (.fz y)) else none
      | none => none)
    | _ => none
  | .mut i m es, ρ => if !((ownAt i ρ).map (mutK m)).getD false then none else bnd (evEs T cal mkc es ρ) fun vs ρ1 => match (ownAt i ρ1).bind fun u => mutF m u vs with
    | some v => pur .nx (ρ1.set i (.ow v))
    | none => none
  | .setf i f e, ρ => bnd (evE T cal mkc e ρ) fun r ρ1 => bnd (fixv r ρ1) fun x ρ2 => match ownAt i ρ2 with
    | some (.obj c fs) => if fs.length < 20 ∧ T.fld c f = true then pur .nx (ρ2.set i (.ow (.obj c (putFs f x fs)))) else none
    | _ => none
  | .expr e, ρ => bnd (evE T cal mkc e ρ) fun _ ρ1 => pur .nx ρ1
  | .ret e, ρ => match e with
    | .v i => (match ρ[i]? with
      | some (.ow v) => pur (.rt (.ow v)) (ρ.set i .un)
      | some (.fz v) => pur (.rt (.fz v)) ρ
      | _ => none)
    | e => bnd (evE T cal mkc e ρ) fun r ρ1 => pur (.rt r) ρ1
  | .retN, ρ => pur (.rt (.fz .non)) ρ
  | .ife c a b, ρ => bnd (evE T cal mkc c ρ) fun r ρ1 => bnd (asBool r ρ1) fun d ρ2 => if d then evSs a ρ2 else evSs b ρ2
  | .whl c a, ρ => whlF (fun ρ => bnd (evE T cal mkc c ρ) asBool) (evSs a) fuel ρ
  | .for_ t it a, ρ => bnd (evIt T cal mkc it ρ) fun xs ρ1 => if xs.length ≤ cap then forF (evSs a) t xs ρ1 else none
  | .tri a cs n b, ρ => quiet (evSs a ρ)
  | .trh a hs, ρ => trhEnd T.xc hs (evSs a ρ)
  | .rai c fs es, ρ => bnd (evEs T cal mkc es ρ) fun vs ρ1 => if vs.length = fs.length then some (.ex ⟨c, fs.zip vs, false⟩ ρ1) else none
  | .hd i j e, ρ => bnd (evE T cal mkc e ρ) fun r ρ1 => bnd (fixv r ρ1) fun v ρ2 => match v with
    | .lst (x :: xs) => if i < ρ2.length ∧ j < ρ2.length ∧ i ≠ j then pur .nx ((ρ2.set i (.fz x)).set j (.ow (.lst xs))) else none
    | _ => none
  | .subs i ks e, ρ => bnd (evE T cal mkc e ρ) fun r ρ1 => bnd (fixv r ρ1) fun v ρ2 => match v with
    | .tup xs => (match (ownAt i ρ2).bind (setKs ks xs) with
      | some u => pur .nx (ρ2.set i (.ow u))
      | none => none)
    | _ => none
def evSs : List Sx → Ro → Res Fl
  | [], ρ => pur .nx ρ
  | s :: r, ρ => bnd (evS s ρ) fun f ρ1 => (match f with
    | .nx => evSs r ρ1
    | .rt q => pur (.rt q) ρ1)
end
end
def sameKind : List Slot → List Bool → Bool
  | [], _ => true
  | .fz _ :: r, io => !io.getD 0 false && sameKind r (io.drop 1)
  | .ow _ :: r, io => io.getD 0 false && sameKind r (io.drop 1)
  | .un :: _, _ => false
def keptIo : List Slot → List Slot → Bool
  | [], _ => true
  | .ow _ :: r, .ow _ :: s => keptIo r s
  | .fz _ :: r, _ :: s => keptIo r s
  | _ :: _, _ => false
def endF (args : List Slot) (n : Nat) (m : Res Fl) : Res Slot := match m with
  | some (.ok (.rt r) ρ) => if keptIo args (ρ.take n) then some (.ok r (ρ.take n)) else none
  | some (.ok .nx ρ) => if keptIo args (ρ.take n) then some (.ok (.fz .non) (ρ.take n)) else none
  | some (.ex e ρ) => if keptIo args (ρ.take n) then some (.ex e (ρ.take n)) else none
  | none => none
def evB (T : Tab) (cal mkc : Cal) : Cal := fun f args => match T.ext f with
  | some g => (match g args with
    | some (r, fin) => some (.ok r fin)
    | none => none)
  | none => match T.fn f with
    | none => none
    | some d => if args.length = d.ps.length ∧ d.ps.length ≤ d.n ∧ sameKind args d.io = true then endF args d.ps.length (evSs T cal mkc d.body (args ++ List.replicate (d.n - d.ps.length) .un)) else none
def ev2 (T : Tab) : Nat → Cal × Cal
  | 0 => (fun _ _ => none, fun _ _ => none)
  | k + 1 => (evB T (ev2 T k).1 (ev2 T k).2, (ev2 T k).1)
def evF (T : Tab) (k : Nat) : Cal := (ev2 T k).1
end EV
namespace EV
open PySem
def lamNames : List Str := []
end EV
namespace EV
open PySem PySem.Spec PyProof.Rows L2 GH
def codeTab (K : PySem.W.Frag) (f : Addr) : Option Addr := match K.lookup f with
  | some ⟨_, _, .func fd, _⟩ => (match fd.code with
    | .ref c => (match K.lookup c with
      | some ⟨_, _, .fields vs, _⟩ => (match (vs[11]? : Option Value) with
        | some (Value.ref P) => some P
        | _ => none)
      | _ => none)
    | _ => none)
  | _ => none
end EV
namespace EV
open PySem PySem.Spec PyProof.Rows L2
abbrev Ex' (F H : Hp) : Prop := ∀ a o, F a = some o → H a = some o
theorem Ex'.refl (H : Hp) : Ex' H H := fun _ _ h => h
theorem Ex'.trans {A B C : Hp} (a : Ex' A B) (b : Ex' B C) : Ex' A C := fun x o h => b x o (a x o h)
theorem Ex'.new {H : Hp} {p : Addr} {o : HO} (h : H p = none) : Ex' H (upd H p o) := fun a u e => by
  rw [upd_ne (ne_of_none e h)]; exact e
theorem Ex'.sqL {K : PySem.W.Frag} {F H : Hp} {a : Addr} {xs : List V} (e : Ex' F H) (h : SqL K F a xs) : SqL K H a xs := by
  rcases h with (h | ⟨o, h⟩) | h
  · exact .inl (.inl (e _ _ h))
  · exact .inl (.inr ⟨o, e _ _ h⟩)
  · exact .inr h
theorem Ex'.sqT {K : PySem.W.Frag} {F H : Hp} {a : Addr} {xs : List V} (e : Ex' F H) (h : SqT K F a xs) : SqT K H a xs := by
  rcases h with (h | ⟨o, h⟩) | h
  · exact .inl (.inl (e _ _ h))
  · exact .inl (.inr ⟨o, e _ _ h⟩)
  · exact .inr h
theorem Ex'.rd {F H : Hp} {a : Addr} {u : HO} (e : Ex' F H) (h : Rd F a u) : Rd H a u := by
  rcases h with h | ⟨o, h⟩
  · exact .inl (e _ _ h)
  · exact .inr ⟨o, e _ _ h⟩
def toS (l : List Nat) : Str := ⟨l.toArray⟩
def keyV : Key → Val
  | .inl i => .int i
  | .inr x => .str x.cps.toList
def ObO (a : Addr) (o : Obj) : HO := .ext fun h => h.get? a = some o
structure CellsF (F : Hp) (ps : List Str) (cs : List (Str × Addr)) (xs : List V) : Prop where
  len : xs.length = ps.length
  at_ : ∀ (i : Nat) (y : Str) (x : V), ps[i]? = some y → xs[i]? = some x → ∃ (c : Addr) (o : Obj) (u : Value), cs.lookup y = some c ∧ F c = some (ObO c o) ∧ o.data = .cell (some u) ∧ RelV x u
  dom : ∀ p ∈ cs, ∃ (o : Obj) (v : Option Value), F p.2 = some (ObO p.2 o) ∧ o.data = .cell v
  inj : ∀ (x y : Str) (c : Addr), cs.lookup x = some c → cs.lookup y = some c → x = y
def CloF (F : Hp) (a : Addr) (L : LamD) (xs : List V) : Prop := ∃ (c' : Addr) (o : Obj) (cs : List (Str × Addr)) (pm ctv : Value), F a = some (ObO a o) ∧ o = PySem.W.kla_obj "<lambda>" L.qual L.params L.body L.scope cs pm c' ctv ∧ F c' = some (LamX.CodeO c' L.qual) ∧ CellsF F L.ps cs xs
theorem CellsF.ext {F F' : Hp} {ps : List Str} {cs : List (Str × Addr)} {xs : List V} (c : CellsF F ps cs xs) (e : Ex' F F') : CellsF F' ps cs xs :=
  ⟨c.len, fun i y x h1 h2 => by
    obtain ⟨a, o, u, q1, q2, q3, q4⟩ := c.at_ i y x h1 h2
    exact ⟨a, o, u, q1, e _ _ q2, q3, q4⟩, fun p hp => by
    obtain ⟨o, v, q1, q2⟩ := c.dom p hp
    exact ⟨o, v, e _ _ q1, q2⟩, c.inj⟩
theorem CloF.ext {F F' : Hp} {a : Addr} {L : LamD} {xs : List V} (c : CloF F a L xs) (e : Ex' F F') : CloF F' a L xs := by
  obtain ⟨c', o, cs, pm, ctv, h1, h2, h3, h4⟩ := c
  exact ⟨c', o, cs, pm, ctv, e _ _ h1, h2, e _ _ h3, h4.ext e⟩
mutual
inductive Rep (K : PySem.W.Frag) (mg : Str → Option Value) (F : Hp) : V → Val → Prop
  | non : Rep K mg F .non .non
  | bl (b : Bool) : Rep K mg F (.bl b) (.bl b)
  | int (i : Int) : Rep K mg F (.int i) (.int i)
  | str (l : List Nat) : Rep K mg F (.str (toS l)) (.str l)
  | lst {a : Addr} {xs : List V} {vs : List Val} : F a = some (.lst xs) → Reps K mg F xs vs → Rep K mg F (.ref a) (.lst vs)
  | scr {a : Addr} {ns : List Int} : SqL K F a (ns.map V.int) → Rep K mg F (.ref a) (.scr ns)
  | tup {a : Addr} {xs : List V} {vs : List Val} : F a = some (.tup xs) → Reps K mg F xs vs → Rep K mg F (.ref a) (.tup vs)
  | wtp {a : Addr} {zs : List (List Nat)} : GH.SqK K a (zs.map fun l => V.str (toS l)) → Rep K mg F (.ref a) (.wtp zs)
  | cls (c : String) : Rep K mg F (.ref (GH.clsA mg (Str.ofString c))) (.cls c)
  | dk {a : Addr} {o : Obj} {ks : List (Key × V)} {kvs : List (Val × Val)} : F a = some (.frz o (.dK ks)) → RepK K mg F ks kvs → Rep K mg F (.ref a) (.dct kvs)
  | dt {a : Addr} {o : Obj} {ks : List (List Key × V)} {kvs : List (Val × Val)} : F a = some (.frz o (.dT ks)) → RepT K mg F ks kvs → Rep K mg F (.ref a) (.dct kvs)
  | obj {a dx : Addr} {c : String} {xs : List (Str × V)} {fs : List (String × Val)} : F a = some (.ins (GH.clsA mg (Str.ofString c)) dx xs) → RepF K mg F xs fs → Rep K mg F (.ref a) (.obj c fs)
  | clo {a : Addr} {L : LamD} {xs : List V} {vs : List Val} : CloF F a L xs → Reps K mg F xs vs → Rep K mg F (.ref a) (.clo L vs)
  | exo {a dx : Addr} {c : String} {xs : List (Str × V)} {fs : List (String × Val)} : F a = some (exo a (GH.clsA mg (Str.ofString c)) (some dx)) → F dx = some (exd dx xs) → RepF K mg F xs fs → Rep K mg F (.ref a) (.exo c fs)
  | exo0 {a : Addr} {c : String} : F a = some (exo a (GH.clsA mg (Str.ofString c)) none) → Rep K mg F (.ref a) (.exo c [])
inductive Reps (K : PySem.W.Frag) (mg : Str → Option Value) (F : Hp) : List V → List Val → Prop
  | nil : Reps K mg F [] []
  | cons {x : V} {xs : List V} {v : Val} {vs : List Val} : Rep K mg F x v → Reps K mg F xs vs → Reps K mg F (x :: xs) (v :: vs)
inductive RepK (K : PySem.W.Frag) (mg : Str → Option Value) (F : Hp) : List (Key × V) → List (Val × Val) → Prop
  | nil : RepK K mg F [] []
  | cons {k : Key} {x : V} {ks : List (Key × V)} {v : Val} {kvs : List (Val × Val)} : Rep K mg F x v → RepK K mg F ks kvs → RepK K mg F ((k, x) :: ks) ((keyV k, v) :: kvs)
inductive RepT (K : PySem.W.Frag) (mg : Str → Option Value) (F : Hp) : List (List Key × V) → List (Val × Val) → Prop
  | nil : RepT K mg F [] []
  | cons {k : List Key} {x : V} {ks : List (List Key × V)} {v : Val} {kvs : List (Val × Val)} : Rep K mg F x v → RepT K mg F ks kvs → RepT K mg F ((k, x) :: ks) ((.tup (k.map keyV), v) :: kvs)
inductive RepF (K : PySem.W.Frag) (mg : Str → Option Value) (F : Hp) : List (Str × V) → List (String × Val) → Prop
  | nil : RepF K mg F [] []
  | cons {f : String} {x : V} {xs : List (Str × V)} {v : Val} {fs : List (String × Val)} : Rep K mg F x v → RepF K mg F xs fs → RepF K mg F ((Str.ofString f, x) :: xs) ((f, v) :: fs)
end
section
variable {K : PySem.W.Frag} {mg : Str → Option Value} {F F' H : Hp}
mutual
theorem Rep.mono (e : Ex' F F') : ∀ {x : V} {v : Val}, Rep K mg F x v → Rep K mg F' x v
  | _, _, .non => .non
  | _, _, .bl b => .bl b
  | _, _, .int i => .int i
  | _, _, .str l => .str l
  | _, _, .lst s r => .lst (e _ _ s) (Reps.mono e r)
  | _, _, .scr s => .scr (e.sqL s)
  | _, _, .tup s r => .tup (e _ _ s) (Reps.mono e r)
  | _, _, .wtp s => .wtp s
  | _, _, .cls c => .cls c
  | _, _, .dk s r => .dk (e _ _ s) (RepK.mono e r)
  | _, _, .dt s r => .dt (e _ _ s) (RepT.mono e r)
  | _, _, .obj s r => .obj (e _ _ s) (RepF.mono e r)
  | _, _, .clo s r => .clo (s.ext e) (Reps.mono e r)
  | _, _, .exo s d r => .exo (e _ _ s) (e _ _ d) (RepF.mono e r)
  | _, _, .exo0 s => .exo0 (e _ _ s)
theorem Reps.mono (e : Ex' F F') : ∀ {xs : List V} {vs : List Val}, Reps K mg F xs vs → Reps K mg F' xs vs
  | _, _, .nil => .nil
  | _, _, .cons a b => .cons (Rep.mono e a) (Reps.mono e b)
theorem RepK.mono (e : Ex' F F') : ∀ {xs : List (Key × V)} {vs : List (Val × Val)}, RepK K mg F xs vs → RepK K mg F' xs vs
  | _, _, .nil => .nil
  | _, _, .cons a b => .cons (Rep.mono e a) (RepK.mono e b)
theorem RepT.mono (e : Ex' F F') : ∀ {xs : List (List Key × V)} {vs : List (Val × Val)}, RepT K mg F xs vs → RepT K mg F' xs vs
  | _, _, .nil => .nil
  | _, _, .cons a b => .cons (Rep.mono e a) (RepT.mono e b)
theorem RepF.mono (e : Ex' F F') : ∀ {xs : List (Str × V)} {vs : List (String × Val)}, RepF K mg F xs vs → RepF K mg F' xs vs
  | _, _, .nil => .nil
  | _, _, .cons a b => .cons (Rep.mono e a) (RepF.mono e b)
end
theorem Reps.length : ∀ {xs : List V} {vs : List Val}, Reps K mg F xs vs → xs.length = vs.length
  | _, _, .nil => rfl
  | _, _, .cons _ b => by simp [Reps.length b]
theorem Reps.get : ∀ {xs : List V} {vs : List Val} {i : Nat} {v : Val}, Reps K mg F xs vs → vs[i]? = some v → ∃ x, xs[i]? = some x ∧ Rep K mg F x v
  | _, _, _, _, .nil, e => by simp at e
  | _, _, 0, _, .cons a _, e => by simp at e; subst e; exact ⟨_, rfl, a⟩
  | _, _, i + 1, v, .cons _ b, e => by
    obtain ⟨x, h1, h2⟩ := Reps.get (i := i) (v := v) b (by simpa using e)
    exact ⟨x, by simpa using h1, h2⟩
theorem Reps.app : ∀ {xs ys : List V} {vs ws : List Val}, Reps K mg F xs vs → Reps K mg F ys ws → Reps K mg F (xs ++ ys) (vs ++ ws)
  | _, _, _, _, .nil, b => b
  | _, _, _, _, .cons a r, b => .cons a (Reps.app r b)
theorem Reps.take : ∀ {xs : List V} {vs : List Val} (n : Nat), Reps K mg F xs vs → Reps K mg F (xs.take n) (vs.take n)
  | _, _, 0, _ => .nil
  | _, _, _ + 1, .nil => .nil
  | _, _, n + 1, .cons a r => .cons a (Reps.take n r)
theorem Reps.drop : ∀ {xs : List V} {vs : List Val} (n : Nat), Reps K mg F xs vs → Reps K mg F (xs.drop n) (vs.drop n)
  | _, _, 0, r => r
  | _, _, _ + 1, .nil => .nil
  | _, _, n + 1, .cons a r => Reps.drop n r
theorem Reps.set : ∀ {xs : List V} {vs : List Val} (n : Nat) {x : V} {v : Val}, Reps K mg F xs vs → Rep K mg F x v → Reps K mg F (xs.set n x) (vs.set n v)
  | _, _, _, _, _, .nil, _ => .nil
  | _, _, 0, _, _, .cons a r, q => .cons q r
  | _, _, n + 1, _, _, .cons a r, q => .cons a (Reps.set n r q)
inductive RepB (K : PySem.W.Frag) (mg : Str → Option Value) (F H : Hp) : V → Val → Prop
  | non : RepB K mg F H .non .non
  | bl (b : Bool) : RepB K mg F H (.bl b) (.bl b)
  | int (i : Int) : RepB K mg F H (.int i) (.int i)
  | str (l : List Nat) : RepB K mg F H (.str (toS l)) (.str l)
  | lst {a : Addr} {xs : List V} {vs : List Val} : H a = some (.lst xs) → Reps K mg F xs vs → RepB K mg F H (.ref a) (.lst vs)
  | scr {a : Addr} {ns : List Int} : SqL K H a (ns.map V.int) → RepB K mg F H (.ref a) (.scr ns)
  | tup {a : Addr} {xs : List V} {vs : List Val} : F a = some (.tup xs) → Reps K mg F xs vs → RepB K mg F H (.ref a) (.tup vs)
  | wtp {a : Addr} {zs : List (List Nat)} : GH.SqK K a (zs.map fun l => V.str (toS l)) → RepB K mg F H (.ref a) (.wtp zs)
  | cls (c : String) : RepB K mg F H (.ref (GH.clsA mg (Str.ofString c))) (.cls c)
  | dk {a : Addr} {ks : List (Key × V)} {kvs : List (Val × Val)} : Rd H a (.dK ks) → RepK K mg F ks kvs → RepB K mg F H (.ref a) (.dct kvs)
  | dt {a : Addr} {ks : List (List Key × V)} {kvs : List (Val × Val)} : Rd H a (.dT ks) → RepT K mg F ks kvs → RepB K mg F H (.ref a) (.dct kvs)
  | obj {a dx : Addr} {c : String} {xs : List (Str × V)} {fs : List (String × Val)} : H a = some (.ins (GH.clsA mg (Str.ofString c)) dx xs) → RepF K mg F xs fs → RepB K mg F H (.ref a) (.obj c fs)
  | clo {a : Addr} {L : LamD} {xs : List V} {vs : List Val} : CloF F a L xs → Reps K mg F xs vs → RepB K mg F H (.ref a) (.clo L vs)
  | exo {a dx : Addr} {c : String} {xs : List (Str × V)} {fs : List (String × Val)} : F a = some (exo a (GH.clsA mg (Str.ofString c)) (some dx)) → F dx = some (exd dx xs) → RepF K mg F xs fs → RepB K mg F H (.ref a) (.exo c fs)
  | exo0 {a : Addr} {c : String} : F a = some (exo a (GH.clsA mg (Str.ofString c)) none) → RepB K mg F H (.ref a) (.exo c [])
theorem Rep.b (e : Ex' F H) : ∀ {x : V} {v : Val}, Rep K mg F x v → RepB K mg F H x v
  | _, _, .non => .non
  | _, _, .bl b => .bl b
  | _, _, .int i => .int i
  | _, _, .str l => .str l
  | _, _, .lst s r => .lst (e _ _ s) r
  | _, _, .scr s => .scr (e.sqL s)
  | _, _, .tup s r => .tup s r
  | _, _, .wtp s => .wtp s
  | _, _, .cls c => .cls c
  | _, _, .dk s r => .dk (.inr ⟨_, e _ _ s⟩) r
  | _, _, .dt s r => .dt (.inr ⟨_, e _ _ s⟩) r
  | _, _, .obj s r => .obj (e _ _ s) r
  | _, _, .clo s r => .clo s r
  | _, _, .exo s d r => .exo s d r
  | _, _, .exo0 s => .exo0 s
def Imm (o : HO) : Prop := (∃ xs, o = .tup xs) ∨ ∃ φ, o = .ext φ
inductive Own (K : PySem.W.Frag) (mg : Str → Option Value) (F H : Hp) (a : Addr) : Val → Prop
  | lst {xs : List V} {vs : List Val} : F a = none → H a = some (.lst xs) → Reps K mg F xs vs → Own K mg F H a (.lst vs)
  | dk {ks : List (Key × V)} {kvs : List (Val × Val)} : F a = none → H a = some (.dK ks) → RepK K mg F ks kvs → Own K mg F H a (.dct kvs)
  | dt {ks : List (List Key × V)} {kvs : List (Val × Val)} : F a = none → H a = some (.dT ks) → RepT K mg F ks kvs → Own K mg F H a (.dct kvs)
  | obj {dx : Addr} {c : String} {xs : List (Str × V)} {fs : List (String × Val)} : F a = none → H a = some (.ins (GH.clsA mg (Str.ofString c)) dx xs) → RepF K mg F xs fs → Own K mg F H a (.obj c fs)
theorem Own.b {a : Addr} {v : Val} (o : Own K mg F H a v) : RepB K mg F H (.ref a) v := by
  cases o with
  | lst n h r => exact .lst h r
  | dk n h r => exact .dk (.inl h) r
  | dt n h r => exact .dt (.inl h) r
  | obj n h r => exact .obj h r
theorem Own.no {a : Addr} {v : Val} (o : Own K mg F H a v) : F a = none := by
  cases o <;> assumption
theorem Own.imm {a : Addr} {v : Val} (o : Own K mg F H a v) : ∃ u, H a = some u ∧ ¬ Imm u := by
  cases o with
  | lst n h r => exact ⟨_, h, fun z => z.elim (fun ⟨_, z⟩ => by cases z) fun ⟨_, z⟩ => by cases z⟩
  | dk n h r => exact ⟨_, h, fun z => z.elim (fun ⟨_, z⟩ => by cases z) fun ⟨_, z⟩ => by cases z⟩
  | dt n h r => exact ⟨_, h, fun z => z.elim (fun ⟨_, z⟩ => by cases z) fun ⟨_, z⟩ => by cases z⟩
  | obj n h r => exact ⟨_, h, fun z => z.elim (fun ⟨_, z⟩ => by cases z) fun ⟨_, z⟩ => by cases z⟩
theorem Own.at {a : Addr} {v : Val} (o : Own K mg F H a v) : ∃ u, H a = some u ∧ ∀ xs, u ≠ .tup xs := by
  cases o with
  | lst n h r => exact ⟨_, h, fun _ z => by cases z⟩
  | dk n h r => exact ⟨_, h, fun _ z => by cases z⟩
  | dt n h r => exact ⟨_, h, fun _ z => by cases z⟩
  | obj n h r => exact ⟨_, h, fun _ z => by cases z⟩
theorem Own.keep {H' : Hp} {a : Addr} {v : Val} (o : Own K mg F H a v) (e : Ex' F F') (n' : F' a = none) (h' : H' a = H a) : Own K mg F' H' a v := by
  cases o with
  | lst n h r => exact .lst n' (h'.trans h) (r.mono e)
  | dk n h r => exact .dk n' (h'.trans h) (r.mono e)
  | dt n h r => exact .dt n' (h'.trans h) (r.mono e)
  | obj n h r => exact .obj n' (h'.trans h) (r.mono e)
end
def tabsOf (K : PySem.W.Frag) (mg : Str → Option Value) : List (Addr × Str) := lamNames.filterMap fun x => match mg x with
  | some (.ref f) => (codeTab K f).map fun P => (P, x ++ ".<locals>.<lambda>")
  | _ => none
def TBs (K : PySem.W.Frag) (mg : Str → Option Value) (H : Hp) : Prop := LamX.Tabs (tabsOf K mg) H
theorem tbs_nil {K : PySem.W.Frag} {mg : Str → Option Value} {H : Hp} (h : lamNames = []) : TBs K mg H := by
  unfold TBs tabsOf
  rw [h]
  exact fun p hp => nomatch hp
def NoT (F : Hp) : Prop := ∀ a ps, F a ≠ some (.tbl ps)
def Thing (u : HO) : Prop := (∀ ps, u ≠ .tbl ps) ∧ ∀ p, u ≠ .ext p
theorem Own.th {K : PySem.W.Frag} {mg : Str → Option Value} {F H : Hp} {a : Addr} {v : Val} (o : Own K mg F H a v) : ∃ u, H a = some u ∧ Thing u := by
  cases o with
  | lst n h r => exact ⟨_, h, by nofun, by nofun⟩
  | dk n h r => exact ⟨_, h, by nofun, by nofun⟩
  | dt n h r => exact ⟨_, h, by nofun, by nofun⟩
  | obj n h r => exact ⟨_, h, by nofun, by nofun⟩
theorem TBs.up {K : PySem.W.Frag} {mg : Str → Option Value} {H H' : Hp} (t : TBs K mg H) (e : Ex' H H') : TBs K mg H' := LamX.Tabs.ext t e
theorem TBs.wr {K : PySem.W.Frag} {mg : Str → Option Value} {H : Hp} {p : Addr} {o : HO} (t : TBs K mg H) (h : ∃ u, H p = some u ∧ Thing u) : TBs K mg (upd H p o) := by
  obtain ⟨u, hu, h1, h2⟩ := h
  intro q hq
  obtain ⟨ps, t1, t2, t3⟩ := t q hq
  have n1 : q.1 ≠ p := fun z => by rw [z, hu] at t1; exact h1 _ (Option.some.inj t1)
  refine ⟨ps, by rw [upd_ne n1]; exact t1, t2, fun pos cv hc => ?_⟩
  obtain ⟨c, e1, e2⟩ := t3 pos cv hc
  have n2 : c ≠ p := fun z => by rw [z, hu] at e2; exact h2 _ (Option.some.inj e2)
  exact ⟨c, e1, by rw [upd_ne n2]; exact e2⟩
theorem NoT.upd {F : Hp} {p : Addr} {o : HO} (h : NoT F) (ho : ∀ ps, o ≠ .tbl ps) : NoT (upd F p o) := fun a ps z => by
  by_cases ha : a = p
  · subst ha; rw [upd_same] at z; exact ho ps (Option.some.inj z)
  · rw [upd_ne ha] at z; exact h a ps z
def Nw (H : Hp) (a : Addr) : Prop := H a = none ∨ ∃ ps, H a = some (.tbl ps)
theorem Nw.not {H : Hp} {a : Addr} {u : HO} (h : Nw H a) (hu : H a = some u) (ht : ∀ ps, u ≠ .tbl ps) : False := by
  rcases h with h | ⟨ps, h⟩
  · rw [h] at hu; cases hu
  · rw [h] at hu; cases hu; exact ht ps rfl
structure AbsX (K : PySem.W.Frag) (mg : Str → Option Value) (G F H : Hp) : Prop where
  tb : TBs K mg H
  nf : NoT F
  ng : NoT G
structure Abs (K : PySem.W.Frag) (mg : Str → Option Value) (G Z F : Hp) (σ : L2.St) (H : Hp) (ρ : Ro) : Prop where
  sub : Ex' F H
  bg : Ex' G H
  f0 : Ex' Z F
  nw : ∀ a o, F a = some o → Z a = some o ∨ G a = none ∨ Imm o
  len : ρ.length = σ.length
  fz : ∀ (i : Nat) v, ρ[i]? = some (.fz v) → ∃ x, σ[i]? = some (some x) ∧ Rep K mg F x v
  ow : ∀ (i : Nat) v, ρ[i]? = some (.ow v) → ∃ a, σ[i]? = some (some (.ref a)) ∧ G a = none ∧ Own K mg F H a v
  ap : ∀ (i j : Nat) a v w, i ≠ j → ρ[i]? = some (.ow v) → ρ[j]? = some (.ow w) → σ[i]? = some (some (.ref a)) → σ[j]? ≠ some (some (.ref a))
  x : AbsX K mg G F H
def Lone (σ : L2.St) (ρ : Ro) (a : Addr) : Prop := ∀ (i : Nat) w, ρ[i]? = some (.ow w) → σ[i]? ≠ some (some (.ref a))
def ResR (K : PySem.W.Frag) (mg : Str → Option Value) (G F : Hp) (σ : L2.St) (H : Hp) (ρ : Ro) (x : V) : Slot → Prop
  | .fz v => Rep K mg F x v
  | .ow v => ∃ a, x = .ref a ∧ G a = none ∧ Own K mg F H a v ∧ Lone σ ρ a
  | .un => False
section
variable {K : PySem.W.Frag} {mg : Str → Option Value} {G Z F : Hp} {σ : L2.St} {H : Hp} {ρ : Ro}
theorem Abs.newF {p : Addr} {o : HO} (A : Abs K mg G Z F σ H ρ) (h : H p = none) (ho : ∀ ps, o ≠ .tbl ps := by nofun) : Abs K mg G Z (upd F p o) σ (upd H p o) ρ ∧ Ex' F (upd F p o) := by
  have hF : F p = none := by
    cases q : F p with
    | none => rfl
    | some u => rw [A.sub p u q] at h; cases h
  have hG : G p = none := by
    cases q : G p with
    | none => rfl
    | some u => rw [A.bg p u q] at h; cases h
  have e : Ex' F (upd F p o) := Ex'.new hF
  refine ⟨⟨fun a u q => ?_, A.bg.trans (Ex'.new h), A.f0.trans e, fun a u q => ?_, A.len, fun i v q => ?_, fun i v q => ?_, A.ap, A.x.tb.up (Ex'.new h), A.x.nf.upd ho, A.x.ng⟩, e⟩
  · by_cases ha : a = p
    · subst ha; rw [upd_same] at q ⊢; exact q
    · rw [upd_ne ha] at q ⊢; exact A.sub a u q
  · by_cases ha : a = p
    · subst ha; exact .inr (.inl hG)
    · rw [upd_ne ha] at q; exact A.nw a u q
  · obtain ⟨x, h1, h2⟩ := A.fz i v q
    exact ⟨x, h1, h2.mono e⟩
  · obtain ⟨a, h1, h2, h3⟩ := A.ow i v q
    have ha : a ≠ p := fun z => by
      obtain ⟨u, hu, _⟩ := h3.at
      rw [z, h] at hu; cases hu
    exact ⟨a, h1, h2, h3.keep e (by rw [upd_ne ha]; exact h3.no) (upd_ne ha)⟩
theorem Abs.newO {p : Addr} {o : HO} (A : Abs K mg G Z F σ H ρ) (h : H p = none) : Abs K mg G Z F σ (upd H p o) ρ ∧ F p = none ∧ G p = none ∧ Lone σ ρ p := by
  have hF : F p = none := by
    cases q : F p with
    | none => rfl
    | some u => rw [A.sub p u q] at h; cases h
  have hG : G p = none := by
    cases q : G p with
    | none => rfl
    | some u => rw [A.bg p u q] at h; cases h
  have ne : ∀ {a : Addr} {v : Val}, Own K mg F H a v → a ≠ p := fun {a v} q z => by
    obtain ⟨u, hu, _⟩ := q.at
    rw [z, h] at hu; cases hu
  refine ⟨⟨A.sub.trans (Ex'.new h), A.bg.trans (Ex'.new h), A.f0, A.nw, A.len, A.fz, fun i v q => ?_, A.ap, A.x.tb.up (Ex'.new h), A.x.nf, A.x.ng⟩, hF, hG, fun i w q z => ?_⟩
  · obtain ⟨a, h1, h2, h3⟩ := A.ow i v q
    exact ⟨a, h1, h2, h3.keep (Ex'.refl F) h3.no (upd_ne (ne h3))⟩
  · obtain ⟨a, h1, h2, h3⟩ := A.ow i w q
    rw [z] at h1; cases h1
    exact ne h3 rfl
theorem Abs.wr {p : Addr} {o : HO} (A : Abs K mg G Z F σ H ρ) (hF : F p = none) (hG : G p = none) (hl : Lone σ ρ p) (ht : ∃ u, H p = some u ∧ Thing u) : Abs K mg G Z F σ (upd H p o) ρ := by
  refine ⟨fun a u q => ?_, fun a u q => ?_, A.f0, A.nw, A.len, A.fz, fun i v q => ?_, A.ap, A.x.tb.wr ht, A.x.nf, A.x.ng⟩
  · rw [upd_ne (fun z => by rw [z, hF] at q; cases q)]; exact A.sub a u q
  · rw [upd_ne (fun z => by rw [z, hG] at q; cases q)]; exact A.bg a u q
  · obtain ⟨a, h1, h2, h3⟩ := A.ow i v q
    have ha : a ≠ p := fun z => hl i v q (by rw [← z]; exact h1)
    exact ⟨a, h1, h2, h3.keep (Ex'.refl F) h3.no (upd_ne ha)⟩
theorem Abs.fixO {p : Addr} {o : HO} (A : Abs K mg G Z F σ H ρ) (hF : F p = none) (hG : G p = none) (hl : Lone σ ρ p) (hH : H p = some o) (ho : ∀ ps, o ≠ .tbl ps := by nofun) : Abs K mg G Z (upd F p o) σ H ρ ∧ Ex' F (upd F p o) := by
  have e : Ex' F (upd F p o) := Ex'.new hF
  refine ⟨⟨fun a u q => ?_, A.bg, A.f0.trans e, fun a u q => ?_, A.len, fun i v q => ?_, fun i v q => ?_, A.ap, A.x.tb, A.x.nf.upd ho, A.x.ng⟩, e⟩
  · by_cases ha : a = p
    · subst ha; rw [upd_same] at q; rw [hH]; exact q
    · rw [upd_ne ha] at q; exact A.sub a u q
  · by_cases ha : a = p
    · subst ha; exact .inr (.inl hG)
    · rw [upd_ne ha] at q; exact A.nw a u q
  · obtain ⟨x, h1, h2⟩ := A.fz i v q
    exact ⟨x, h1, h2.mono e⟩
  · obtain ⟨a, h1, h2, h3⟩ := A.ow i v q
    have ha : a ≠ p := fun z => hl i v q (by rw [← z]; exact h1)
    exact ⟨a, h1, h2, h3.keep e (by rw [upd_ne ha]; exact h3.no) rfl⟩
theorem Abs.loose {i : Nat} {v : Val} {a : Addr} (A : Abs K mg G Z F σ H ρ) (h : ρ[i]? = some (.ow v)) (ha : σ[i]? = some (some (.ref a))) (s : Slot) (hs : ∀ w, s ≠ .ow w) (hf : ∀ w, s = .fz w → ∃ x, σ[i]? = some (some x) ∧ Rep K mg F x w) :
    Abs K mg G Z F σ H (ρ.set i s) ∧ Lone σ (ρ.set i s) a := by
  have hi : i < ρ.length := by
    have := List.getElem?_eq_some_iff.mp h
    exact this.1
  have get : ∀ j : Nat, (ρ.set i s)[j]? = if j = i then some s else ρ[j]? := fun j => by
    by_cases hj : j = i
    · subst hj; rw [List.getElem?_set_self hi, if_pos rfl]
    · rw [List.getElem?_set_ne (Ne.symm hj), if_neg hj]
  refine ⟨⟨A.sub, A.bg, A.f0, A.nw, by rw [List.length_set]; exact A.len, fun j w q => ?_, fun j w q => ?_, fun j k b w w' hjk q q' => ?_, A.x⟩, fun j w q z => ?_⟩
  · rw [get] at q
    by_cases hj : j = i
    · subst hj; rw [if_pos rfl] at q; exact hf w (Option.some.inj q)
    · rw [if_neg hj] at q; exact A.fz j w q
  · rw [get] at q
    by_cases hj : j = i
    · subst hj; rw [if_pos rfl] at q; exact absurd (Option.some.inj q) (hs w)
    · rw [if_neg hj] at q; exact A.ow j w q
  · rw [get] at q q'
    by_cases hj : j = i
    · subst hj; rw [if_pos rfl] at q; exact absurd (Option.some.inj q) (hs w)
    · by_cases hk : k = i
      · subst hk; rw [if_pos rfl] at q'; exact absurd (Option.some.inj q') (hs w')
      · rw [if_neg hj] at q; rw [if_neg hk] at q'; exact A.ap j k b w w' hjk q q'
  · rw [get] at q
    by_cases hj : j = i
    · subst hj; rw [if_pos rfl] at q; exact absurd (Option.some.inj q) (hs w)
    · rw [if_neg hj] at q
      exact A.ap i j a v w (Ne.symm hj) h q ha z
end
end EV
namespace EV
open PySem PySem.Spec PyProof.Rows L2
def ExR (K : PySem.W.Frag) (mg : Str → Option Value) (F : Hp) (d : Option Addr) (e : Exc) : Prop :=
  (e.fs = [] ∧ d = none) ∨ ∃ dx xs, d = some dx ∧ F dx = some (.xd xs) ∧ RepF K mg F xs e.fs
def tg : Value → Value
  | .ref a => .int (a : Int) 0
  | v => v
def cV (mg : Str → Option Value) (e : Exc) : Value := if e.pr then tg (.ref (GH.clsA mg (Str.ofString e.c))) else .ref (GH.clsA mg (Str.ofString e.c))
def onR (W : WX) : WX := fun c d σ H => (∃ a, c = .ref a) ∧ W c d σ H
def onT (W : WX) : WX := fun c d σ H => (∃ a, c = .ref a) ∧ W (tg c) d σ H
def Takes (X : Cx) (W : WX) : Prop := L2N.Takes X (onR W) ∧ L2.Takes X (onT W)
def CXt (P : Program) (w : World) : CXT := fun ou H s E u s' => L2N.CX P w ou H s (fun c d H => (∃ a, c = .ref a) ∧ E c d H) u s' ∨ L2.CX P w ou H s (fun c d H => (∃ a, c = .ref a) ∧ E (tg c) d H) u s'
theorem Takes.call {X : Cx} {W : WX} {pins : List (Addr × Obj)} {σ : L2.St} {H : Hp} {s s' : Shared} {u : Value} (tk : Takes X W) (I : Inv X pins σ H s) (c : CXt X.prog X.w X.stack H s (fun c d H' => W c d σ H') u s') : X.xe u s' :=
  c.elim (fun c => tk.1 u s' (L2N.XE.of_call I (fun _ _ _ h => h) c)) fun c => tk.2 u s' (L2.XE.of_call I (fun _ _ _ h => h) c)
theorem takes_of {X : Cx} {E : XK} (hs : X.stack = X.env :: X.outer) (hf : X.env.frame = some X.env.locals) (hex : X.ex = []) {E₁ : Value → Shared → Prop}
    (hx : X.xe = fun e s' => wpAny (model X.prog X.w) X.A (leaving X.env e) (fun _ s'' => CXt X.prog X.w X.outer X.H_0 X.s_0 E e s'') E₁ s') : Takes X (fun cls d _ H => E cls d H) := by
  refine ⟨fun u s' x => ?_, fun u s' x => ?_⟩
  · rw [hx]
    exact wpAny_mono (L2N.XE.leave (E := fun c d H => (∃ a, c = .ref a) ∧ E c d H) hs hf hex (fun _ _ _ _ h => h) x) (fun _ _ h => .inl h) fun _ _ h => h
  · rw [hx]
    exact wpAny_mono (L2.XE.leave (E := fun c d H => (∃ a, c = .ref a) ∧ E (tg c) d H) hs hf hex (fun _ _ _ _ h => h) x) (fun _ _ h => .inr h) fun _ _ h => h
section
variable (K : PySem.W.Frag) (mg : Str → Option Value) (W : WX)
def Aft {α : Type} (G Z F : Hp) (σ : L2.St) (m : Res α) (C : Hp → Hp → Ro → α → Prop) : Prop := match m with
  | some (.ok a ρ') => ∀ F' H', Abs K mg G Z F' σ H' ρ' → Ex' F F' → C F' H' ρ' a
  | some (.ex e ρ') => ∀ F' H' d, Abs K mg G Z F' σ H' ρ' → Ex' F F' → ExR K mg F' d e → W (cV mg e) d σ H'
  | none => False
def OpdR (F : Hp) (σ : L2.St) (x : V) : Opd → Prop
  | .pl i => σ[i]? = some (some x)
  | .tm v => Rep K mg F x v
def tM {α : Type} (m : Ro → Res α) (R : Hp → Hp → L2.St → Hp → Ro → V → α → Prop) : TE := fun σ H Q => ∃ G Z F ρ, Abs K mg G Z F σ H ρ ∧ Aft K mg W G Z F σ (m ρ) fun F' H' ρ' a => ∀ x, R G F' σ H' ρ' x a → Q x H'
variable (T : Tab) (cal mkc : Cal)
def tE (e : Ex) : TE := tM K mg W (evE T cal mkc e) fun G F σ H ρ x r => ResR K mg G F σ H ρ x r
def tO (e : Ex) : TE := tM K mg W (opnd e (evE T cal mkc e)) fun _ F σ _ _ x o => OpdR K mg F σ x o
def tV (e : Ex) : TE := tM K mg W (fun ρ => bnd (evE T cal mkc e ρ) fixv) fun _ F _ _ _ x v => Rep K mg F x v
def tB (e : Ex) : TT := fun σ H Q => ∃ G Z F ρ, Abs K mg G Z F σ H ρ ∧ Aft K mg W G Z F σ (bnd (evE T cal mkc e ρ) asBool) fun F' H' ρ' b => Q b H'
def tAs (es : List Ex) : TA := fun σ H Q => ∃ G Z F ρ, Abs K mg G Z F σ H ρ ∧ Aft K mg W G Z F σ (evEs T cal mkc es ρ) fun F' H' ρ' vs => ∀ xs, Reps K mg F' xs vs → Q xs H'
end
section
variable {K : PySem.W.Frag} {mg : Str → Option Value} {W : WX} {α β : Type} {G Z F F1 : Hp} {σ : L2.St} {m : Res α}
theorem Aft.up {C : Hp → Hp → Ro → α → Prop} (h : Aft K mg W G Z F σ m C) (e : Ex' F F1) : Aft K mg W G Z F1 σ m C := by
  unfold Aft at h ⊢
  split at h
  · exact fun F' H' A q => h F' H' A (e.trans q)
  · exact fun F' H' d A q r => h F' H' d A (e.trans q) r
  · exact h
theorem Aft.imp {C C' : Hp → Hp → Ro → α → Prop} (h : Aft K mg W G Z F σ m C) (k : ∀ F' H' ρ' a, Abs K mg G Z F' σ H' ρ' → Ex' F F' → C F' H' ρ' a → C' F' H' ρ' a) : Aft K mg W G Z F σ m C' := by
  unfold Aft at h ⊢
  split at h
  · exact fun F' H' A q => k _ _ _ _ A q (h F' H' A q)
  · exact h
  · exact h
theorem Aft.bnd {k : α → Ro → Res β} {C : Hp → Hp → Ro → β → Prop} (h : Aft K mg W G Z F σ (EV.bnd m k) C) : Aft K mg W G Z F σ m fun F' _ ρ' a => Aft K mg W G Z F' σ (k a ρ') C := by
  match m, h with
  | some (.ok a ρ'), h =>
    intro F' H' A q
    have h : Aft K mg W G Z F σ (k a ρ') C := h
    exact h.up q
  | some (.ex e ρ'), h => exact h
  | none, h => exact h
theorem Aft.pur {a : α} {ρ : Ro} {H : Hp} {C : Hp → Hp → Ro → α → Prop} (h : Aft K mg W G Z F σ (EV.pur a ρ) C) (A : Abs K mg G Z F σ H ρ) : C F H ρ a := h F H A (Ex'.refl F)
theorem Aft.lift {o : Option α} {ρ : Ro} {C : Hp → Hp → Ro → α → Prop} (h : Aft K mg W G Z F σ (EV.lift o ρ) C) : ∃ a, o = some a ∧ Aft K mg W G Z F σ (EV.pur a ρ) C := by
  cases o with
  | none => exact h.elim
  | some a => exact ⟨a, rfl, h⟩
end
theorem _root_.L2.PE.imp {X : Cx} {e : Expr} {t t' : TE} (h : PE X e t) (k : ∀ σ H Q, t' σ H Q → t σ H Q) : PE X e t' := ⟨fun pins s σ H Q I q => h.run pins s σ H Q I (k σ H Q q)⟩
theorem _root_.L2.PT.imp {X : Cx} {e : Expr} {t t' : TT} (h : PT X e t) (k : ∀ σ H Q, t' σ H Q → t σ H Q) : PT X e t' := ⟨fun pins s σ H Q I q => h.run pins s σ H Q I (k σ H Q q)⟩
theorem _root_.L2.PA.imp {X : Cx} {es : List Expr} {t t' : TA} (h : PA X es t) (k : ∀ σ H Q, t' σ H Q → t σ H Q) : PA X es t' := ⟨fun pos pins s σ H Q I q => h.run pos pins s σ H Q I (k σ H Q q)⟩
theorem _root_.L2.PS.imp {X : Cx} {st : Stmt} {t t' : TS} (h : PS X st t) (k : ∀ D σ H, t' D σ H → t D σ H) : PS X st t' := ⟨fun pins s σ H D I q => h.run pins s σ H D I (k D σ H q)⟩
def NewR0 (K : PySem.W.Frag) (mg : Str → Option Value) (F H : Hp) (z : V) (H' : Hp) : Slot → Prop
  | .fz v => (H' = H ∧ Rep K mg F z v) ∨ ∃ p ob, H p = none ∧ H' = upd H p ob ∧ z = .ref p ∧ (∀ ps, ob ≠ .tbl ps) ∧ ∀ F', Ex' F F' → F' p = some ob → Rep K mg F' z v
  | .ow v => ∃ p ob, H p = none ∧ H' = upd H p ob ∧ z = .ref p ∧ (F p = none → Own K mg F H' p v)
  | .un => False
structure TX (F F' H : Hp) : Prop where
  up : Ex' F F'
  t : ∀ a o, F' a = some o → F a = some o ∨ (H a = some o ∧ ∃ xs, o = .tup xs)
theorem TX.refl (F H : Hp) : TX F F H := ⟨Ex'.refl F, fun _ _ h => .inl h⟩
def NewR (K : PySem.W.Frag) (mg : Str → Option Value) (F H : Hp) (z : V) (H' : Hp) (r : Slot) : Prop := ∃ F1, TX F F1 H ∧ NewR0 K mg F1 H z H' r
theorem Abs.tx {K : PySem.W.Frag} {mg : Str → Option Value} {G Z F F' : Hp} {σ : L2.St} {H : Hp} {ρ : Ro} (A : Abs K mg G Z F σ H ρ) (t : TX F F' H) : Abs K mg G Z F' σ H ρ := by
  refine ⟨fun a o q => ?_, A.bg, A.f0.trans t.up, fun a o q => ?_, A.len, fun i v q => ?_, fun i v q => ?_, A.ap, A.x.tb, fun a ps z => ?_, A.x.ng⟩
  · rcases t.t a o q with h | ⟨h, _⟩
    · exact A.sub a o h
    · exact h
  · rcases t.t a o q with h | ⟨_, h⟩
    · exact A.nw a o h
    · exact .inr (.inr (.inl h))
  · obtain ⟨x, h1, h2⟩ := A.fz i v q
    exact ⟨x, h1, h2.mono t.up⟩
  · obtain ⟨a, h1, h2, h3⟩ := A.ow i v q
    refine ⟨a, h1, h2, h3.keep t.up ?_ rfl⟩
    cases w : F' a with
    | none => rfl
    | some o =>
      rcases t.t a o w with h | ⟨h, xs, rfl⟩
      · rw [h3.no] at h; cases h
      · obtain ⟨u, hu, hn⟩ := h3.at
        rw [h] at hu; cases hu
        exact absurd rfl (hn xs)
  · rcases t.t a _ z with h | ⟨_, xs, h⟩
    · exact A.x.nf a ps h
    · cases h
section
variable {K : PySem.W.Frag} {mg : Str → Option Value} {W : WX} {G Z F : Hp} {σ : L2.St} {H H' : Hp} {ρ : Ro} {z : V} {r : Slot}
theorem Abs.new {Q : V → Hp → Prop} (A : Abs K mg G Z F σ H ρ) (n : NewR K mg F H z H' r) (h : ∀ F' H'', Abs K mg G Z F' σ H'' ρ → Ex' F F' → ∀ x, ResR K mg G F' σ H'' ρ x r → Q x H'') : Q z H' := by
  obtain ⟨F1, tx, n⟩ := n
  have A := A.tx tx
  have h : ∀ F' H'', Abs K mg G Z F' σ H'' ρ → Ex' F1 F' → ∀ x, ResR K mg G F' σ H'' ρ x r → Q x H'' := fun F' H'' A' e => h F' H'' A' (tx.up.trans e)
  clear tx
  cases r with
  | un => exact n.elim
  | fz v =>
    rcases n with ⟨e, q⟩ | ⟨p, ob, hp, e, ez, ho, q⟩
    · subst e
      exact h F1 H' A (Ex'.refl F1) z q
    · subst e
      obtain ⟨A', e'⟩ := A.newF (o := ob) hp ho
      exact h _ _ A' e' z (q _ e' upd_same)
  | ow v =>
    obtain ⟨p, ob, hp, e, ez, q⟩ := n
    subst e
    obtain ⟨A', hF, hG, hl⟩ := A.newO (o := ob) hp
    exact h F1 _ A' (Ex'.refl F1) z ⟨p, ez, hG, q hF, hl⟩
theorem OpdR.read {x : V} {o : Opd} {v : Val} (A : Abs K mg G Z F σ H ρ) (r : OpdR K mg F σ x o) (h : o.val ρ = some v) : RepB K mg F H x v := by
  cases o with
  | tm w => cases h; exact Rep.b A.sub r
  | pl i =>
    have h : (ρ[i]?).bind Slot.val = some v := h
    have r : σ[i]? = some (some x) := r
    cases q : ρ[i]? with
    | none => rw [q] at h; cases h
    | some s =>
      rw [q] at h
      have h : s.val = some v := h
      cases s with
      | un => cases h
      | fz w =>
        obtain rfl : w = v := Option.some.inj h
        obtain ⟨y, h1, h2⟩ := A.fz i w q
        rw [r] at h1; cases h1
        exact Rep.b A.sub h2
      | ow w =>
        obtain rfl : w = v := Option.some.inj h
        obtain ⟨a, h1, _, h2⟩ := A.ow i w q
        rw [r] at h1; cases h1
        exact h2.b
theorem OpdR.mono {F' : Hp} {x : V} {o : Opd} (r : OpdR K mg F σ x o) (e : Ex' F F') : OpdR K mg F' σ x o := by
  cases o with
  | tm w => exact Rep.mono e r
  | pl i => exact r
end
section
variable {X : Cx} {pins : List (Addr × Obj)} {s : Shared} {G Z F : Hp} {σ : L2.St} {H : Hp} {ρ : Ro}
theorem fix_loose {a : Addr} {v : Val} (I : Inv X pins σ H s) (A : Abs X.K X.mg G Z F σ H ρ) (hG : G a = none) (o : Own X.K X.mg F H a v) (hl : Lone σ ρ a) :
    ∃ F' H', Inv X pins σ H' s ∧ Abs X.K X.mg G Z F' σ H' ρ ∧ Ex' F F' ∧ Rep X.K X.mg F' (.ref a) v := by
  cases o with
  | lst n h r =>
    obtain ⟨A', e⟩ := A.fixO n hG hl h
    exact ⟨_, H, I, A', e, .lst upd_same (r.mono e)⟩
  | @dk ks kvs n h r =>
    obtain ⟨od, I'⟩ := I.lock h trivial
    have A1 : Abs X.K X.mg G Z F σ (upd H a (.frz od (.dK ks))) ρ := A.wr n hG hl ⟨_, h, by nofun, by nofun⟩
    obtain ⟨A', e⟩ := A1.fixO n hG hl upd_same
    exact ⟨_, _, I', A', e, .dk upd_same (r.mono e)⟩
  | @dt ks kvs n h r =>
    obtain ⟨od, I'⟩ := I.lock h trivial
    have A1 : Abs X.K X.mg G Z F σ (upd H a (.frz od (.dT ks))) ρ := A.wr n hG hl ⟨_, h, by nofun, by nofun⟩
    obtain ⟨A', e⟩ := A1.fixO n hG hl upd_same
    exact ⟨_, _, I', A', e, .dt upd_same (r.mono e)⟩
  | obj n h r =>
    obtain ⟨A', e⟩ := A.fixO n hG hl h
    exact ⟨_, H, I, A', e, .obj upd_same (r.mono e)⟩
theorem fix_place {i : Nat} {v : Val} (I : Inv X pins σ H s) (A : Abs X.K X.mg G Z F σ H ρ) (h : ρ[i]? = some (.ow v)) :
    ∃ F' H' x, Inv X pins σ H' s ∧ Abs X.K X.mg G Z F' σ H' (ρ.set i (.fz v)) ∧ Ex' F F' ∧ σ[i]? = some (some x) ∧ Rep X.K X.mg F' x v := by
  obtain ⟨a, h1, h2, h3⟩ := A.ow i v h
  obtain ⟨A1, l1⟩ := A.loose h h1 .un (fun _ z => by cases z) (fun _ z => by cases z)
  obtain ⟨F', H', I', A', e, q⟩ := fix_loose I A1 h2 h3 l1
  have hi : i < ρ.length := (List.getElem?_eq_some_iff.mp h).1
  refine ⟨F', H', .ref a, I', ⟨A'.sub, A'.bg, A'.f0, A'.nw, by rw [List.length_set]; exact A.len, fun j w z => ?_, fun j w z => ?_, fun j k b w w' n z z' => ?_, A'.x⟩, e, h1, q⟩
  · by_cases hj : j = i
    · subst hj
      rw [List.getElem?_set_self hi] at z; cases z
      exact ⟨_, h1, q⟩
    · rw [List.getElem?_set_ne (Ne.symm hj)] at z
      exact A'.fz j w (by rw [List.getElem?_set_ne (Ne.symm hj)]; exact z)
  · by_cases hj : j = i
    · subst hj
      rw [List.getElem?_set_self hi] at z; cases z
    · rw [List.getElem?_set_ne (Ne.symm hj)] at z
      exact A'.ow j w (by rw [List.getElem?_set_ne (Ne.symm hj)]; exact z)
  · by_cases hj : j = i
    · subst hj
      rw [List.getElem?_set_self hi] at z; cases z
    · by_cases hk : k = i
      · subst hk
        rw [List.getElem?_set_self hi] at z'; cases z'
      · rw [List.getElem?_set_ne (Ne.symm hj)] at z
        rw [List.getElem?_set_ne (Ne.symm hk)] at z'
        exact A'.ap j k b w w' n (by rw [List.getElem?_set_ne (Ne.symm hj)]; exact z) (by rw [List.getElem?_set_ne (Ne.symm hk)]; exact z')
end
section
variable {X : Cx} {W : WX} {T : Tab} {cal mkc : Cal} {e : Expr} {ex : Ex}
theorem pe_fix (h : PE X e (tE X.K X.mg W T cal mkc ex)) : PE X e (tV X.K X.mg W T cal mkc ex) := by
  refine ⟨fun pins s σ H Q I q => ?_⟩
  obtain ⟨G, Z, F, ρ, A, q⟩ := q
  have q := q.bnd
  refine thn (h.run pins s σ H (fun x H' => ∃ F' ρ' r, Abs X.K X.mg G Z F' σ H' ρ' ∧ ResR X.K X.mg G F' σ H' ρ' x r ∧ Aft X.K X.mg W G Z F' σ (fixv r ρ') fun F' H' ρ' v => ∀ x, Rep X.K X.mg F' x v → Q x H') I ⟨G, Z, F, ρ, A, q.imp fun F' H' ρ' r A' e' z x rx => ⟨F', ρ', r, A', rx, z⟩⟩) fun u s1 ⟨x, H1, I1, r1, F', ρ', r, A', rx, z⟩ => ?_
  cases r with
  | un => exact rx.elim
  | fz v => exact ⟨x, H1, I1, r1, (Aft.pur z A') x rx⟩
  | ow v =>
    obtain ⟨a, rfl, hG, o, hl⟩ := rx
    obtain ⟨F2, H2, I2, A2, e2, q2⟩ := fix_loose I1 A' hG o hl
    exact ⟨.ref a, H2, I2, r1, Aft.pur (Aft.up z e2) A2 _ q2⟩
theorem pe_opd (h : PE X e (tE X.K X.mg W T cal mkc ex)) (hn : ∀ i, ex ≠ .v i) : PE X e (tO X.K X.mg W T cal mkc ex) := by
  refine (pe_fix h).imp fun σ H Q q => ?_
  obtain ⟨G, Z, F, ρ, A, q⟩ := q
  have e1 : opnd ex (evE T cal mkc ex) ρ = EV.bnd (evE T cal mkc ex ρ) fun r ρ' => match r with
    | .fz v => EV.pur (.tm v) ρ'
    | .ow v => EV.pur (.tm v) ρ'
    | .un => none := by
    cases ex with
    | v i => exact absurd rfl (hn i)
    | _ => rfl
  rw [e1] at q
  refine ⟨G, Z, F, ρ, A, ?_⟩
  show Aft _ _ _ _ _ _ _ (EV.bnd (evE T cal mkc ex ρ) fixv) _
  cases hm : evE T cal mkc ex ρ with
  | none => rw [hm] at q; exact q.elim
  | some o =>
    rw [hm] at q
    cases o with
    | ex e' ρ' => exact q
    | ok r ρ' =>
      cases r with
      | un => exact q.elim
      | fz v => exact fun F' H' A' e' x rx => q F' H' A' e' x rx
      | ow v => exact fun F' H' A' e' x rx => q F' H' A' e' x rx
theorem pe_place {i : Nat} (h : PE X e (tVar i)) : PE X e (tO X.K X.mg W T cal mkc (.v i)) := by
  refine h.imp fun σ H Q q => ?_
  obtain ⟨G, Z, F, ρ, A, q⟩ := q
  have q : Aft X.K X.mg W G Z F σ (if ((ρ[i]?).bind Slot.val).isSome then EV.pur (Opd.pl i) ρ else none) _ := q
  split at q
  · rename_i hs
    have hx : ∃ x, σ[i]? = some (some x) := by
      cases w : ρ[i]? with
      | none => rw [w] at hs; cases hs
      | some r =>
        cases r with
        | un => rw [w] at hs; cases hs
        | fz v => obtain ⟨x, h1, _⟩ := A.fz i v w; exact ⟨x, h1⟩
        | ow v => obtain ⟨a, h1, _⟩ := A.ow i v w; exact ⟨_, h1⟩
    obtain ⟨x, hx⟩ := hx
    exact ⟨x, hx, Aft.pur q A x hx⟩
  · exact q.elim
theorem pe_name {i : Nat} (h : PE X e (tVar i)) : PE X e (tE X.K X.mg W T cal mkc (.v i)) := by
  refine ⟨fun pins s σ H Q I q => ?_⟩
  obtain ⟨G, Z, F, ρ, A, q⟩ := q
  have q : Aft X.K X.mg W G Z F σ (slotAt i ρ) _ := q
  unfold slotAt at q
  split at q
  · rename_i v hv
    obtain ⟨x, h1, h2⟩ := A.fz i v hv
    exact h.run pins s σ H Q I ⟨x, h1, Aft.pur q A x h2⟩
  · rename_i v hv
    obtain ⟨F', H', x, I', A', e', h1, h2⟩ := fix_place I A hv
    exact h.run pins s σ H' Q I' ⟨x, h1, Aft.pur (Aft.up q e') A' x h2⟩
  · exact q.elim
end
end EV
namespace GH
open PySem PySem.Spec PyProof.Rows L2
theorem tup_once (l : Addr) (items : Array Value) (n : Nat) (dd : Option Addr) (sl : Array (Option Value)) (u : Tok) :
    Meets (Builtin.«tuple.__mul__» ⟨[.ref l, .int 1 u], []⟩) (fun _ R s => s.heap.get? l = some { cls := .type "tuple", dict := dd, data := .seq items n, slots := sl } ∧ R (.ok (.ret (Value.ref l))) s) :=
  .of_wp fun prog w A R s h => by
    obtain ⟨hp, g, d, tk, os⟩ := s
    obtain ⟨hl, h⟩ := h
    have f1 := AutoSeq1.idx_int
    have c1 : (items.isEmpty || (1 : Int) == 1) = true := by simp
    wp_walk using wpAny_loadPart' hl
    repeat (first
      | (refine wpAny_ite_true (decide_eq_true c1) ?_; wp_walk using wpAny_loadPart' hl)
      | (refine wpAny_ite_true rfl ?_; wp_walk using wpAny_loadPart' hl))
    exact ⟨_, rfl, h⟩
def rRepA (K : PySem.W.Frag) : R2 := fun x y H Q => ∃ (l : Addr) (k : Nat) (xs : List V), x = .ref l ∧ y = .int (k : Nat) ∧ SqT K H l xs ∧ xs ≠ [] ∧ 1 ≤ k ∧ k ≤ 1000 ∧ xs.length ≤ 1000 ∧ (k = 1 → Q (.ref l) H) ∧ (k ≠ 1 → ∀ p, H p = none → Q (.ref p) (upd H p (.tup (List.replicate k xs).flatten)))
theorem op_repA {X : Cx} {K : PySem.W.Frag} (hK : X.K = K := by rfl) : OpR X (binaryOp .Mult) (rRepA K) := by
  subst hK
  intro pins s σ H x y v u Q I rx ry h
  obtain ⟨l, k, xs, rfl, rfl, hT, hne, h1, h2, hz, q1, q2⟩ := h
  by_cases hk : k = 1
  · subst hk
    cases rx
    obtain ⟨t, rfl⟩ := ry
    obtain ⟨its, r, ⟨⟨cls, dd, data, sl⟩, ho, hc, n, hd⟩, hs⟩ := I.tuple hT
    simp only at hc hd
    subst hc hd
    have one : Value.int ((1 : Nat) : Int) t = Value.int 1 t := rfl
    rw [one]
    exact wpAny_binaryOp_repeat_ref (T := "tuple") (U := "int") (by decide) ⟨_, ho, rfl⟩ (fun s' => typeIs_int s' 1 t) noFill_tuple_mul F.fills_int_mul F.slot_int_rmul repeat_tuple F.slot_int_index.lookup
      (call_meets F.slot_int_rmul (typeIs_int s 1 t) F.entry_int_rmul (F.args_int_rmul_2 _ _) (int_rmul_tuple 1 t l its.toArray n dd sl)
        ⟨ho, rfl, ⟨_, ho, rfl⟩, call_meets F.slot_tuple_mul ⟨_, ho, rfl⟩ F.entry_tuple_mul (F.args_tuple_mul_2 _ _) (tup_once l its.toArray n dd sl t) ⟨ho, ⟨.ref l, H, I, rfl, q1 rfl⟩⟩⟩)
  · refine op_repT pins s σ H _ _ v u Q I rx ry ⟨l, (k : Nat), xs, rfl, rfl, hT, hne, by omega, by omega, hz, fun p np => ?_⟩
    rw [Int.toNat_natCast]
    exact q2 hk p np
end GH
namespace EV
open PySem PySem.Spec PyProof.Rows L2
section
variable {K : PySem.W.Frag} {mg : Str → Option Value} {F H : Hp}
mutual
theorem Rep.dp (e : Ex' F H) : ∀ {x : V} {v : Val} {d : PyData}, Rep K mg F x v → toD v = some d → Dp K H x d
  | _, _, _, .non, h => by simp only [toD] at h; cases h; exact .non
  | _, _, _, .bl b, h => by simp only [toD] at h; cases h; exact .bl b
  | _, _, _, .int i, h => by simp only [toD] at h; cases h; exact .int i
  | _, _, _, .str l, h => by simp only [toD] at h; cases h; exact .str _
  | _, .lst vs, d, .lst s r, h => by
    simp only [toD] at h
    cases q : toDs vs with
    | none => rw [q] at h; cases h
    | some ds => rw [q] at h; cases h; exact .lst (.inl (.inl (e _ _ s))) (Reps.dp e r q)
  | _, .tup vs, d, .tup s r, h => by
    simp only [toD] at h
    cases q : toDs vs with
    | none => rw [q] at h; cases h
    | some ds => rw [q] at h; cases h; exact .tup (.inl (.inl (e _ _ s))) (Reps.dp e r q)
  | _, _, _, .dk s r, h => by simp only [toD] at h; cases h
  | _, _, _, .dt s r, h => by simp only [toD] at h; cases h
  | _, _, _, .obj s r, h => by simp only [toD] at h; cases h
  | _, _, _, .scr s, h => by simp only [toD] at h; cases h
  | _, _, _, .wtp s, h => by simp only [toD] at h; cases h
  | _, _, _, .cls c, h => by simp only [toD] at h; cases h
  | _, _, _, .clo s r, h => by simp only [toD] at h; cases h
  | _, _, _, .exo _ _ _, h => by simp only [toD] at h; cases h
  | _, _, _, .exo0 _, h => by simp only [toD] at h; cases h
theorem Reps.dp (e : Ex' F H) : ∀ {xs : List V} {vs : List Val} {ds : List PyData}, Reps K mg F xs vs → toDs vs = some ds → DpAll K H xs ds
  | _, _, _, .nil, h => by simp only [toDs] at h; cases h; exact .nil
  | _, v :: vs, ds, .cons a r, h => by
    simp only [toDs] at h
    cases q : toD v with
    | none => rw [q] at h; cases h
    | some d =>
      rw [q] at h
      cases q2 : toDs vs with
      | none => rw [q2] at h; cases h
      | some es => rw [q2] at h; cases h; exact .cons (Rep.dp e a q) (Reps.dp e r q2)
end
theorem RepB.dp (e : Ex' F H) {x : V} {v : Val} {d : PyData} (r : RepB K mg F H x v) (h : toD v = some d) : Dp K H x d := by
  cases r with
  | non => simp only [toD] at h; cases h; exact .non
  | bl b => simp only [toD] at h; cases h; exact .bl b
  | int i => simp only [toD] at h; cases h; exact .int i
  | str l => simp only [toD] at h; cases h; exact .str _
  | @lst a xs vs s r =>
    simp only [toD] at h
    cases q : toDs vs with
    | none => rw [q] at h; cases h
    | some ds => rw [q] at h; cases h; exact .lst (.inl (.inl s)) (Reps.dp e r q)
  | @tup a xs vs s r =>
    simp only [toD] at h
    cases q : toDs vs with
    | none => rw [q] at h; cases h
    | some ds => rw [q] at h; cases h; exact .tup (.inl (.inl (e _ _ s))) (Reps.dp e r q)
  | dk s r => simp only [toD] at h; cases h
  | dt s r => simp only [toD] at h; cases h
  | obj s r => simp only [toD] at h; cases h
  | scr s => simp only [toD] at h; cases h
  | wtp s => simp only [toD] at h; cases h
  | cls c => simp only [toD] at h; cases h
  | clo s r => simp only [toD] at h; cases h
  | exo s d r => simp only [toD] at h; cases h
  | exo0 s => simp only [toD] at h; cases h
end
theorem toS_inj {a b : List Nat} : (toS a == toS b) = (a == b) := by
  rw [Bool.eq_iff_iff]
  simp [toS]
mutual
theorem eqv_D : ∀ {a b : Val} {d e : PyData}, toD a = some d → toD b = some e → PyData.eqv d e = eqv a b
  | .non, b, d, e, h, k => by
    simp only [toD] at h; cases h
    cases b <;> simp only [toD] at k <;> (try cases k) <;> (try simp only [Option.map_eq_some_iff] at k) <;> (try (obtain ⟨_, _, rfl⟩ := k)) <;> simp [PyData.eqv, eqv]
  | .bl a, b, d, e, h, k => by
    simp only [toD] at h; cases h
    cases b <;> simp only [toD] at k <;> (try cases k) <;> (try simp only [Option.map_eq_some_iff] at k) <;> (try (obtain ⟨_, _, rfl⟩ := k)) <;> simp [PyData.eqv, eqv]
  | .int a, b, d, e, h, k => by
    simp only [toD] at h; cases h
    cases b <;> simp only [toD] at k <;> (try cases k) <;> (try simp only [Option.map_eq_some_iff] at k) <;> (try (obtain ⟨_, _, rfl⟩ := k)) <;> simp [PyData.eqv, eqv]
  | .str a, b, d, e, h, k => by
    simp only [toD] at h; cases h
    cases b <;> simp only [toD] at k <;> (try cases k) <;> (try simp only [Option.map_eq_some_iff] at k) <;> (try (obtain ⟨_, _, rfl⟩ := k)) <;> simp only [PyData.eqv, eqv]
    exact toS_inj
  | .lst a, b, d, e, h, k => by
    simp only [toD, Option.map_eq_some_iff] at h
    obtain ⟨ds, h, rfl⟩ := h
    cases b <;> simp only [toD] at k <;> (try cases k) <;> (try simp only [Option.map_eq_some_iff] at k) <;> (try (obtain ⟨es, k, rfl⟩ := k)) <;> simp only [PyData.eqv, eqv]
    exact eqvs_D h k
  | .tup a, b, d, e, h, k => by
    simp only [toD, Option.map_eq_some_iff] at h
    obtain ⟨ds, h, rfl⟩ := h
    cases b <;> simp only [toD] at k <;> (try cases k) <;> (try simp only [Option.map_eq_some_iff] at k) <;> (try (obtain ⟨es, k, rfl⟩ := k)) <;> simp only [PyData.eqv, eqv]
    exact eqvs_D h k
  | .dct _, _, _, _, h, _ => by simp only [toD] at h; cases h
  | .obj _ _, _, _, _, h, _ => by simp only [toD] at h; cases h
  | .scr _, _, _, _, h, _ => by simp only [toD] at h; cases h
  | .wtp _, _, _, _, h, _ => by simp only [toD] at h; cases h
  | .cls _, _, _, _, h, _ => by simp only [toD] at h; cases h
  | .clo _ _, _, _, _, h, _ => by simp only [toD] at h; cases h
  | .exo _ _, _, _, _, h, _ => by simp only [toD] at h; cases h
theorem eqvs_D : ∀ {a b : List Val} {d e : List PyData}, toDs a = some d → toDs b = some e → PyData.eqvAll d e = eqvs a b
  | [], b, d, e, h, k => by
    simp only [toDs] at h; cases h
    cases b with
    | nil => simp only [toDs] at k; cases k; rfl
    | cons y s =>
      simp only [toDs, Option.bind_eq_some_iff, Option.map_eq_some_iff] at k
      obtain ⟨_, _, _, _, rfl⟩ := k
      rfl
  | x :: r, b, d, e, h, k => by
    simp only [toDs, Option.bind_eq_some_iff, Option.map_eq_some_iff] at h
    obtain ⟨dx, hx, dr, hr, rfl⟩ := h
    cases b with
    | nil => simp only [toDs] at k; cases k; rfl
    | cons y s =>
      simp only [toDs, Option.bind_eq_some_iff, Option.map_eq_some_iff] at k
      obtain ⟨ey, ky, es, ks, rfl⟩ := k
      simp only [PyData.eqvAll, eqvs]
      rw [eqv_D hx ky, eqvs_D hr ks]
end
end EV
namespace EV
open PySem PySem.Spec PyProof.Rows L2
theorem cap_line {n : Nat} (h : n ≤ cap) : n ≤ sizeLine := by rw [sizeLine_eq]; unfold cap at h; omega
theorem toS_app (a b : List Nat) : toS a ++ toS b = toS (a ++ b) := by
  show (⟨a.toArray ++ b.toArray⟩ : Str) = ⟨(a ++ b).toArray⟩
  simp
theorem toS_len (a : List Nat) : (toS a).length = a.length := by
  show a.toArray.size = a.length
  simp
def bOp : Bin → Operator
  | .add => .Add | .sub => .Sub | .mul => .Mult | .mod => .Mod | .fdiv => .FloorDiv | .pow => .Pow
section
variable {K : PySem.W.Frag} {mg : Str → Option Value} {F H : Hp}
def rBin (K : PySem.W.Frag) (mg : Str → Option Value) (o : Bin) : R2 := fun x y H Q => ∃ F u w r, Ex' F H ∧ RepB K mg F H x u ∧ RepB K mg F H y w ∧ binF o u w = some r ∧ ∀ z H', NewR K mg F H z H' r → Q z H'
theorem newT {xs : List V} {vs : List Val} {p : Addr} (h : H p = none) (r : Reps K mg F xs vs) : NewR K mg F H (.ref p) (upd H p (.tup xs)) (.fz (.tup vs)) :=
  ⟨F, TX.refl F H, .inr ⟨p, _, h, rfl, rfl, by nofun, fun F' e q => .tup q (r.mono e)⟩⟩
theorem newL {xs : List V} {vs : List Val} {p : Addr} (h : H p = none) (r : Reps K mg F xs vs) : NewR K mg F H (.ref p) (upd H p (.lst xs)) (.ow (.lst vs)) :=
  ⟨F, TX.refl F H, p, _, h, rfl, rfl, fun n => .lst n upd_same r⟩
theorem newI (i : Int) : NewR K mg F H (.int i) H (.fz (.int i)) := ⟨F, TX.refl F H, .inl ⟨rfl, .int i⟩⟩
theorem newB (b : Bool) : NewR K mg F H (.bl b) H (.fz (.bl b)) := ⟨F, TX.refl F H, .inl ⟨rfl, .bl b⟩⟩
theorem newS (l : List Nat) : NewR K mg F H (.str (toS l)) H (.fz (.str l)) := ⟨F, TX.refl F H, .inl ⟨rfl, .str l⟩⟩
theorem newR {x : V} {v : Val} (h : Rep K mg F x v) : NewR K mg F H x H (.fz v) := ⟨F, TX.refl F H, .inl ⟨rfl, h⟩⟩
theorem Reps.rep {xs : List V} {vs : List Val} (r : Reps K mg F xs vs) : ∀ n, Reps K mg F (List.replicate n xs).flatten (repV vs n)
  | 0 => .nil
  | n + 1 => by
    rw [List.replicate_succ, List.flatten_cons]
    exact r.app (Reps.rep r n)
end
theorem repS_pow (l : List Nat) : ∀ n, GH.pow l n = repS l n
  | 0 => rfl
  | n + 1 => by show l ++ GH.pow l n = l ++ repS l n; rw [repS_pow l n]
section
variable {X : Cx}
theorem op_bin (o : Bin) : OpR X (binaryOp (bOp o)) (rBin X.K X.mg o) := by
  intro pins s σ H x y v u Q I rx ry h
  obtain ⟨F, a, b, r, e, ra, rb, hb, k⟩ := h
  have int2 : ∀ {i j : Int}, x = .int i → y = .int j → True := fun _ _ => trivial
  cases o with
  | add =>
    cases ra with
    | int i => cases rb <;> simp only [binF] at hb <;> cases hb; exact op_add pins s σ H _ _ v u Q I rx ry ⟨_, _, rfl, rfl, k _ _ (newI _)⟩
    | str i =>
      cases rb <;> simp only [binF] at hb <;> try cases hb
      split at hb
      · cases hb
        rename_i hz
        exact op_add_str pins s σ H _ _ v u Q I rx ry ⟨_, _, rfl, rfl, by rw [toS_len, toS_len]; exact cap_line hz, by rw [toS_app]; exact k _ _ (newS _)⟩
      · cases hb
    | lst s1 r1 =>
      cases rb <;> simp only [binF] at hb <;> try cases hb
      rename_i s2 r2
      split at hb
      · cases hb
        rename_i hz
        exact op_cat pins s σ H _ _ v u Q I rx ry ⟨_, _, _, _, rfl, rfl, s1, s2, by rw [r1.length, r2.length]; exact cap_line hz, fun p hp => k _ _ (newL hp (r1.app r2))⟩
      · cases hb
    | tup s1 r1 =>
      cases rb <;> simp only [binF] at hb <;> try cases hb
      rename_i s2 r2
      split at hb
      · cases hb
        rename_i hz
        refine op_catA pins s σ H _ _ v u Q I rx ry ⟨_, _, _, _, rfl, rfl, .inl (.inl (e _ _ s1)), .inl (.inl (e _ _ s2)), by rw [r1.length, r2.length]; exact cap_line hz, fun z => ?_, fun _ z => ?_, fun _ _ p hp => k _ _ (newT hp (r1.app r2))⟩
        · subst z; cases r1; exact k _ _ (newR (.tup s2 r2))
        · subst z; cases r2; rw [List.append_nil] at k; exact k _ _ (newR (.tup s1 r1))
      · cases hb
    | _ => simp only [binF] at hb; cases hb
  | sub =>
    cases ra with
    | int i => cases rb <;> simp only [binF] at hb <;> cases hb; exact op_sub pins s σ H _ _ v u Q I rx ry ⟨_, _, rfl, rfl, k _ _ (newI _)⟩
    | _ => simp only [binF] at hb; cases hb
  | mul =>
    cases ra with
    | int i =>
      cases rb <;> simp only [binF] at hb <;> try cases hb
      split at hb
      · cases hb
        rename_i hz
        refine op_mul pins s σ H _ _ v u Q I rx ry ⟨_, _, rfl, rfl, ?_, k _ _ (newI _)⟩
        simp only [small, Bool.or_eq_true, Bool.and_eq_true, decide_eq_true_eq] at hz
        exact hz
      · cases hb
    | str i =>
      cases rb <;> simp only [binF] at hb <;> try cases hb
      rename_i j
      split at hb
      · cases hb
        rename_i hz
        obtain ⟨h1, h2, h3⟩ := hz
        refine GH.op_mulS pins s σ H _ _ v u Q I rx ry ⟨i, j.toNat, rfl, ?_, by omega, by omega, h1, ?_⟩
        · congr 1; omega
        · rw [repS_pow]; exact k _ _ (newS _)
      · cases hb
    | lst s1 r1 =>
      cases rb <;> simp only [binF] at hb <;> try cases hb
      rename_i j
      split at hb
      · cases hb
        rename_i hz
        obtain ⟨h1, h2, h3⟩ := hz
        refine op_rep pins s σ H _ _ v u Q I rx ry ⟨_, _, _, rfl, rfl, s1, by omega, by omega, ?_, fun p hp => k _ _ (newL hp (r1.rep _))⟩
        rw [r1.length, sizeLine_eq]
        have : j.toNat ≤ 1000 := by omega
        have := Nat.mul_le_mul h1 this
        omega
      · cases hb
    | tup s1 r1 =>
      cases rb <;> simp only [binF] at hb <;> try cases hb
      rename_i j
      split at hb
      · cases hb
        rename_i hz
        obtain ⟨h1, h2, h3, h4⟩ := hz
        have hl := r1.length
        refine (GH.op_repA (X := X) (K := X.K) rfl) pins s σ H _ _ v u Q I rx ry ⟨_, j.toNat, _, rfl, by congr 1; omega, .inl (.inl (e _ _ s1)), fun z => ?_, by omega, by omega, by omega, fun z => ?_, fun _ p hp => k _ _ (newT hp (r1.rep _))⟩
        · subst z; simp at hl; omega
        · rw [z] at k
          have : ∀ l : List Val, repV l 1 = l := fun l => by show l ++ [] = l; simp
          rw [this] at k
          exact k _ _ (newR (.tup s1 r1))
      · cases hb
    | _ => simp only [binF] at hb; cases hb
  | mod =>
    cases ra with
    | int i =>
      cases rb <;> simp only [binF] at hb <;> try cases hb
      split at hb
      · cases hb
        rename_i hz
        exact op_mod pins s σ H _ _ v u Q I rx ry ⟨_, _, rfl, rfl, hz, k _ _ (newI _)⟩
      · cases hb
    | _ => simp only [binF] at hb; cases hb
  | fdiv =>
    cases ra with
    | int i =>
      cases rb <;> simp only [binF] at hb <;> try cases hb
      split at hb
      · cases hb
        rename_i hz
        exact op_fdiv pins s σ H _ _ v u Q I rx ry ⟨_, _, rfl, rfl, ⟨hz.1, by have := hz.2; omega⟩, k _ _ (newI _)⟩
      · cases hb
    | _ => simp only [binF] at hb; cases hb
  | pow =>
    cases ra with
    | int i =>
      cases rb <;> simp only [binF] at hb <;> try cases hb
      split at hb
      · cases hb
        rename_i hz
        obtain ⟨h1, h2, h3, h4⟩ := hz
        exact op_pow pins s σ H _ _ v u Q I rx ry ⟨_, _, rfl, rfl, ⟨h3, by omega, by omega⟩, k _ _ (newI _)⟩
      · cases hb
    | _ => simp only [binF] at hb; cases hb
end
end EV
namespace EV
open PySem PySem.Spec PyProof.Rows L2
def cOp : Cmp → CmpOp
  | .eq => .Eq | .ne => .NotEq | .lt => .Lt | .le => .LtE | .gt => .Gt | .ge => .GtE | .isin => .In | .notin => .NotIn | .is => .Is | .isnt => .IsNot
theorem shp_D {v : Val} (h : shp v = true) : ∃ d, toD v = some d ∧ SeqAt.shaped d = true := by
  unfold shp at h
  split at h
  · exact ⟨_, by assumption, h⟩
  · cases h
theorem bool_beq (a b : Bool) : (Value.bool a == Value.bool b) = (a == b) := by cases a <;> cases b <;> rfl
theorem op_isB {X : Cx} : OpR X (compareOp .Is) (fun x y H Q => ∃ a b, x = .bl a ∧ y = .bl b ∧ Q (.bl (a == b)) H) := by
  intro pins s σ H x y v u Q I rx ry h
  obtain ⟨a, b, rfl, rfl, q⟩ := h
  cases rx
  cases ry
  show wpAny _ _ ((isSame (Value.bool a) (Value.bool b)) >>= fun z => pure (Value.bool z)) _ _ s
  exact wpAny_bind (wpAny_isSame_plain rfl (wpAny_pure (fin_bl I q (by rw [bool_beq]))))
theorem op_isntB {X : Cx} : OpR X (compareOp .IsNot) (fun x y H Q => ∃ a b, x = .bl a ∧ y = .bl b ∧ Q (.bl (a != b)) H) := by
  intro pins s σ H x y v u Q I rx ry h
  obtain ⟨a, b, rfl, rfl, q⟩ := h
  cases rx
  cases ry
  show wpAny _ _ ((isSame (Value.bool a) (Value.bool b)) >>= fun z => pure (Value.bool (!z))) _ _ s
  exact wpAny_bind (wpAny_isSame_plain rfl (wpAny_pure (fin_bl I q (by rw [bool_beq]; rfl))))
theorem keyV_eqv : ∀ a b : Key, eqv (keyV a) (keyV b) = decide (a = b)
  | .inl i, .inl j => by simp [keyV, eqv]; rw [Bool.eq_iff_iff]; simp
  | .inl i, .inr y => by simp [keyV, eqv]
  | .inr x, .inl j => by simp [keyV, eqv]
  | .inr x, .inr y => by
    simp only [keyV, eqv]
    rw [Bool.eq_iff_iff]
    simp only [beq_iff_eq, decide_eq_true_eq, Sum.inr.injEq]
    constructor
    · intro h
      cases x; cases y
      simp only at h
      congr 1
      exact Array.ext' h
    · intro h; rw [h]
theorem keyVs_eqv : ∀ a b : List Key, eqvs (a.map keyV) (b.map keyV) = decide (a = b)
  | [], [] => by simp [eqvs]
  | [], _ :: _ => by simp [eqvs]
  | _ :: _, [] => by simp [eqvs]
  | x :: r, y :: s => by
    simp only [List.map_cons, eqvs]
    rw [keyV_eqv, keyVs_eqv r s, Bool.eq_iff_iff]
    simp
section
variable {K : PySem.W.Frag} {mg : Str → Option Value} {F H : Hp}
theorem RepB.key {x : V} {v : Val} (r : RepB K mg F H x v) (h : keyOk v = true) : ∃ k : Key, x = kV k ∧ v = keyV k := by
  cases r with
  | int i => exact ⟨.inl i, rfl, rfl⟩
  | str l => exact ⟨.inr (toS l), rfl, by simp [keyV, toS]⟩
  | _ => cases h
theorem Rep.key {x : V} {v : Val} (r : Rep K mg F x v) (h : keyOk v = true) : ∃ k : Key, x = kV k ∧ v = keyV k := RepB.key (H := F) (Rep.b (Ex'.refl F) r) h
theorem Reps.keys : ∀ {xs : List V} {vs : List Val}, Reps K mg F xs vs → vs.all keyOk = true → ∃ ks : List Key, xs = ks.map kV ∧ vs = ks.map keyV
  | _, _, .nil, _ => ⟨[], rfl, rfl⟩
  | _, _, .cons a r, h => by
    simp only [List.all_cons, Bool.and_eq_true] at h
    obtain ⟨k, rfl, rfl⟩ := Rep.key a h.1
    obtain ⟨ks, rfl, rfl⟩ := Reps.keys r h.2
    exact ⟨k :: ks, rfl, rfl⟩
theorem RepK.look : ∀ {ks : List (Key × V)} {kvs : List (Val × Val)} (k : Key), RepK K mg F ks kvs → (look kvs (keyV k) = none ∧ valV ks k = none) ∨ ∃ v x, look kvs (keyV k) = some v ∧ valV ks k = some x ∧ Rep K mg F x v
  | _, _, _, .nil => .inl ⟨rfl, rfl⟩
  | _, _, k, .cons (k := j) (x := x) (v := v) (kvs := kvs) a r => by
    by_cases e : j = k
    · subst e
      refine .inr ⟨v, x, ?_, valV_pos rfl, a⟩
      simp [EV.look, List.find?_cons, keyV_eqv]
    · have e2 : eqv (keyV j) (keyV k) = false := by rw [keyV_eqv]; exact decide_eq_false e
      rw [valV_neg (p := (j, x)) e]
      have e3 : EV.look ((keyV j, v) :: kvs) (keyV k) = EV.look kvs (keyV k) := by
        simp [EV.look, List.find?_cons, e2]
      rw [e3]
      exact RepK.look k r
theorem RepT.look : ∀ {ks : List (List Key × V)} {kvs : List (Val × Val)} (k : List Key), RepT K mg F ks kvs → (look kvs (.tup (k.map keyV)) = none ∧ valV ks k = none) ∨ ∃ v x, look kvs (.tup (k.map keyV)) = some v ∧ valV ks k = some x ∧ Rep K mg F x v
  | _, _, _, .nil => .inl ⟨rfl, rfl⟩
  | _, _, k, .cons (k := j) (x := x) (v := v) (kvs := kvs) a r => by
    by_cases e : j = k
    · subst e
      refine .inr ⟨v, x, ?_, valV_pos rfl, a⟩
      simp [EV.look, List.find?_cons, eqv, keyVs_eqv]
    · have e2 : eqv (.tup (j.map keyV)) (.tup (k.map keyV)) = false := by simp only [eqv]; rw [keyVs_eqv]; exact decide_eq_false e
      rw [valV_neg (p := (j, x)) e]
      have e3 : EV.look ((Val.tup (j.map keyV), v) :: kvs) (.tup (k.map keyV)) = EV.look kvs (.tup (k.map keyV)) := by
        simp [EV.look, List.find?_cons, e2]
      rw [e3]
      exact RepT.look k r
theorem RepK.fits0 : ∀ {ks : List (Key × V)} {kvs : List (Val × Val)} {l : List Val}, RepK K mg F ks kvs → fits kvs (.tup l) = true → ks = [] ∧ kvs = []
  | _, _, _, .nil, _ => ⟨rfl, rfl⟩
  | _, _, _, .cons (k := k) a r, h => by
    simp only [fits, List.all_cons, Bool.and_eq_true] at h
    cases k <;> exact absurd h.1 (by simp [keyV, isTup])
theorem RepT.fits0 : ∀ {ks : List (List Key × V)} {kvs : List (Val × Val)} {k : Key}, RepT K mg F ks kvs → fits kvs (keyV k) = true → ks = [] ∧ kvs = []
  | _, _, _, .nil, _ => ⟨rfl, rfl⟩
  | _, _, k, .cons a r, h => by
    simp only [fits, List.all_cons, Bool.and_eq_true] at h
    cases k <;> exact absurd h.1 (by simp [keyV, isTup])
end
theorem toH0 {P : Program} {w : World} {κ κ' : Type} [DecidableEq κ] [DecidableEq κ'] {knd : KeyKind P w κ} {knd' : HeapKind P w κ'} {h : Heap} {a : Addr} (d : h.DictOf knd a []) : h.DictOfH knd' a [] := by
  obtain ⟨o, es, ep, h1, h2, h3, h4, h5, h6⟩ := d
  have e : es.toList = [] := List.length_eq_zero_iff.mp h5.length
  exact ⟨o, es, ep, h1, h2, h3, by rw [e]; rfl, ⟨fun x hx => absurd hx (by simp), List.nodup_nil⟩⟩
theorem toK0 {P : Program} {w : World} {κ κ' : Type} [DecidableEq κ] [DecidableEq κ'] {knd : KeyKind P w κ} {knd' : HeapKind P w κ'} {h : Heap} {a : Addr} (d : h.DictOfH knd' a []) : h.DictOf knd a [] := by
  obtain ⟨o, es, ep, h1, h2, h3, h4, h5, h6⟩ := d
  have e : es.toList = [] := by rw [h4]; rfl
  refine ⟨o, es, ep, h1, h2, h3, ?_, by rw [e]; exact .nil, List.nodup_nil⟩
  have e2 : es = #[] := by
    apply Array.ext'
    rw [e]
  subst e2
  intro i hi
  simp at hi
section
variable {X : Cx} {pins : List (Addr × Obj)} {σ : L2.St} {H F : Hp} {s : Shared} {a : Addr} {x : V} {kvs : List (Val × Val)} {k : Val} {u : Value}
inductive DIs (X : Cx) (F H : Hp) (s : Shared) (a : Addr) (x : V) (k : Val) (kvs : List (Val × Val)) : Prop
  | k (j : Key) (ks : List (Key × V)) (vs : List (Key × Value)) : x = kV j → k = keyV j → RepK X.K X.mg F ks kvs → (a == sysModules) = false → KV ks vs → s.heap.DictOf (mixKind X.prog X.w) a vs → DIs X F H s a x k kvs
  | t (j : List Key) (b : Addr) (ks : List (List Key × V)) (xs : List (List Key × Addr × Value)) : x = .ref b → k = .tup (j.map keyV) → H b = some (.tup (j.map kV)) → RepT X.K X.mg F ks kvs → (a == sysModules) = false → KT H ks xs → s.heap.DictOfH (tupleKind (mixKind X.prog X.w)) a xs → DIs X F H s a x k kvs
theorem dict_is (I : Inv X pins σ H s) (e : Ex' F H) (r : RepB X.K X.mg F H (.ref a) (.dct kvs)) (rk : RepB X.K X.mg F H x k) (hk : dkey k = true) (hf : fits kvs k = true) : DIs X F H s a x k kvs := by
  have tup : keyOk k = false → ∃ (j : List Key) (b : Addr), x = .ref b ∧ k = .tup (j.map keyV) ∧ H b = some (.tup (j.map kV)) := fun hn => by
    cases rk with
    | tup q rs =>
      obtain ⟨js, rfl, rfl⟩ := rs.keys (by simpa [dkey] using hk)
      exact ⟨js, _, rfl, rfl, e _ _ q⟩
    | int i => cases hn
    | str l => cases hn
    | _ => cases hk
  cases r with
  | dk h r =>
    obtain ⟨z, hd, vs, rel, dd⟩ := dk_rd I.hok h
    by_cases ht : keyOk k = true
    · obtain ⟨j, rfl, rfl⟩ := rk.key ht
      exact .k j _ vs rfl rfl r hd rel dd
    · obtain ⟨j, b, rfl, rfl, hb⟩ := tup (by simpa using ht)
      obtain ⟨rfl, rfl⟩ := r.fits0 hf
      cases rel
      exact .t j b [] [] rfl rfl hb .nil hd .nil (toH0 dd)
  | dt h r =>
    obtain ⟨z, hd, xs, rel, dd⟩ := dt_rd I.hok h
    by_cases ht : keyOk k = true
    · obtain ⟨j, rfl, rfl⟩ := rk.key ht
      obtain ⟨rfl, rfl⟩ := r.fits0 hf
      cases rel
      exact .k j [] [] rfl rfl .nil hd .nil (toK0 dd)
    · obtain ⟨j, b, rfl, rfl, hb⟩ := tup (by simpa using ht)
      exact .t j b _ xs rfl rfl hb r hd rel dd
theorem dict_in {A : Around} {E : Value → Shared → Prop} {Q : Value → Shared → Prop} (hu : A.units + 1 < cLine) (I : Inv X pins σ H s) (d : DIs X F H s a x k kvs) (ru : RelV x u) (h : ∀ s', Inv X pins σ H s' → Q (.bool (look kvs k).isSome) s') :
    wpAny (model X.prog X.w) A (compareOp .In u (.ref a)) Q E s := by
  cases d with
  | k j ks vs ex ek r hd rel dd =>
    subst ex ek
    refine wpAny_in_of (kV_is ru) hd dd.mapOf ?_
    rw [← (rel.val j).isSome_eq]
    rcases r.look j with ⟨h1, h2⟩ | ⟨v, y, h1, h2, h3⟩
    · rw [h2]; rw [h1] at h; exact h _ (I.tok _)
    · rw [h2]; rw [h1] at h; exact h _ (I.tok _)
  | t j b ks xs ex ek hb r hd rel dd =>
    subst ex ek
    cases (show u = Value.ref b from ru)
    refine wpAny_in_heap (tupleKind_room_in1 hu) (key_of I.hok hb) hd dd ?_
    have q := (rel.val j).isSome_eq
    rw [Option.isSome_map] at q
    rw [← q]
    rcases r.look j with ⟨h1, h2⟩ | ⟨v, y, h1, h2, h3⟩
    · rw [h2]; rw [h1] at h; exact h _ (I.tok _)
    · rw [h2]; rw [h1] at h; exact h _ (I.tok _)
theorem dict_notIn {A : Around} {E : Value → Shared → Prop} {Q : Value → Shared → Prop} (hu : A.units + 1 < cLine) (I : Inv X pins σ H s) (d : DIs X F H s a x k kvs) (ru : RelV x u) (h : ∀ s', Inv X pins σ H s' → Q (.bool (!(look kvs k).isSome)) s') :
    wpAny (model X.prog X.w) A (compareOp .NotIn u (.ref a)) Q E s := by
  cases d with
  | k j ks vs ex ek r hd rel dd =>
    subst ex ek
    refine wpAny_notIn_of (kV_is ru) hd dd.mapOf ?_
    rw [← (rel.val j).isSome_eq]
    rcases r.look j with ⟨h1, h2⟩ | ⟨v, y, h1, h2, h3⟩
    · rw [h2]; rw [h1] at h; exact h _ (I.tok _)
    · rw [h2]; rw [h1] at h; exact h _ (I.tok _)
  | t j b ks xs ex ek hb r hd rel dd =>
    subst ex ek
    cases (show u = Value.ref b from ru)
    refine wpAny_notIn_heap (tupleKind_room_in1 hu) (key_of I.hok hb) hd dd ?_
    have q := (rel.val j).isSome_eq
    rw [Option.isSome_map] at q
    rw [← q]
    rcases r.look j with ⟨h1, h2⟩ | ⟨v, y, h1, h2, h3⟩
    · rw [h2]; rw [h1] at h; exact h _ (I.tok _)
    · rw [h2]; rw [h1] at h; exact h _ (I.tok _)
theorem dict_look {v : Val} (r : RepB X.K X.mg F H (.ref a) (.dct kvs)) (e : Ex' F H) (rk : RepB X.K X.mg F H x k) (hk : dkey k = true) (hf : fits kvs k = true) (hl : look kvs k = some v) : ∃ y, DGet H a x (some y) ∧ Rep X.K X.mg F y v := by
  have hne : kvs ≠ [] := fun z => by subst z; cases hl
  cases r with
  | dk h r =>
    by_cases ht : keyOk k = true
    · obtain ⟨j, rfl, rfl⟩ := rk.key ht
      rcases r.look j with ⟨h1, h2⟩ | ⟨v', y, h1, h2, h3⟩
      · rw [h1] at hl; cases hl
      · rw [h1] at hl; cases hl
        exact ⟨y, .inl ⟨_, j, h, rfl, h2.symm⟩, h3⟩
    · cases rk with
      | tup q rs => exact absurd (r.fits0 hf).2 hne
      | int i => exact absurd rfl ht
      | str l => exact absurd rfl ht
      | _ => cases hk
  | dt h r =>
    by_cases ht : keyOk k = true
    · obtain ⟨j, rfl, rfl⟩ := rk.key ht
      exact absurd (r.fits0 hf).2 hne
    · cases rk with
      | tup q rs =>
        obtain ⟨js, rfl, rfl⟩ := rs.keys (by simpa [dkey] using hk)
        rcases r.look js with ⟨h1, h2⟩ | ⟨v', y, h1, h2, h3⟩
        · rw [h1] at hl; cases hl
        · rw [h1] at hl; cases hl
          exact ⟨y, .inr ⟨_, js, _, h, rfl, e _ _ q, h2.symm⟩, h3⟩
      | int i => exact absurd rfl ht
      | str l => exact absurd rfl ht
      | _ => cases hk
end
def rCmp (K : PySem.W.Frag) (mg : Str → Option Value) (o : Cmp) : R2 := fun x y H Q => ∃ F u w c, Ex' F H ∧ RepB K mg F H x u ∧ RepB K mg F H y w ∧ cmpF o u w = some c ∧ Q (.bl c) H
theorem any_D : ∀ {ys : List Val} {ds : List PyData} {x : Val} {d : PyData}, toDs ys = some ds → toD x = some d → (ds.any fun z => PyData.eqv z d) = ys.any fun y => eqv y x
  | [], ds, x, d, h, k => by simp only [toDs] at h; cases h; rfl
  | y :: r, ds, x, d, h, k => by
    simp only [toDs, Option.bind_eq_some_iff, Option.map_eq_some_iff] at h
    obtain ⟨dy, hy, dr, hr, rfl⟩ := h
    rw [List.any_cons, List.any_cons, eqv_D hy k, any_D hr k]
section
variable {X : Cx} {kr : Nat}
theorem op_cmp (hr : Room kr X.A) (o : Cmp) : OpR X (compareOp (cOp o)) (rCmp X.K X.mg o) := by
  intro pins s σ H x y v u Q I rx ry h
  obtain ⟨F, a, b, c, e, ra, rb, hb, k⟩ := h
  have hu : X.A.units + 65 < cLine := by have := hr.un; omega
  have eqq : ∀ {d1 d2 : PyData} {z : Bool}, toD a = some d1 → toD b = some d2 → SeqAt.shaped d1 = true → SeqAt.shaped d2 = true → z = PyData.eqv d1 d2 → True := fun _ _ _ _ _ => trivial
  cases o with
  | eq =>
    simp only [cmpF, eqF] at hb
    split at hb
    · cases hb
      rename_i hs
      rcases Bool.or_eq_true_iff.mp hs with hs | hs
      · rw [Bool.and_eq_true] at hs
        cases ra with
        | str i =>
          cases rb with
          | str j =>
            have e1 : eqv (.str i) (.str j) = (i == j) := by simp only [eqv]
            rw [e1] at k
            exact op_eq pins s σ H _ _ v u Q I rx ry ⟨rfl, by rw [dec_str, toS_inj]; exact k⟩
          | _ => exact nomatch (show (false : Bool) = true from hs.2)
        | _ => exact nomatch (show (false : Bool) = true from hs.1)
      rw [Bool.and_eq_true] at hs
      obtain ⟨d1, h1, s1⟩ := shp_D hs.1
      obtain ⟨d2, h2, s2⟩ := shp_D hs.2
      exact op_eqD (by have := hr.units; omega) pins s σ H x y v u Q I rx ry ⟨d1, d2, ra.dp e h1, rb.dp e h2, s1, s2, by rw [eqv_D h1 h2]; exact k⟩
    · cases hb
  | ne =>
    simp only [cmpF, eqF] at hb
    split at hb
    · cases hb
      rename_i hs
      rcases Bool.or_eq_true_iff.mp hs with hs | hs
      · rw [Bool.and_eq_true] at hs
        cases ra with
        | str i =>
          cases rb with
          | str j =>
            have e1 : eqv (.str i) (.str j) = (i == j) := by simp only [eqv]
            rw [e1] at k
            exact op_ne pins s σ H _ _ v u Q I rx ry ⟨rfl, by rw [dec_str, toS_inj]; exact k⟩
          | _ => exact nomatch (show (false : Bool) = true from hs.2)
        | _ => exact nomatch (show (false : Bool) = true from hs.1)
      rw [Bool.and_eq_true] at hs
      obtain ⟨d1, h1, s1⟩ := shp_D hs.1
      obtain ⟨d2, h2, s2⟩ := shp_D hs.2
      exact op_neD (by have := hr.units; omega) pins s σ H x y v u Q I rx ry ⟨d1, d2, ra.dp e h1, rb.dp e h2, s1, s2, by rw [eqv_D h1 h2]; exact k⟩
    · cases hb
  | lt =>
    cases ra with
    | int i => cases rb <;> simp only [cmpF] at hb <;> cases hb; exact op_lt pins s σ H _ _ v u Q I rx ry ⟨_, _, rfl, rfl, k⟩
    | str i =>
      cases rb <;> simp only [cmpF] at hb <;> cases hb
      rename_i j
      refine op_lt_str pins s σ H _ _ v u Q I rx ry ⟨toS i, toS j, rfl, rfl, ?_⟩
      have e1 : decide ((toS i).cps.toList < (toS j).cps.toList) = decide (i < j) := by
        rw [Bool.eq_iff_iff]
        simp only [decide_eq_true_eq]
        exact Iff.rfl
      rw [e1]; exact k
    | _ => simp only [cmpF] at hb; cases hb
  | le =>
    cases ra with
    | int i => cases rb <;> simp only [cmpF] at hb <;> cases hb; exact op_le pins s σ H _ _ v u Q I rx ry ⟨_, _, rfl, rfl, k⟩
    | _ => simp only [cmpF] at hb; cases hb
  | gt =>
    cases ra with
    | int i => cases rb <;> simp only [cmpF] at hb <;> cases hb; exact op_gt pins s σ H _ _ v u Q I rx ry ⟨_, _, rfl, rfl, k⟩
    | _ => simp only [cmpF] at hb; cases hb
  | ge =>
    cases ra with
    | int i => cases rb <;> simp only [cmpF] at hb <;> cases hb; exact op_ge pins s σ H _ _ v u Q I rx ry ⟨_, _, rfl, rfl, k⟩
    | _ => simp only [cmpF] at hb; cases hb
  | is =>
    cases rb with
    | non =>
      simp only [cmpF] at hb
      cases hb
      refine op_isN pins s σ H _ _ v u Q I rx ry ⟨rfl, ?_⟩
      cases ra <;> exact k
    | bl b =>
      cases ra with
      | bl a =>
        simp only [cmpF] at hb
        cases hb
        exact op_isB pins s σ H _ _ v u Q I rx ry ⟨a, b, rfl, rfl, k⟩
      | _ => simp only [cmpF] at hb; cases hb
    | _ => cases ra <;> simp only [cmpF] at hb <;> cases hb
  | isnt =>
    cases rb with
    | non =>
      simp only [cmpF] at hb
      cases hb
      refine op_notN pins s σ H _ _ v u Q I rx ry ⟨rfl, ?_⟩
      cases ra <;> exact k
    | bl b =>
      cases ra with
      | bl a =>
        simp only [cmpF] at hb
        cases hb
        exact op_isntB pins s σ H _ _ v u Q I rx ry ⟨a, b, rfl, rfl, k⟩
      | _ => simp only [cmpF] at hb; cases hb
    | _ => cases ra <;> simp only [cmpF] at hb <;> cases hb
  | isin =>
    have hb : inF a b = some c := hb
    cases rb with
    | lst s2 r2 =>
      have hb : (if shp a && shp (.lst _) then some (List.any _ fun y => eqv y a) else none) = some c := hb
      split at hb
      · rename_i hs
        cases hb
        rw [Bool.and_eq_true] at hs
        obtain ⟨d1, h1, s1⟩ := shp_D hs.1
        obtain ⟨d2, h2, s2'⟩ := shp_D hs.2
        have rb' := RepB.dp e (RepB.lst s2 r2) h2
        simp only [toD, Option.map_eq_some_iff] at h2
        obtain ⟨ds, h2, rfl⟩ := h2
        exact op_inD hu pins s σ H _ _ v u Q I rx ry ⟨d1, ds, ra.dp e h1, rb', s1, s2', by rw [any_D h2 h1]; exact k⟩
      · cases hb
    | tup s2 r2 =>
      have hb : (if shp a && shp (.tup _) then some (List.any _ fun y => eqv y a) else none) = some c := hb
      split at hb
      · rename_i hs
        cases hb
        rw [Bool.and_eq_true] at hs
        obtain ⟨d1, h1, s1⟩ := shp_D hs.1
        obtain ⟨d2, h2, s2'⟩ := shp_D hs.2
        have rb' := RepB.dp e (RepB.tup s2 r2) h2
        simp only [toD, Option.map_eq_some_iff] at h2
        obtain ⟨ds, h2, rfl⟩ := h2
        obtain ⟨as1, r1⟩ := Dp.reads I d1 _ v (ra.dp e h1) rx
        obtain ⟨bs1, r2⟩ := Dp.reads I (.tuple ds) _ u rb' ry
        refine SeqAt.in_tuple_reads r2 r1 (SeqAt.canLay_of_shaped s2') (SeqAt.canLay_of_shaped s1) (room_in_shaped s1 hu) ⟨.bl _, H, I, rfl, ?_⟩
        rw [any_D h2 h1]; exact k
      · cases hb
    | dk s2 r2 =>
      have hb : (if dkey a && fits _ a then some (look _ a).isSome else none) = some c := hb
      split at hb
      · rename_i hs
        cases hb
        rw [Bool.and_eq_true] at hs
        cases ry
        exact dict_in (by omega) I (dict_is I e (.dk s2 r2) ra hs.1 hs.2) rx fun s' I' => ⟨.bl _, H, I', rfl, k⟩
      · cases hb
    | dt s2 r2 =>
      have hb : (if dkey a && fits _ a then some (look _ a).isSome else none) = some c := hb
      split at hb
      · rename_i hs
        cases hb
        rw [Bool.and_eq_true] at hs
        cases ry
        exact dict_in (by omega) I (dict_is I e (.dt s2 r2) ra hs.1 hs.2) rx fun s' I' => ⟨.bl _, H, I', rfl, k⟩
      · cases hb
    | str l =>
      cases ra with
      | str l1 =>
        match l1, hb with
        | [c1], hb =>
          have hb : some (l.contains c1) = some c := hb
          cases hb
          refine op_in_sign pins s σ H _ _ v u Q I rx ry ⟨c1, toS l, rfl, rfl, ?_⟩
          have e1 : decide (c1 ∈ (toS l).cps.toList) = l.contains c1 := by
            rw [Bool.eq_iff_iff, decide_eq_true_iff]
            exact List.contains_iff_mem.symm
          rw [e1]; exact k
      | _ => cases hb
    | @wtp _ zs s2 =>
      cases ra with
      | str l1 =>
        have hb : some (zs.contains l1) = some c := hb
        cases hb
        have fl : (zs.map fun l => V.str (toS l)).all flatV = true := by simp [flatV]
        refine op_in_seq pins s σ H _ _ v u Q I rx ry ⟨_, _, rfl, .inr (s2.sqT _), rfl, fl, ?_⟩
        have e1 : inV (V.str (toS l1)) (zs.map fun l => V.str (toS l)) = zs.contains l1 := by
          unfold inV
          rw [List.any_map, List.contains_eq_any_beq]
          congr 1
          funext z
          show eqV (V.str (toS z)) (V.str (toS l1)) = (l1 == z)
          have : eqV (V.str (toS z)) (V.str (toS l1)) = (toS z == toS l1) := rfl
          rw [this, toS_inj, Bool.eq_iff_iff, beq_iff_eq, beq_iff_eq]
          exact eq_comm
        simp only [Bool.false_eq_true, if_false]
        rw [e1]; exact k
      | _ => cases hb
    | _ => cases hb
  | notin =>
    have hb : (inF a b).map (!·) = some c := hb
    obtain ⟨c', hq, hc'⟩ := Option.map_eq_some_iff.mp hb
    subst hc'
    clear hb
    cases rb with
    | lst s2 r2 =>
      have hb : (if shp a && shp (.lst _) then some (List.any _ fun y => eqv y a) else none) = some c' := hq
      split at hb
      · rename_i hs
        cases hb
        rw [Bool.and_eq_true] at hs
        obtain ⟨d1, h1, s1⟩ := shp_D hs.1
        obtain ⟨d2, h2, s2'⟩ := shp_D hs.2
        have rb' := RepB.dp e (RepB.lst s2 r2) h2
        simp only [toD, Option.map_eq_some_iff] at h2
        obtain ⟨ds, h2, rfl⟩ := h2
        exact op_notInD hu pins s σ H _ _ v u Q I rx ry ⟨d1, ds, ra.dp e h1, rb', s1, s2', by rw [any_D h2 h1]; exact k⟩
      · cases hb
    | tup s2 r2 =>
      have hb : (if shp a && shp (.tup _) then some (List.any _ fun y => eqv y a) else none) = some c' := hq
      split at hb
      · rename_i hs
        cases hb
        rw [Bool.and_eq_true] at hs
        obtain ⟨d1, h1, s1⟩ := shp_D hs.1
        obtain ⟨d2, h2, s2'⟩ := shp_D hs.2
        have rb' := RepB.dp e (RepB.tup s2 r2) h2
        simp only [toD, Option.map_eq_some_iff] at h2
        obtain ⟨ds, h2, rfl⟩ := h2
        obtain ⟨as1, r1⟩ := Dp.reads I d1 _ v (ra.dp e h1) rx
        obtain ⟨bs1, r2⟩ := Dp.reads I (.tuple ds) _ u rb' ry
        refine SeqAt.notIn_tuple_reads r2 r1 (SeqAt.canLay_of_shaped s2') (SeqAt.canLay_of_shaped s1) (room_in_shaped s1 hu) ⟨.bl _, H, I, rfl, ?_⟩
        rw [any_D h2 h1]; exact k
      · cases hb
    | dk s2 r2 =>
      have hb : (if dkey a && fits _ a then some (look _ a).isSome else none) = some c' := hq
      split at hb
      · rename_i hs
        cases hb
        rw [Bool.and_eq_true] at hs
        cases ry
        exact dict_notIn (by omega) I (dict_is I e (.dk s2 r2) ra hs.1 hs.2) rx fun s' I' => ⟨.bl _, H, I', rfl, k⟩
      · cases hb
    | dt s2 r2 =>
      have hb : (if dkey a && fits _ a then some (look _ a).isSome else none) = some c' := hq
      split at hb
      · rename_i hs
        cases hb
        rw [Bool.and_eq_true] at hs
        cases ry
        exact dict_notIn (by omega) I (dict_is I e (.dt s2 r2) ra hs.1 hs.2) rx fun s' I' => ⟨.bl _, H, I', rfl, k⟩
      · cases hb
    | str l =>
      cases ra with
      | str l1 =>
        match l1, hq with
        | [c1], hq =>
          have hb : some (l.contains c1) = some c' := hq
          cases hb
          refine op_notIn_sign pins s σ H _ _ v u Q I rx ry ⟨c1, toS l, rfl, rfl, ?_⟩
          have e1 : decide (c1 ∈ (toS l).cps.toList) = l.contains c1 := by
            rw [Bool.eq_iff_iff, decide_eq_true_iff]
            exact List.contains_iff_mem.symm
          rw [e1]; exact k
      | _ => cases hq
    | @wtp _ zs s2 =>
      cases ra with
      | str l1 =>
        have hb : some (zs.contains l1) = some c' := hq
        cases hb
        have fl : (zs.map fun l => V.str (toS l)).all flatV = true := by simp [flatV]
        refine op_notIn_seq pins s σ H _ _ v u Q I rx ry ⟨_, _, rfl, .inr (s2.sqT _), rfl, fl, ?_⟩
        have e1 : inV (V.str (toS l1)) (zs.map fun l => V.str (toS l)) = zs.contains l1 := by
          unfold inV
          rw [List.any_map, List.contains_eq_any_beq]
          congr 1
          funext z
          show eqV (V.str (toS z)) (V.str (toS l1)) = (l1 == z)
          have : eqV (V.str (toS z)) (V.str (toS l1)) = (toS z == toS l1) := rfl
          rw [this, toS_inj, Bool.eq_iff_iff, beq_iff_eq, beq_iff_eq]
          exact eq_comm
        simp only [if_true]
        rw [e1]; exact k
      | _ => cases hq
    | _ => cases hq
end
end EV
namespace EV
open PySem PySem.Spec PyProof.Rows L2
theorem ixN_eq (n : Nat) (i : Int) : L2.ixN n i = EV.ixN n i := by
  unfold L2.ixN EV.ixN
  by_cases h0 : 0 ≤ i
  · by_cases h1 : i < n
    · simp [h0, h1]
    · have h2 : ¬ i < 0 := by omega
      simp [h0, h1, h2]
  · have h2 : i < 0 := by omega
    by_cases h1 : -(n : Int) ≤ i
    · simp [h0, h1, h2]
    · simp [h0, h1, h2]
section
variable {K : PySem.W.Frag} {mg : Str → Option Value} {F H : Hp}
theorem Reps.atI {xs : List V} {vs : List Val} {i : Int} {v : Val} (r : Reps K mg F xs vs) (h : ((EV.ixN vs.length i).bind fun j => vs[j]?) = some v) : ∃ x, L2.atI xs i = some x ∧ Rep K mg F x v := by
  obtain ⟨j, h1, h2⟩ := Option.bind_eq_some_iff.mp h
  obtain ⟨x, h3, h4⟩ := r.get h2
  refine ⟨x, ?_, h4⟩
  unfold L2.atI
  rw [ixN_eq, r.length, h1]
  exact h3
def rIdx (K : PySem.W.Frag) (mg : Str → Option Value) : R2 := fun x y H Q => ∃ F u w z, Ex' F H ∧ RepB K mg F H x u ∧ RepB K mg F H y w ∧ idxF u w = some z ∧ ∀ v, Rep K mg F v z → Q v H
def rSlc (K : PySem.W.Frag) (mg : Str → Option Value) : V → Option Int → Option Int → Hp → VK → Prop := fun x lo hi H Q => ∃ F u r, Ex' F H ∧ RepB K mg F H x u ∧ slcF u lo hi = some r ∧ ∀ z H', NewR K mg F H z H' r → Q z H'
theorem sIx_eq (n d : Nat) (o : Option Int) : HT.sIx n d o = EV.sIx n d o := by cases o <;> rfl
theorem Reps.cut {xs : List V} {vs : List Val} (r : Reps K mg F xs vs) (lo hi : Option Int) : Reps K mg F (cutV xs lo hi) (EV.cut vs lo hi) := by
  unfold cutV EV.cut
  rw [sIx_eq, sIx_eq, r.length]
  exact (r.drop _).take _
theorem reps_ints : ∀ ns : List Int, Reps K mg F (ns.map V.int) (ns.map Val.int)
  | [] => .nil
  | n :: r => .cons (.int n) (reps_ints r)
end
section
variable {X : Cx} {kr : Nat}
theorem ix_val (hr : Room kr X.A) : IxR X (rIdx X.K X.mg) := by
  intro value slice pins s σ H x y v u Q I rx ry h hs
  obtain ⟨F, a, b, z, e, ra, rb, hb, k⟩ := h
  have dct : ∀ {ad : Addr} {kvs : List (Val × Val)}, x = .ref ad → RepB X.K X.mg F H (.ref ad) (.dct kvs) → (if dkey b && fits kvs b then look kvs b else none) = some z → wpAny (model X.prog X.w) X.A (subscriptTail value slice v u) (EP X pins σ Q) X.xe s := by
    intro ad kvs ex r hb
    subst ex
    split at hb
    · rename_i hc
      rw [Bool.and_eq_true] at hc
      obtain ⟨w, g, q⟩ := dict_look r e rb hc.1 hc.2 hb
      obtain rfl : v = Value.ref ad := rx
      exact tail_any (dict_typeIs I g) PySem.F.slot_dict_getitem.lookup (d_getItem (by have := hr.un; omega) I g ry fun w' s3 I3 rw' => ⟨w, H, I3, rw', k w q⟩) hs
    · cases hb
  cases ra with
  | lst s1 r1 =>
    cases rb <;> simp only [idxF] at hb <;> try cases hb
    obtain ⟨w, h1, h2⟩ := r1.atI hb
    exact ix_list value slice pins s σ H _ _ v u Q I rx ry ⟨_, _, _, w, rfl, rfl, .inl (.inl s1), h1, k w h2⟩ hs
  | tup s1 r1 =>
    cases rb <;> simp only [idxF] at hb <;> try cases hb
    obtain ⟨w, h1, h2⟩ := r1.atI hb
    exact ix_tup value slice pins s σ H _ _ v u Q I rx ry ⟨_, _, _, w, rfl, rfl, .inl (.inl (e _ _ s1)), h1, k w h2⟩ hs
  | str l =>
    cases rb <;> simp only [idxF] at hb <;> try cases hb
    split at hb
    · rename_i hz
      obtain ⟨j, h1, h2⟩ := Option.bind_eq_some_iff.mp hb
      obtain ⟨c, h3, rfl⟩ := Option.map_eq_some_iff.mp h2
      refine ix_str value slice pins s σ H _ _ v u Q I rx ry ⟨toS l, _, c, rfl, rfl, by rw [toS_len]; exact cap_line hz, ?_, k _ (.str [c])⟩ hs
      unfold L2.atI
      rw [ixN_eq]
      have e1 : (toS l).cps.toList = l := by simp [toS]
      rw [e1, h1]; exact h3
    · cases hb
  | @scr ad ns s1 =>
    cases rb <;> simp only [idxF] at hb <;> try cases hb
    obtain ⟨n, h1, rfl⟩ := Option.map_eq_some_iff.mp hb
    obtain ⟨j, h2, h3⟩ := Option.bind_eq_some_iff.mp h1
    refine ix_list value slice pins s σ H _ _ v u Q I rx ry ⟨_, _, _, .int n, rfl, rfl, s1, ?_, k _ (.int n)⟩ hs
    unfold L2.atI
    rw [ixN_eq, List.length_map, h2]
    show (ns.map V.int)[j]? = some (V.int n)
    rw [List.getElem?_map, h3]; rfl
  | dk s1 r1 => exact dct rfl (.dk s1 r1) (by cases rb <;> exact hb)
  | dt s1 r1 => exact dct rfl (.dt s1 r1) (by cases rb <;> exact hb)
  | _ => simp only [idxF] at hb; cases hb
theorem sl_val : SlR X (rSlc X.K X.mg) := by
  intro pins s σ H x v vl vu lo hi sl Q I rx hs pl pu h
  obtain ⟨F, a, r, e, ra, hb, k⟩ := h
  cases ra with
  | lst s1 r1 =>
    simp only [slcF] at hb; cases hb
    exact sl_list pins s σ H _ v vl vu lo hi sl Q I rx hs pl pu ⟨_, _, rfl, .inl (.inl s1), fun p hp => k _ _ (newL hp (r1.cut lo hi))⟩
  | tup s1 r1 =>
    simp only [slcF] at hb; cases hb
    refine sl_tupA pins s σ H _ v vl vu lo hi sl Q I rx hs pl pu ⟨_, _, rfl, .inl (.inl (e _ _ s1)), fun z => ?_, fun _ p hp => k _ _ (newT hp (r1.cut lo hi))⟩
    have e1 : ∀ l : List Val, EV.sIx l.length 0 lo = 0 → EV.sIx l.length l.length hi = l.length → EV.cut l lo hi = l := fun l h1 h2 => by
      unfold EV.cut
      rw [h1, h2]; simp
    rw [sIx_eq, sIx_eq, r1.length] at z
    rw [e1 _ z.1 z.2] at k
    exact k _ _ (newR (.tup s1 r1))
  | str l =>
    simp only [slcF] at hb
    split at hb
    · rename_i hz
      cases hb
      refine sl_str pins s σ H _ v vl vu lo hi sl Q I rx hs pl pu ⟨toS l, rfl, by rw [toS_len]; exact cap_line hz, ?_⟩
      have e1 : cutS (toS l) lo hi = toS (EV.cut l lo hi) := by
        unfold cutS EV.cut
        rw [sIx_eq, sIx_eq, toS_len]
        simp [toS]
      rw [e1]
      exact k _ _ (newS _)
    · cases hb
  | @scr ad ns s1 =>
    simp only [slcF] at hb; cases hb
    refine sl_list pins s σ H _ v vl vu lo hi sl Q I rx hs pl pu ⟨_, _, rfl, s1, fun p hp => ?_⟩
    have e1 : cutV (ns.map V.int) lo hi = (EV.cut ns lo hi).map V.int := by
      unfold cutV EV.cut
      rw [sIx_eq, sIx_eq, List.length_map, List.map_take, List.map_drop]
    rw [e1]
    exact k _ _ (newL hp (reps_ints _))
  | _ => simp only [slcF] at hb; cases hb
end
section
variable {K : PySem.W.Frag} {mg : Str → Option Value} {F H : Hp}
theorem RepK.put {ks : List (Key × V)} {kvs : List (Val × Val)} {k : Key} {x : V} {v : Val} (r : RepK K mg F ks kvs) (rx : Rep K mg F x v) : RepK K mg F (putK ks k x) (put kvs (keyV k) v) := by
  have any : ∀ {ks : List (Key × V)} {kvs : List (Val × Val)}, RepK K mg F ks kvs → (kvs.any fun p => eqv p.1 (keyV k)) = ks.any fun kv => decide (kv.1 = k) := by
    intro ks kvs r
    induction ks generalizing kvs with
    | nil => cases r; rfl
    | cons p ps ih => cases r with | cons a r => simp only [List.any_cons, keyV_eqv, ih r]
  have mp : ∀ {ks : List (Key × V)} {kvs : List (Val × Val)}, RepK K mg F ks kvs → RepK K mg F (ks.map fun kv => if kv.1 = k then (kv.1, x) else kv) (kvs.map fun p => if eqv p.1 (keyV k) then (p.1, v) else p) := by
    intro ks kvs r
    induction ks generalizing kvs with
    | nil => cases r; exact .nil
    | cons p ps ih =>
      cases r with
      | @cons j y _ w _ a r =>
        simp only [List.map_cons, keyV_eqv]
        by_cases e : j = k
        · simp only [e, if_true, decide_true]
          exact .cons rx (ih r)
        · simp only [e, if_false, decide_false, Bool.false_eq_true]
          exact .cons a (ih r)
  have ap : ∀ {ks : List (Key × V)} {kvs : List (Val × Val)}, RepK K mg F ks kvs → RepK K mg F (ks ++ [(k, x)]) (kvs ++ [(keyV k, v)]) := by
    intro ks kvs r
    induction ks generalizing kvs with
    | nil => cases r; exact .cons rx .nil
    | cons p ps ih => cases r with | cons a r => exact .cons a (ih r)
  unfold putK EV.put
  rw [any r]
  by_cases h : (ks.any fun kv => decide (kv.1 = k)) = true
  · rw [if_pos h, if_pos h]; exact mp r
  · rw [if_neg h, if_neg h]; exact ap r
theorem RepT.put {ks : List (List Key × V)} {kvs : List (Val × Val)} {k : List Key} {x : V} {v : Val} (r : RepT K mg F ks kvs) (rx : Rep K mg F x v) : RepT K mg F (putK ks k x) (put kvs (.tup (k.map keyV)) v) := by
  have ek : ∀ j : List Key, eqv (.tup (j.map keyV)) (.tup (k.map keyV)) = decide (j = k) := fun j => by simp only [eqv]; exact keyVs_eqv j k
  have any : ∀ {ks : List (List Key × V)} {kvs : List (Val × Val)}, RepT K mg F ks kvs → (kvs.any fun p => eqv p.1 (.tup (k.map keyV))) = ks.any fun kv => decide (kv.1 = k) := by
    intro ks kvs r
    induction ks generalizing kvs with
    | nil => cases r; rfl
    | cons p ps ih => cases r with | cons a r => simp only [List.any_cons, ek, ih r]
  have mp : ∀ {ks : List (List Key × V)} {kvs : List (Val × Val)}, RepT K mg F ks kvs → RepT K mg F (ks.map fun kv => if kv.1 = k then (kv.1, x) else kv) (kvs.map fun p => if eqv p.1 (.tup (k.map keyV)) then (p.1, v) else p) := by
    intro ks kvs r
    induction ks generalizing kvs with
    | nil => cases r; exact .nil
    | cons p ps ih =>
      cases r with
      | @cons j y _ w _ a r =>
        simp only [List.map_cons, ek]
        by_cases e : j = k
        · simp only [e, if_true, decide_true]
          exact .cons rx (ih r)
        · simp only [e, if_false, decide_false, Bool.false_eq_true]
          exact .cons a (ih r)
  have ap : ∀ {ks : List (List Key × V)} {kvs : List (Val × Val)}, RepT K mg F ks kvs → RepT K mg F (ks ++ [(k, x)]) (kvs ++ [(.tup (k.map keyV), v)]) := by
    intro ks kvs r
    induction ks generalizing kvs with
    | nil => cases r; exact .cons rx .nil
    | cons p ps ih => cases r with | cons a r => exact .cons a (ih r)
  unfold putK EV.put
  rw [any r]
  by_cases h : (ks.any fun kv => decide (kv.1 = k)) = true
  · rw [if_pos h, if_pos h]; exact mp r
  · rw [if_neg h, if_neg h]; exact ap r
theorem RepK.length : ∀ {ks : List (Key × V)} {kvs : List (Val × Val)}, RepK K mg F ks kvs → ks.length = kvs.length
  | _, _, .nil => rfl
  | _, _, .cons _ r => by simp [RepK.length r]
theorem RepT.length : ∀ {ks : List (List Key × V)} {kvs : List (Val × Val)}, RepT K mg F ks kvs → ks.length = kvs.length
  | _, _, .nil => rfl
  | _, _, .cons _ r => by simp [RepT.length r]
end
section
variable {X : Cx} {pins : List (Addr × Obj)} {σ : L2.St} {H F : Hp} {s : Shared} {kr : Nat}
theorem seeT {a : Addr} (I : Inv X pins σ H s) (h : H a = some (.dK [])) : Inv X pins σ (upd H a (.dT [])) s := by
  obtain ⟨z, hd, vs, rel, dd⟩ := dk_of I.hok h
  cases rel
  obtain ⟨o, es, ep, h1, h2, h3, h4, h5, h6⟩ := toH0 (knd' := tupleKind (mixKind X.prog X.w)) dd
  exact I.write (t' := s.toks) (by rw [h]; exact True.intro) (.inl rfl) (fun _ _ _ q => q) ⟨o, h1⟩ ⟨Nat.zero_le _, hd, [], .nil, o, es, ep, h1, h2, h3, h4, List.nodup_nil⟩
theorem seeK {a : Addr} (I : Inv X pins σ H s) (h : H a = some (.dT [])) : Inv X pins σ (upd H a (.dK [])) s := by
  obtain ⟨z, hd, xs, rel, dd⟩ := dt_of I.hok h
  cases rel
  have d2 := toK0 (knd := mixKind X.prog X.w) dd
  obtain ⟨o, es, ep, h1, _⟩ := id d2
  exact I.write (t' := s.toks) (by rw [h]; exact True.intro) (.inl rfl) (fun _ _ _ q => q) ⟨o, h1⟩ ⟨Nat.zero_le _, hd, [], .nil, d2⟩
def rSetV (K : PySem.W.Frag) (mg : Str → Option Value) : TSet := fun o i v H Q => ∃ F a u w x r, o = .ref a ∧ Ex' F H ∧ Own K mg F H a u ∧ RepB K mg F H i w ∧ Rep K mg F v x ∧ setF u w x = some r ∧ ∀ ob, Own K mg F (upd H a ob) a r → Q (upd H a ob)
theorem set_val (hr : Room kr X.A) : PSet X (rSetV X.K X.mg) := by
  intro pins s σ H o i v ov iv u Q I ro ri rv h
  obtain ⟨F, a, c, w, x, r, rfl, e, ow, rw', rx, hb, k⟩ := h
  have hu : X.A.units + 1 < cLine := by have := hr.un; omega
  obtain rfl : ov = Value.ref a := ro
  cases ow with
  | @lst xs vs n h rs =>
    cases rw' <;> simp only [setF] at hb <;> try cases hb
    obtain ⟨j, h1, rfl⟩ := Option.map_eq_some_iff.mp hb
    exact set_list pins s σ H (.ref a) _ v _ iv u Q I rfl ri rv ⟨a, xs, _, j, rfl, rfl, h, by rw [ixN_eq, rs.length]; exact h1, k _ (.lst n upd_same (rs.set j rx))⟩
  | @dk ks kvs n h rs =>
    have hb : (if kvs.length < cap ∧ dkey w = true ∧ fits kvs w = true then some (Val.dct (put kvs w x)) else none) = some r := by cases rw' <;> exact hb
    split at hb
    · rename_i hc
      obtain ⟨hz, hk, hf⟩ := hc
      cases hb
      have hl : ks.length < sizeLine := by rw [rs.length, sizeLine_eq]; unfold cap at hz; omega
      by_cases ht : keyOk w = true
      · obtain ⟨j, rfl, rfl⟩ := rw'.key ht
        exact d_setItem hu I (.k h hl) ri rv fun s' I' => ⟨_, I', k _ (.dk n upd_same (rs.put rx))⟩
      · cases rw' with
        | tup q qs =>
          obtain ⟨js, rfl, rfl⟩ := qs.keys (by simpa [dkey] using hk)
          obtain ⟨rfl, rfl⟩ := rs.fits0 hf
          have I2 := seeT I h
          have hne : ∀ b ys, H b = some (.tup ys) → b ≠ a := fun b ys q z => by rw [z, h] at q; cases q
          refine d_setItem hu I2 (.t upd_same (by rw [upd_ne (hne _ _ (e _ _ q))]; exact e _ _ q) hl) ri rv fun s' I' => ⟨_, I', ?_⟩
          rw [upd_upd]
          exact k _ (.dt n upd_same (RepT.put .nil rx))
        | int i => exact absurd rfl ht
        | str l => exact absurd rfl ht
        | _ => cases hk
    · cases hb
  | @dt ks kvs n h rs =>
    have hb : (if kvs.length < cap ∧ dkey w = true ∧ fits kvs w = true then some (Val.dct (put kvs w x)) else none) = some r := by cases rw' <;> exact hb
    split at hb
    · rename_i hc
      obtain ⟨hz, hk, hf⟩ := hc
      cases hb
      have hl : ks.length < sizeLine := by rw [rs.length, sizeLine_eq]; unfold cap at hz; omega
      by_cases ht : keyOk w = true
      · obtain ⟨j, rfl, rfl⟩ := rw'.key ht
        obtain ⟨rfl, rfl⟩ := rs.fits0 hf
        have I2 := seeK I h
        refine d_setItem hu I2 (.k upd_same hl) ri rv fun s' I' => ⟨_, I', ?_⟩
        rw [upd_upd]
        exact k _ (.dk n upd_same (RepK.put .nil rx))
      · cases rw' with
        | tup q qs =>
          obtain ⟨js, rfl, rfl⟩ := qs.keys (by simpa [dkey] using hk)
          exact d_setItem hu I (.t h (e _ _ q) hl) ri rv fun s' I' => ⟨_, I', k _ (.dt n upd_same (rs.put rx))⟩
        | int i => exact absurd rfl ht
        | str l => exact absurd rfl ht
        | _ => cases hk
    · cases hb
  | obj n h rs => simp only [setF] at hb; cases hb
end
end EV
namespace EV
open PySem PySem.Spec PyProof.Rows L2 SkE
abbrev RBs (K : PySem.W.Frag) (mg : Str → Option Value) (F H : Hp) : List V → List Val → Prop := Paired (RepB K mg F H)
def rBlt (K : PySem.W.Frag) (mg : Str → Option Value) (b : Bl) : List V → Hp → VK → Prop := fun xs H Q => ∃ F us r, Ex' F H ∧ RBs K mg F H xs us ∧ bltF b us = some r ∧ ∀ z H', NewR K mg F H z H' r → Q z H'
section
variable {K : PySem.W.Frag} {mg : Str → Option Value} {F H : Hp}
theorem reps_bools : ∀ {xs : List V} {vs : List Val} {bs : List Bool}, Reps K mg F xs vs → allB vs = some bs → xs = bs.map V.bl
  | _, _, _, .nil, h => by simp only [allB] at h; cases h; rfl
  | _, _, _, .cons (v := v) a r, h => by
    cases a with
    | bl b =>
      simp only [allB, Option.map_eq_some_iff] at h
      obtain ⟨bs, h, rfl⟩ := h
      rw [reps_bools r h]; rfl
    | _ => simp only [allB] at h; cases h
theorem reps_ints' : ∀ {xs : List V} {vs : List Val} {ns : List Int}, Reps K mg F xs vs → allI vs = some ns → xs = ns.map V.int
  | _, _, _, .nil, h => by simp only [allI] at h; cases h; rfl
  | _, _, _, .cons (v := v) a r, h => by
    cases a with
    | int b =>
      simp only [allI, Option.map_eq_some_iff] at h
      obtain ⟨bs, h, rfl⟩ := h
      rw [reps_ints' r h]; rfl
    | _ => simp only [allI] at h; cases h
theorem maxI_mem : ∀ (is : List Int) (m : Int), (maxI m is = m ∨ maxI m is ∈ is) ∧ m ≤ maxI m is ∧ ∀ y ∈ is, y ≤ maxI m is
  | [], m => ⟨.inl rfl, Int.le_refl _, fun y hy => nomatch hy⟩
  | i :: r, m => by
    obtain ⟨h1, h2, h3⟩ := maxI_mem r (max m i)
    simp only [maxI]
    refine ⟨?_, by omega, fun y hy => ?_⟩
    · rcases h1 with h1 | h1
      · rw [h1]
        by_cases h : m ≤ i
        · exact .inr (by rw [Int.max_eq_right h]; simp)
        · exact .inl (by rw [Int.max_eq_left (by omega)])
      · exact .inr (List.mem_cons_of_mem _ h1)
    · rcases List.mem_cons.mp hy with rfl | hy
      · omega
      · exact h3 y hy
theorem repK_keys : ∀ {ks : List (Key × V)} {kvs : List (Val × Val)}, RepK K mg F ks kvs → Reps K mg F (ks.map fun kv => kV kv.1) (kvs.map (·.1))
  | _, _, .nil => .nil
  | _, _, .cons (k := k) a r => by
    refine .cons ?_ (repK_keys r)
    cases k with
    | inl i => exact .int i
    | inr x => exact (show Rep K mg F (.str x) (.str x.cps.toList) from (by simpa [toS] using Rep.str (K := K) (mg := mg) (F := F) x.cps.toList))
end
theorem t_len {X : Cx} {pins : List (Addr × Obj)} {σ : L2.St} {H : Hp} {s : Shared} {a : Addr} {kvs : List (List Key × V)} {A : Around} {E : Value → Shared → Prop} {Q : Value → Shared → Prop} (I : Inv X pins σ H s) (e : Rd H a (.dT kvs)) (h : ∀ t s', Inv X pins σ H s' → Q (.int kvs.length t) s') : wpAny (model X.prog X.w) A (call (.builtin "len") [.ref a]) Q E s := by
  obtain ⟨z, hd, xs, rel, dd⟩ := dt_rd I.hok e
  refine call_len_dictH hd dd (by rw [← Paired.length rel]; rw [sizeLine_eq] at z; omega) ?_
  rw [← Paired.length rel]
  exact h _ _ (I.tok _)
section
variable {X : Cx}
theorem cr_len : CallR X (.builtin "len") (rBlt X.K X.mg .len) := by
  intro pins s σ H xs us Q I r h
  obtain ⟨F, ws, q, e, rs, hb, k⟩ := h
  cases rs with
  | nil => simp only [bltF] at hb; cases hb
  | cons a t =>
    cases t with
    | cons _ _ => simp only [bltF] at hb; cases hb
    | nil =>
      simp only [bltF, Option.map_eq_some_iff] at hb
      obtain ⟨n, hn, rfl⟩ := hb
      cases a with
      | lst s1 r1 => simp only [len] at hn; cases hn; exact call_len_seq pins s σ H _ us Q I r ⟨_, _, rfl, .inl (.inl (.inl s1)), by rw [r1.length]; exact k _ _ (newI _)⟩
      | tup s1 r1 => simp only [len] at hn; cases hn; exact call_len_seq pins s σ H _ us Q I r ⟨_, _, rfl, .inr (.inl (.inl (e _ _ s1))), by rw [r1.length]; exact k _ _ (newI _)⟩
      | scr s1 => simp only [len] at hn; cases hn; exact call_len_seq pins s σ H _ us Q I r ⟨_, _, rfl, .inl s1, by rw [List.length_map]; exact k _ _ (newI _)⟩
      | str l =>
        simp only [len] at hn
        split at hn
        · rename_i hz
          cases hn
          exact call_len_str pins s σ H _ us Q I r ⟨_, rfl, by rw [toS_len]; exact cap_line hz, by rw [toS_len]; exact k _ _ (newI _)⟩
        · cases hn
      | dk s1 r1 =>
        simp only [len] at hn; cases hn
        obtain ⟨u, rfl, ru⟩ := vals1 r
        cases ru
        exact d_len I s1 fun t s' I' => ⟨.int _, H, I', ⟨t, rfl⟩, by rw [r1.length]; exact k _ _ (newI _)⟩
      | dt s1 r1 =>
        simp only [len] at hn; cases hn
        obtain ⟨u, rfl, ru⟩ := vals1 r
        cases ru
        exact t_len I s1 fun t s' I' => ⟨.int _, H, I', ⟨t, rfl⟩, by rw [r1.length]; exact k _ _ (newI _)⟩
      | _ => simp only [len] at hn; cases hn
theorem cr_allF (hc : X.calm = true) : CallR X (.builtin "all") (rBlt X.K X.mg .all) := by
  intro pins s σ H xs us Q I r h
  obtain ⟨F, ws, q, e, rs, hb, k⟩ := h
  cases rs with
  | nil => simp only [bltF] at hb; cases hb
  | cons a t =>
    cases t with
    | cons _ _ => cases a <;> (simp only [bltF] at hb; cases hb)
    | nil =>
      cases a with
      | lst s1 r1 =>
        simp only [bltF, Option.map_eq_some_iff] at hb
        obtain ⟨bs, hn, rfl⟩ := hb
        exact cr_all hc pins s σ H _ us Q I r ⟨_, bs, rfl, by rw [← reps_bools r1 hn]; exact .inl (.inl s1), k _ _ (newB _)⟩
      | _ => simp only [bltF] at hb; cases hb
theorem cr_maxF (hc : X.calm = true) : CallR X (.builtin "max") (rBlt X.K X.mg .max) := by
  intro pins s σ H xs us Q I r h
  obtain ⟨F, ws, q, e, rs, hb, k⟩ := h
  cases rs with
  | nil => simp only [bltF] at hb; cases hb
  | cons a t =>
    cases t with
    | nil =>
      cases a with
      | @lst _ _ vs s1 r1 =>
        simp only [bltF] at hb
        split at hb
        · rename_i i is hn
          cases hb
          refine cr_max hc pins s σ H _ us Q I r ⟨_, i :: is, rfl, by rw [← reps_ints' r1 hn]; exact .inl (.inl s1), by simp, fun m h1 h2 => ?_⟩
          have e1 : m = maxI i is := by
            obtain ⟨g1, g2, g3⟩ := maxI_mem is i
            have h3 : m ≤ maxI i is := by
              rcases List.mem_cons.mp h1 with rfl | h1
              · exact g2
              · exact g3 m h1
            have h4 : maxI i is ≤ m := by
              rcases g1 with g1 | g1
              · rw [g1]; exact h2 i (by simp)
              · exact h2 _ (List.mem_cons_of_mem _ g1)
            omega
          rw [e1]
          exact k _ _ (newI _)
        · cases hb
      | _ => simp only [bltF] at hb; cases hb
    | cons b t =>
      cases t with
      | cons _ _ => cases a <;> cases b <;> (simp only [bltF] at hb; cases hb)
      | nil =>
        cases a <;> cases b <;> simp only [bltF] at hb <;> cases hb
        exact call_max2 hc pins s σ H _ us Q I r ⟨_, _, rfl, k _ _ (newI _)⟩
theorem cr_minF (hc : X.calm = true) : CallR X (.builtin "min") (rBlt X.K X.mg .min) := by
  intro pins s σ H xs us Q I r h
  obtain ⟨F, ws, q, e, rs, hb, k⟩ := h
  cases rs with
  | nil => simp only [bltF] at hb; cases hb
  | cons a t =>
    cases t with
    | nil => cases a <;> (simp only [bltF] at hb; cases hb)
    | cons b t =>
      cases t with
      | cons _ _ => cases a <;> cases b <;> (simp only [bltF] at hb; cases hb)
      | nil =>
        cases a <;> cases b <;> simp only [bltF] at hb <;> cases hb
        exact call_min2 hc pins s σ H _ us Q I r ⟨_, _, rfl, k _ _ (newI _)⟩
theorem cr_absF : CallR X (.builtin "abs") (rBlt X.K X.mg .abs) := by
  intro pins s σ H xs us Q I r h
  obtain ⟨F, ws, q, e, rs, hb, k⟩ := h
  cases rs with
  | nil => simp only [bltF] at hb; cases hb
  | cons a t =>
    cases t with
    | cons _ _ => cases a <;> (simp only [bltF] at hb; cases hb)
    | nil =>
      cases a <;> simp only [bltF] at hb <;> cases hb
      exact call_abs pins s σ H _ us Q I r ⟨_, rfl, k _ _ (newI _)⟩
theorem cr_divmodF : CallR X (.builtin "divmod") (rBlt X.K X.mg .divmod) := by
  intro pins s σ H xs us Q I r h
  obtain ⟨F, ws, q, e, rs, hb, k⟩ := h
  cases rs with
  | nil => simp only [bltF] at hb; cases hb
  | cons a t =>
    cases t with
    | nil => cases a <;> (simp only [bltF] at hb; cases hb)
    | cons b t =>
      cases t with
      | cons _ _ => cases a <;> cases b <;> (simp only [bltF] at hb; cases hb)
      | nil =>
        cases a <;> cases b <;> simp only [bltF] at hb <;> try cases hb
        split at hb
        · rename_i hz
          cases hb
          exact call_divmod pins s σ H _ us Q I r ⟨_, _, rfl, ⟨hz.1, by have := hz.2; omega⟩, fun p hp => k _ _ (newT hp (.cons (.int _) (.cons (.int _) .nil)))⟩
        · cases hb
theorem int_digit {c : Nat} (h : 48 ≤ c ∧ c ≤ 57) : PySem.intText? (toS [c]) = some ((c : Nat) - 48 : Int) := by
  have : c = 48 ∨ c = 49 ∨ c = 50 ∨ c = 51 ∨ c = 52 ∨ c = 53 ∨ c = 54 ∨ c = 55 ∨ c = 56 ∨ c = 57 := by omega
  rcases this with rfl | rfl | rfl | rfl | rfl | rfl | rfl | rfl | rfl | rfl <;> decide +kernel
theorem cr_intF : CallR X (.type "int") (rBlt X.K X.mg .int) := by
  intro pins s σ H xs us Q I r h
  obtain ⟨F, ws, q, e, rs, hb, k⟩ := h
  cases rs with
  | nil => simp only [bltF] at hb; cases hb
  | cons a t =>
    cases t with
    | cons _ _ => cases a <;> (simp only [bltF] at hb; cases hb)
    | nil =>
      cases a with
      | int i => simp only [bltF] at hb; cases hb; exact call_int1 pins s σ H _ us Q I r (.inl ⟨_, rfl, k _ _ (newI _)⟩)
      | bl b => simp only [bltF] at hb; cases hb; exact call_int1 pins s σ H _ us Q I r (.inr ⟨_, rfl, k _ _ (newI _)⟩)
      | str l =>
        match l, hb with
        | [c], hb =>
          have hb : (if 48 ≤ c ∧ c ≤ 57 then some (Slot.fz (.int ((c : Nat) - 48 : Int))) else none) = some q := hb
          split at hb
          · rename_i hc
            cases hb
            exact call_int_str pins s σ H _ us Q I r ⟨_, _, rfl, int_digit hc, by simp [toS, Str.length], k _ _ (newI _)⟩
          · cases hb
      | _ => simp only [bltF] at hb; cases hb
end
end EV
namespace EV
open PySem PySem.Spec PyProof.Rows L2
section
variable {X : Cx} {W : WX} {T : Tab} {cal mkc : Cal} {a b c e : Expr} {ea eb ec : Ex} {pos : Pos} {kr : Nat}
theorem sE_const {v : V} {w : Val} (h : PE X e (tC v)) (r : ∀ F, Rep X.K X.mg F v w) (he : ∀ ρ, evE T cal mkc ea ρ = EV.pur (.fz w) ρ) : PE X e (tE X.K X.mg W T cal mkc ea) := by
  refine h.imp fun σ H Q q => ?_
  obtain ⟨G, Z, F, ρ, A, q⟩ := q
  rw [he] at q
  exact Aft.pur q A v (r F)
theorem sE_bin {o : Bin} (ha : PE X a (tO X.K X.mg W T cal mkc ea)) (hb : PE X b (tO X.K X.mg W T cal mkc eb)) : PE X (.BinOp a (bOp o) b pos) (tE X.K X.mg W T cal mkc (.bin o ea eb)) := by
  refine (pe_op (op_bin o) ha hb).imp fun σ H Q q => ?_
  obtain ⟨G, Z, F, ρ, A, q⟩ := q
  refine ⟨G, Z, F, ρ, A, q.bnd.imp fun F1 H1 ρ1 x A1 e1 q1 vx rx => ⟨G, Z, F1, ρ1, A1, q1.bnd.imp fun F2 H2 ρ2 y A2 e2 q2 vy ry => ?_⟩⟩
  obtain ⟨r, hr, q3⟩ := q2.lift
  obtain ⟨u, hu, hr⟩ := Option.bind_eq_some_iff.mp hr
  obtain ⟨w, hw, hr⟩ := Option.bind_eq_some_iff.mp hr
  exact ⟨F2, u, w, r, A2.sub, (OpdR.mono rx e2).read A2 hu, OpdR.read A2 ry hw, hr, fun z H' n => A2.new n fun F' H'' A' e' z rz => q3 F' H'' A' e' z rz⟩
theorem cmp_red {o : Cmp} {σ : L2.St} {H : Hp} {Q : VK} (h : tE X.K X.mg W T cal mkc (.cmp o ea eb) σ H Q) : tOp (rCmp X.K X.mg o) (tO X.K X.mg W T cal mkc ea) (tO X.K X.mg W T cal mkc eb) σ H Q := by
  obtain ⟨G, Z, F, ρ, A, q⟩ := h
  refine ⟨G, Z, F, ρ, A, q.bnd.imp fun F1 H1 ρ1 x A1 e1 q1 vx rx => ⟨G, Z, F1, ρ1, A1, q1.bnd.imp fun F2 H2 ρ2 y A2 e2 q2 vy ry => ?_⟩⟩
  obtain ⟨r, hr, q3⟩ := q2.lift
  obtain ⟨c, hr1, rfl⟩ := Option.map_eq_some_iff.mp hr
  obtain ⟨u, hu, hr2⟩ := Option.bind_eq_some_iff.mp hr1
  obtain ⟨w, hw, hr3⟩ := Option.bind_eq_some_iff.mp hr2
  exact ⟨F2, u, w, c, A2.sub, (OpdR.mono rx e2).read A2 hu, OpdR.read A2 ry hw, hr3, Aft.pur q3 A2 _ (Rep.bl c)⟩
theorem tB_E {σ : L2.St} {H : Hp} {Q : Bool → Hp → Prop} (h : EV.tB X.K X.mg W T cal mkc ea σ H Q) : tE X.K X.mg W T cal mkc ea σ H fun x H' => ∃ k, x = .bl k ∧ Q k H' := by
  obtain ⟨G, Z, F, ρ, A, q⟩ := h
  refine ⟨G, Z, F, ρ, A, q.bnd.imp fun F' H' ρ' r A' e' q' x rx => ?_⟩
  cases r with
  | un => exact rx.elim
  | ow v => exact q'.elim
  | fz v =>
    cases rx with
    | bl b => exact ⟨b, rfl, Aft.pur q' A'⟩
    | _ => exact q'.elim
theorem sE_cmp {o : Cmp} (hr : Room kr X.A) (ha : PE X a (tO X.K X.mg W T cal mkc ea)) (hb : PE X b (tO X.K X.mg W T cal mkc eb)) (hm : behindInMarks (cOp o) b = false) : PE X (.Compare a [cOp o] [b] pos) (tE X.K X.mg W T cal mkc (.cmp o ea eb)) :=
  (pe_cmpR (op_cmp hr o) ha hb hm).imp fun _ _ _ q => cmp_red q
theorem sT_cmp {o : Cmp} (hr : Room kr X.A) (ha : PE X a (tO X.K X.mg W T cal mkc ea)) (hb : PE X b (tO X.K X.mg W T cal mkc eb)) (hm : behindInMarks (cOp o) b = false) : PT X (.Compare a [cOp o] [b] pos) (EV.tB X.K X.mg W T cal mkc (.cmp o ea eb)) :=
  (pt_cmpR (op_cmp hr o) ha hb hm).imp fun _ _ _ q => cmp_red (tB_E q)
theorem ev_or (ρ : Ro) : evE T cal mkc (.or ea eb) ρ = EV.bnd (EV.bnd (evE T cal mkc ea ρ) asBool) fun c ρ2 => if c then EV.pur (.fz (.bl true)) ρ2 else evE T cal mkc eb ρ2 := by
  show EV.bnd (evE T cal mkc ea ρ) _ = _
  cases evE T cal mkc ea ρ with
  | none => rfl
  | some o => cases o <;> rfl
theorem ev_ite (ρ : Ro) : evE T cal mkc (.ite ec ea eb) ρ = EV.bnd (EV.bnd (evE T cal mkc ec ρ) asBool) fun c ρ2 => if c then evE T cal mkc ea ρ2 else evE T cal mkc eb ρ2 := by
  show EV.bnd (evE T cal mkc ec ρ) _ = _
  cases evE T cal mkc ec ρ with
  | none => rfl
  | some o => cases o <;> rfl
theorem bnd_assoc {α β γ : Type} (m : Res α) (k : α → Ro → Res β) (l : β → Ro → Res γ) : EV.bnd (EV.bnd m k) l = EV.bnd m fun a ρ => EV.bnd (k a ρ) l := by
  cases m with
  | none => rfl
  | some o => cases o <;> rfl
theorem _root_.L2.PW.imp {t t' : TT} (h : PW X e t) (k : ∀ σ H Q, t' σ H Q → t σ H Q) : PW X e t' := ⟨fun wh pins s σ H Q I q => h.run wh pins s σ H Q I (k σ H Q q)⟩
theorem sW_or {rest : List Expr} (ha : PT X a (EV.tB X.K X.mg W T cal mkc ea)) (hb : PW X (.BoolOp .Or (b :: rest) pos) (EV.tB X.K X.mg W T cal mkc eb)) : PW X (.BoolOp .Or (a :: b :: rest) pos) (EV.tB X.K X.mg W T cal mkc (.or ea eb)) := by
  refine (pw_or ha hb).imp fun σ H Q q => ?_
  obtain ⟨G, Z, F, ρ, A, q⟩ := q
  rw [ev_or, bnd_assoc] at q
  refine ⟨G, Z, F, ρ, A, q.bnd.imp fun F1 H1 ρ1 c A1 e1 q1 => ?_⟩
  cases c with
  | true => rw [if_pos rfl]; exact Aft.pur q1 A1
  | false => rw [if_neg Bool.false_ne_true]; exact ⟨G, Z, F1, ρ1, A1, q1⟩
theorem sE_ite (hc : PT X c (EV.tB X.K X.mg W T cal mkc ec)) (ha : PE X a (tE X.K X.mg W T cal mkc ea)) (hb : PE X b (tE X.K X.mg W T cal mkc eb)) : PE X (.IfExp c a b pos) (tE X.K X.mg W T cal mkc (.ite ec ea eb)) := by
  refine (pe_ifExp hc ha hb).imp fun σ H Q q => ?_
  obtain ⟨G, Z, F, ρ, A, q⟩ := q
  rw [ev_ite] at q
  refine ⟨G, Z, F, ρ, A, q.bnd.imp fun F1 H1 ρ1 c A1 e1 q1 => ?_⟩
  cases c with
  | true => rw [if_pos rfl]; exact ⟨G, Z, F1, ρ1, A1, q1⟩
  | false => rw [if_neg Bool.false_ne_true]; exact ⟨G, Z, F1, ρ1, A1, q1⟩
theorem sE_idx (hr : Room kr X.A) (ha : PE X a (tO X.K X.mg W T cal mkc ea)) (hb : PE X b (tO X.K X.mg W T cal mkc eb)) (hs : PlainIx b) : PE X (.Subscript a b pos) (tE X.K X.mg W T cal mkc (.idx ea eb)) := by
  refine (pe_ix (ix_val hr) ha hb hs).imp fun σ H Q q => ?_
  obtain ⟨G, Z, F, ρ, A, q⟩ := q
  refine ⟨G, Z, F, ρ, A, q.bnd.imp fun F1 H1 ρ1 x A1 e1 q1 vx rx => ⟨G, Z, F1, ρ1, A1, q1.bnd.imp fun F2 H2 ρ2 y A2 e2 q2 vy ry => ?_⟩⟩
  obtain ⟨r, hr, q3⟩ := q2.lift
  obtain ⟨z, hr1, rfl⟩ := Option.map_eq_some_iff.mp hr
  obtain ⟨u, hu, hr2⟩ := Option.bind_eq_some_iff.mp hr1
  obtain ⟨w, hw, hr3⟩ := Option.bind_eq_some_iff.mp hr2
  exact ⟨F2, u, w, z, A2.sub, (OpdR.mono rx e2).read A2 hu, OpdR.read A2 ry hw, hr3, fun v rv => Aft.pur q3 A2 v rv⟩
def tPo (o : Option Ex) : TO := fun σ H Q => ∃ G Z F ρ, Abs X.K X.mg G Z F σ H ρ ∧ Aft X.K X.mg W G Z F σ (evOp T cal mkc o ρ) fun F' H' ρ' i => Q i H'
theorem sO_none : PO X none (tPo (X := X) (W := W) (T := T) (cal := cal) (mkc := mkc) none) := by
  refine ⟨fun pins s σ H Q I q => po_none.run pins s σ H Q I ?_⟩
  obtain ⟨G, Z, F, ρ, A, q⟩ := q
  exact Aft.pur q A
theorem sO_some (h : PE X e (tE X.K X.mg W T cal mkc ea)) : PO X (some e) (tPo (X := X) (W := W) (T := T) (cal := cal) (mkc := mkc) (some ea)) := by
  refine ⟨fun pins s σ H Q I q => (po_some h).run pins s σ H Q I ?_⟩
  obtain ⟨G, Z, F, ρ, A, q⟩ := q
  refine ⟨G, Z, F, ρ, A, q.bnd.imp fun F' H' ρ' r A' e' q' x rx => ?_⟩
  cases r with
  | un => exact rx.elim
  | ow v => exact q'.elim
  | fz v =>
    cases rx with
    | int i => exact ⟨i, rfl, Aft.pur q' A'⟩
    | _ => exact q'.elim
theorem sE_slc {lo hi : Option Expr} {el eh : Option Ex} {p2 : Pos} (ha : PE X a (tO X.K X.mg W T cal mkc ea)) (hl : PO X lo (tPo (X := X) (W := W) (T := T) (cal := cal) (mkc := mkc) el)) (hh : PO X hi (tPo (X := X) (W := W) (T := T) (cal := cal) (mkc := mkc) eh)) : PE X (.Subscript a (.Slice lo hi none p2) pos) (tE X.K X.mg W T cal mkc (.slc ea el eh)) := by
  refine (pe_slice sl_val ha hl hh).imp fun σ H Q q => ?_
  obtain ⟨G, Z, F, ρ, A, q⟩ := q
  refine ⟨G, Z, F, ρ, A, q.bnd.imp fun F1 H1 ρ1 x A1 e1 q1 vx rx => ⟨G, Z, F1, ρ1, A1, q1.bnd.imp fun F2 H2 ρ2 l A2 e2 q2 => ⟨G, Z, F2, ρ2, A2, q2.bnd.imp fun F3 H3 ρ3 h A3 e3 q3 => ?_⟩⟩⟩
  obtain ⟨r, hr, q4⟩ := q3.lift
  obtain ⟨u, hu, hr⟩ := Option.bind_eq_some_iff.mp hr
  exact ⟨F3, u, r, A3.sub, (OpdR.mono rx (e2.trans e3)).read A3 hu, hr, fun z H' n => A3.new n fun F' H'' A' e' z rz => q4 F' H'' A' e' z rz⟩
theorem sA_nil : PA X [] (tAs X.K X.mg W T cal mkc []) := by
  refine pa_nil.imp fun σ H Q q => ?_
  obtain ⟨G, Z, F, ρ, A, q⟩ := q
  exact Aft.pur q A [] .nil
theorem sA_cons {es : List Expr} {xs : List Ex} (ha : PE X e (tE X.K X.mg W T cal mkc ea)) (hr : PA X es (tAs X.K X.mg W T cal mkc xs)) (hs : starEach (e :: es) X.env = (false, eval e X.env) :: starEach es X.env) (hn : ∀ z, ea ≠ .star z) : PA X (e :: es) (tAs X.K X.mg W T cal mkc (ea :: xs)) := by
  refine (pa_cons (pe_fix ha) hr hs).imp fun σ H Q q => ?_
  obtain ⟨G, Z, F, ρ, A, q⟩ := q
  have e1 : evEs T cal mkc (ea :: xs) ρ = EV.bnd (EV.bnd (evE T cal mkc ea ρ) fixv) fun v ρ2 => EV.bnd (evEs T cal mkc xs ρ2) fun vs ρ3 => EV.pur (v :: vs) ρ3 := by
    rw [bnd_assoc]
    cases ea with
    | star z => exact absurd rfl (hn z)
    | _ => rfl
  rw [e1] at q
  refine ⟨G, Z, F, ρ, A, q.bnd.imp fun F1 H1 ρ1 v A1 e1 q1 x rx => ⟨G, Z, F1, ρ1, A1, q1.bnd.imp fun F2 H2 ρ2 vs A2 e2 q2 ys rys => ?_⟩⟩
  exact Aft.pur q2 A2 _ (.cons (rx.mono e2) rys)
theorem sE_tup {es : List Expr} {xs : List Ex} {k1 : Nat} (h : PA X es (tAs X.K X.mg W T cal mkc xs)) : PE X (.Tuple es k1 pos) (tE X.K X.mg W T cal mkc (.tup xs)) := by
  refine (pe_tup h).imp fun σ H Q q => ?_
  obtain ⟨G, Z, F, ρ, A, q⟩ := q
  refine ⟨G, Z, F, ρ, A, q.bnd.imp fun F1 H1 ρ1 vs A1 e1 q1 ys rys => ?_⟩
  split at q1
  · rename_i hz
    exact ⟨by rw [rys.length]; exact cap_line hz, fun p hp => A1.new (newT hp rys) fun F' H'' A' e' z rz => q1 F' H'' A' e' z rz⟩
  · exact q1.elim
theorem sE_lst {es : List Expr} {xs : List Ex} (h : PA X es (tAs X.K X.mg W T cal mkc xs)) : PE X (.List es pos) (tE X.K X.mg W T cal mkc (.lst xs)) := by
  refine (pe_lst h).imp fun σ H Q q => ?_
  obtain ⟨G, Z, F, ρ, A, q⟩ := q
  refine ⟨G, Z, F, ρ, A, q.bnd.imp fun F1 H1 ρ1 vs A1 e1 q1 ys rys => ?_⟩
  split at q1
  · rename_i hz
    exact ⟨by rw [rys.length]; exact cap_line hz, fun p hp => A1.new (newL hp rys) fun F' H'' A' e' z rz => q1 F' H'' A' e' z rz⟩
  · exact q1.elim
theorem sE_neg (ha : PE X a (tE X.K X.mg W T cal mkc ea)) : PE X (.UnaryOp .USub a pos) (tE X.K X.mg W T cal mkc (.neg ea)) := by
  refine (pe_un un_neg ha).imp fun σ H Q q => ?_
  obtain ⟨G, Z, F, ρ, A, q⟩ := q
  refine ⟨G, Z, F, ρ, A, q.bnd.imp fun F' H' ρ' r A' e' q' x rx => ?_⟩
  cases r with
  | un => exact rx.elim
  | ow v => exact q'.elim
  | fz v =>
    cases rx with
    | int i => exact ⟨i, rfl, Aft.pur q' A' _ (Rep.int _)⟩
    | _ => exact q'.elim
theorem blt1 {bl : Bl} {σ : L2.St} {H : Hp} {Q : VK} (h : tE X.K X.mg W T cal mkc (.blt bl [ea]) σ H Q) : tCB (rBlt X.K X.mg bl) (tCons (tO X.K X.mg W T cal mkc ea) tNil) σ H Q := by
  obtain ⟨G, Z, F, ρ, A, q⟩ := h
  refine ⟨G, Z, F, ρ, A, q.bnd.imp fun F1 H1 ρ1 x A1 e1 q1 vx rx => ?_⟩
  obtain ⟨r, hr, q3⟩ := q1.lift
  obtain ⟨u, hu, hr⟩ := Option.bind_eq_some_iff.mp hr
  exact ⟨F1, [u], r, A1.sub, .cons (OpdR.read A1 rx hu) .nil, hr, fun z H' n => A1.new n fun F' H'' A' e' z rz => q3 F' H'' A' e' z rz⟩
theorem rbs_of {F H : Hp} (e : Ex' F H) : ∀ {xs : List V} {vs : List Val}, Reps X.K X.mg F xs vs → RBs X.K X.mg F H xs vs
  | _, _, .nil => .nil
  | _, _, .cons a r => .cons (Rep.b e a) (rbs_of e r)
theorem blt2 {bl : Bl} {xs : List Ex} {σ : L2.St} {H : Hp} {Q : VK} (hn : ∀ z, xs ≠ [z]) (h : tE X.K X.mg W T cal mkc (.blt bl xs) σ H Q) : tCB (rBlt X.K X.mg bl) (tAs X.K X.mg W T cal mkc xs) σ H Q := by
  obtain ⟨G, Z, F, ρ, A, q⟩ := h
  have e1 : evE T cal mkc (.blt bl xs) ρ = EV.bnd (evEs T cal mkc xs ρ) fun vs ρ1 => EV.lift (bltF bl vs) ρ1 := by
    match xs, hn with
    | [], _ => rfl
    | [z], hn => exact absurd rfl (hn z)
    | _ :: _ :: _, _ => rfl
  rw [e1] at q
  refine ⟨G, Z, F, ρ, A, q.bnd.imp fun F1 H1 ρ1 vs A1 e1 q1 ys rys => ?_⟩
  obtain ⟨r, hr, q3⟩ := q1.lift
  exact ⟨F1, vs, r, A1.sub, rbs_of A1.sub rys, hr, fun z H' n => A1.new n fun F' H'' A' e' z rz => q3 F' H'' A' e' z rz⟩
end
end EV
namespace EV
open PySem PySem.Spec PyProof.Rows L2
structure FnE (P : Program) (w : World) (K : PySem.W.Frag) (mg : Str → Option Value) (base : Heap) (k : Nat) (f : Addr) (fd : FuncData) (ps : List Str) (sp : Sp) : Prop where
  ln : ∀ vs H Q E, sp vs H Q E → vs.length = ps.length
  go : ∀ (A : Around) (ou : List Env) (s : Shared) (H : Hp) (args : Args) (us : List Value) (vs : List V) (Q : VK) (E : XK), A.guards = some [] → Room k A → Env0 P w K mg base A ou s H → BindsTo s fd args (ps.zip us) → Vals vs us → sp vs H Q E →
    codeAny (model P w) A (.call (.ref f) args) (CR (CXt P w) ou P w H s Q E) s
section
variable {X : Cx} {W : WX} {k : Nat} {f : Addr} {fd : FuncData} {ps : List Str} {sp : Sp}
theorem run_fnE {pins : List (Addr × Obj)} {σ : L2.St} {H : Hp} {s : Shared} {Q : VK} {us : List Value} {vs : List V} {args : Args} (F : FnE X.prog X.w X.K X.mg X.base k f fd ps sp) (gd : X.A.guards = some []) (hr : Room k X.A) (tk : Takes X W)
    (hb : us.length = ps.length → BindsTo s fd args (ps.zip us)) (I : Inv X pins σ H s) (r : Vals vs us) (h : sp vs H Q fun c d H' => W c d σ H') : wpAny (model X.prog X.w) X.A (call (.ref f) args.pos args.kw) (EP X pins σ Q) X.xe s := by
  have hl : us.length = ps.length := by rw [← r.length]; exact F.ln _ _ _ _ h
  refine wpAny_call (codeAny_mono (F.go X.A X.stack s H args us vs Q _ gd hr I.env0 (hb hl) r h) fun o s' hq => ?_)
  cases o with
  | error e => exact tk.call I hq
  | ok fl => cases fl with
    | ret u => exact I.after hq
    | next => exact False.elim hq
    | brk => exact False.elim hq
    | cont => exact False.elim hq
end
def ArgR (K : PySem.W.Frag) (mg : Str → Option Value) (F H : Hp) (x : V) : Slot → Prop
  | .fz v => Rep K mg F x v
  | .ow v => ∃ a, x = .ref a ∧ Own K mg F H a v
  | .un => False
def ioOf : List V → List Slot → List Addr
  | .ref a :: xs, .ow _ :: ss => a :: ioOf xs ss
  | _ :: xs, _ :: ss => ioOf xs ss
  | _, _ => []
structure EndR (K : PySem.W.Frag) (mg : Str → Option Value) (F H : Hp) (vs : List V) (as : List Slot) (F' H' : Hp) (fin : List Slot) : Prop where
  up : Ex' F F'
  sub : Ex' F' H'
  kp : ∀ a o, H a = some o → a ∉ ioOf vs as → (∀ ps, o ≠ .tbl ps) → H' a = some o
  nw : ∀ a o, F' a = some o → F a = some o ∨ Nw H a ∨ a ∈ ioOf vs as ∨ Imm o
  io : ∀ (i : Nat) a v v', as[i]? = some (.ow v) → vs[i]? = some (.ref a) → fin[i]? = some (.ow v') → Own K mg F' H' a v'
  tb : TBs K mg H'
  nf : NoT F'
def ResC (K : PySem.W.Frag) (mg : Str → Option Value) (F' H' H : Hp) (x : V) : Slot → Prop
  | .fz v => Rep K mg F' x v
  | .ow v => ∃ a, x = .ref a ∧ Nw H a ∧ Own K mg F' H' a v
  | .un => False
def PstC (K : PySem.W.Frag) (mg : Str → Option Value) (F H : Hp) (vs : List V) (as : List Slot) (Q : VK) (E : XK) (m : Res Slot) : Prop := match m with
  | some (.ok r fin) => ∀ F' H' x, EndR K mg F H vs as F' H' fin → ResC K mg F' H' H x r → Q x H'
  | some (.ex e fin) => ∀ F' H' d, EndR K mg F H vs as F' H' fin → ExR K mg F' d e → E (cV mg e) d H'
  | none => False
def spF (K : PySem.W.Frag) (mg : Str → Option Value) (cal : Cal) (n : Nat) (f : String) : Sp := fun vs H Q E => ∃ F as, as.length = n ∧ Ex' F H ∧ Paired (ArgR K mg F H) vs as ∧ (ioOf vs as).Nodup ∧ (NoT F ∧ TBs K mg H) ∧ PstC K mg F H vs as Q E (cal f as)
def AtA (K : PySem.W.Frag) (mg : Str → Option Value) (G F : Hp) (σ : L2.St) (H : Hp) (ρ : Ro) (x : V) : Arg → Prop
  | .io i => σ[i]? = some (some x)
  | .va v => Rep K mg F x v
  | .nw v => ResR K mg G F σ H ρ x (.ow v)
section
variable {X : Cx} {W : WX} {T : Tab} {cal mkc : Cal} {a b c e : Expr} {ea eb ec : Ex} {pos : Pos} {kr : Nat}
def tArg (X : Cx) (W : WX) (T : Tab) (cal mkc : Cal) (io : Bool) (e : Ex) : TE := tM X.K X.mg W (argOf io e (evE T cal mkc e)) fun G F σ H ρ x a => AtA X.K X.mg G F σ H ρ x a
def tArgs (X : Cx) (W : WX) (T : Tab) (cal mkc : Cal) (io : List Bool) (es : List Ex) : TA := fun σ H Q => ∃ G Z F ρ, Abs X.K X.mg G Z F σ H ρ ∧ Aft X.K X.mg W G Z F σ (evAs T cal mkc io es ρ) fun F' H' ρ' as => ∀ xs, Paired (AtA X.K X.mg G F' σ H' ρ') xs as → Q xs H'
theorem sArg {io : Bool} (h : PE X e (tE X.K X.mg W T cal mkc ea)) (hv : ∀ i, ea = .v i → PE X e (tVar i)) : PE X e (tArg X W T cal mkc io ea) := by
  cases io with
  | false =>
    refine (pe_fix h).imp fun σ H Q q => ?_
    obtain ⟨G, Z, F, ρ, A, q⟩ := q
    refine ⟨G, Z, F, ρ, A, ?_⟩
    have e1 : argOf false ea (evE T cal mkc ea) ρ = EV.bnd (EV.bnd (evE T cal mkc ea ρ) fixv) fun v ρ2 => EV.pur (.va v) ρ2 := by rw [bnd_assoc]; rfl
    rw [e1] at q
    exact q.bnd.imp fun F' H' ρ' v A' e' q' x rx => Aft.pur q' A' x rx
  | true =>
    by_cases hc : ∃ i, ea = .v i
    · obtain ⟨i, rfl⟩ := hc
      refine ((hv i rfl)).imp fun σ H Q q => ?_
      obtain ⟨G, Z, F, ρ, A, q⟩ := q
      have q : Aft X.K X.mg W G Z F σ (if (ownAt i ρ).isSome then EV.pur (Arg.io i) ρ else none) _ := q
      split at q
      · rename_i hs
        unfold ownAt at hs
        split at hs
        · rename_i v hv
          obtain ⟨a, h1, _⟩ := A.ow i v hv
          exact ⟨_, h1, Aft.pur q A _ h1⟩
        · cases hs
      · exact q.elim
    · refine h.imp fun σ H Q q => ?_
      obtain ⟨G, Z, F, ρ, A, q⟩ := q
      refine ⟨G, Z, F, ρ, A, ?_⟩
      have e1 : argOf true ea (evE T cal mkc ea) ρ = EV.bnd (evE T cal mkc ea ρ) newArg := by
        cases ea with
        | v i => exact absurd ⟨i, rfl⟩ hc
        | _ => rfl
      rw [e1] at q
      refine q.bnd.imp fun F' H' ρ' r A' e' q' x rx => ?_
      cases r with
      | un => exact rx.elim
      | fz v => exact q'.elim
      | ow v => exact Aft.pur q' A' x rx
theorem AtA.mono {G F F' : Hp} {σ : L2.St} {H H' : Hp} {ρ ρ' : Ro} {x : V} {a : Arg} (h : AtA X.K X.mg G F σ H ρ x a) (e : Ex' F F') (hn : ∀ v, a ≠ .nw v) : AtA X.K X.mg G F' σ H' ρ' x a := by
  cases a with
  | io i => exact h
  | va v => exact Rep.mono e h
  | nw v => exact absurd rfl (hn v)
theorem sArgs_one {io : List Bool} (ha : PE X e (tArg X W T cal mkc (io.getD 0 false) ea)) (hs : starEach [e] X.env = (false, eval e X.env) :: starEach [] X.env) : PA X [e] (tArgs X W T cal mkc io [ea]) := by
  refine (pa_cons ha pa_nil hs).imp fun σ H Q q => ?_
  obtain ⟨G, Z, F, ρ, A, q⟩ := q
  have e1 : evAs T cal mkc io [ea] ρ = EV.bnd (argOf (io.getD 0 false) ea (evE T cal mkc ea) ρ) fun a ρ1 => EV.pur [a] ρ1 := by
    have e2 : ∀ (i : List Bool) (ρ : Ro), evAs T cal mkc i [] ρ = EV.pur [] ρ := fun i ρ => by cases i <;> rfl
    simp [evAs, e2]
  rw [e1] at q
  exact ⟨G, Z, F, ρ, A, q.bnd.imp fun F1 H1 ρ1 g A1 e1 q1 x rx => Aft.pur q1 A1 [x] (.cons rx .nil)⟩
theorem sArgs_cons {io : List Bool} {es : List Expr} {xs : List Ex} (hx : xs ≠ []) (ha : PE X e (tArg X W T cal mkc (io.getD 0 false) ea)) (hr : PA X es (tArgs X W T cal mkc (io.drop 1) xs)) (hs : starEach (e :: es) X.env = (false, eval e X.env) :: starEach es X.env) :
    PA X (e :: es) (tArgs X W T cal mkc io (ea :: xs)) := by
  refine (pa_cons ha hr hs).imp fun σ H Q q => ?_
  obtain ⟨G, Z, F, ρ, A, q⟩ := q
  have e1 : evAs T cal mkc io (ea :: xs) ρ = EV.bnd (argOf (io.getD 0 false) ea (evE T cal mkc ea) ρ) fun a ρ1 => if a.isN && !xs.isEmpty then none else EV.bnd (evAs T cal mkc (io.drop 1) xs ρ1) fun as ρ2 => EV.pur (a :: as) ρ2 := by
    simp only [evAs]
  rw [e1] at q
  refine ⟨G, Z, F, ρ, A, q.bnd.imp fun F1 H1 ρ1 g A1 e1 q1 x rx => ⟨G, Z, F1, ρ1, A1, ?_⟩⟩
  split at q1
  · exact q1.elim
  · rename_i hc
    have hn : ¬ g.isN = true := fun hn => by
      cases xs with
      | nil => exact hx rfl
      | cons _ _ => exact absurd (by rw [hn]; rfl) hc
    exact q1.bnd.imp fun F2 H2 ρ2 as A2 e2 q2 ys rys => Aft.pur q2 A2 _ (.cons (rx.mono e2 fun v z => hn (by rw [z]; rfl)) rys)
theorem ioOf_mem : ∀ {vs : List V} {as : List Slot} {a : Addr}, a ∈ ioOf vs as → ∃ (i : Nat) (v : Val), vs[i]? = some (.ref a) ∧ as[i]? = some (.ow v)
  | [], [], _, h => by simp [ioOf] at h
  | [], _ :: _, _, h => by simp [ioOf] at h
  | _ :: _, [], _, h => by simp [ioOf] at h
  | x :: xs, s :: ss, a, h => by
    have rec_ : a ∈ ioOf xs ss → ∃ (i : Nat) (v : Val), (x :: xs)[i]? = some (.ref a) ∧ (s :: ss)[i]? = some (.ow v) := fun h => by
      obtain ⟨i, v, h1, h2⟩ := ioOf_mem h
      exact ⟨i + 1, v, by simpa using h1, by simpa using h2⟩
    cases x with
    | ref b =>
      cases s with
      | ow v =>
        have h : a ∈ b :: ioOf xs ss := h
        rcases List.mem_cons.mp h with rfl | h
        · exact ⟨0, v, rfl, rfl⟩
        · exact rec_ h
      | fz v => exact rec_ h
      | un => exact rec_ h
    | _ => exact rec_ (by cases s <;> exact h)
theorem args_slots {G Z F : Hp} {σ : L2.St} {H : Hp} {ρ : Ro} (A : Abs X.K X.mg G Z F σ H ρ) : ∀ {as : List Arg} {xs : List V} {ss : List Slot}, Paired (AtA X.K X.mg G F σ H ρ) xs as → as.mapM (Arg.slot ρ) = some ss → Paired (ArgR X.K X.mg F H) xs ss
  | [], _, ss, .nil, h => by
    have : ss = [] := by simpa using h.symm
    subst this; exact .nil
  | a :: as, _, ss, .cons r t, h => by
    rw [List.mapM_cons] at h
    obtain ⟨s, h1, h⟩ := Option.bind_eq_some_iff.mp h
    obtain ⟨ss', h2, h⟩ := Option.bind_eq_some_iff.mp h
    cases h
    refine .cons ?_ (args_slots A t h2)
    cases a with
    | va v => cases h1; exact r
    | nw v =>
      cases h1
      obtain ⟨p, e, _, o, _⟩ := r
      exact ⟨p, e, o⟩
    | io i =>
      simp only [Arg.slot] at h1
      split at h1
      · rename_i v hv
        cases h1
        obtain ⟨p, e, _, o⟩ := A.ow i v hv
        have r : σ[i]? = some (some _) := r
        rw [e] at r; cases r
        exact ⟨p, rfl, o⟩
      · cases h1
theorem putBack_get : ∀ {as : List Arg} {fin : List Slot} {ρ ρ' : Ro}, putBack as fin ρ = some ρ' → ρ'.length = ρ.length ∧ ∀ i : Nat, i < ρ.length → (∃ (j : Nat) (v : Val), as[j]? = some (.io i) ∧ fin[j]? = some (.ow v) ∧ ρ'[i]? = some (.ow v)) ∨ ((∀ j : Nat, as[j]? ≠ some (.io i)) ∧ ρ'[i]? = ρ[i]?)
  | [], fin, ρ, ρ', h => by
    simp only [putBack] at h
    cases h
    exact ⟨rfl, fun i _ => .inr ⟨fun j => by simp, rfl⟩⟩
  | .io i0 :: r, .ow v :: s, ρ, ρ', h => by
    simp only [putBack] at h
    obtain ⟨ρ1, h1, rfl⟩ := Option.map_eq_some_iff.mp h
    obtain ⟨hl, ih⟩ := putBack_get h1
    refine ⟨by rw [List.length_set]; exact hl, fun i hi => ?_⟩
    by_cases e : i = i0
    · subst e
      exact .inl ⟨0, v, rfl, rfl, List.getElem?_set_self (by omega)⟩
    · rw [List.getElem?_set_ne (Ne.symm e)]
      rcases ih i hi with ⟨j, w, q1, q2, q3⟩ | ⟨q1, q2⟩
      · exact .inl ⟨j + 1, w, by simpa using q1, by simpa using q2, q3⟩
      · refine .inr ⟨fun j => ?_, q2⟩
        cases j with
        | zero => intro z; cases z; exact e rfl
        | succ j => simpa using q1 j
  | .io _ :: _, .fz _ :: _, _, _, h => by simp [putBack] at h
  | .io _ :: _, .un :: _, _, _, h => by simp [putBack] at h
  | .io _ :: _, [], _, _, h => by simp [putBack] at h
  | .va _ :: r, [], _, _, h => by simp [putBack] at h
  | .nw _ :: r, [], _, _, h => by simp [putBack] at h
  | .va w :: r, q :: s, ρ, ρ', h => by
    have h1 : putBack r s ρ = some ρ' := by cases q <;> exact h
    obtain ⟨hl, ih⟩ := putBack_get h1
    refine ⟨hl, fun i hi => ?_⟩
    rcases ih i hi with ⟨j, w, q1, q2, q3⟩ | ⟨q1, q2⟩
    · exact .inl ⟨j + 1, w, by simpa using q1, by simpa using q2, q3⟩
    · refine .inr ⟨fun j => ?_, q2⟩
      cases j with
      | zero => intro z; cases z
      | succ j => simpa using q1 j
  | .nw w :: r, q :: s, ρ, ρ', h => by
    have h1 : putBack r s ρ = some ρ' := by cases q <;> exact h
    obtain ⟨hl, ih⟩ := putBack_get h1
    refine ⟨hl, fun i hi => ?_⟩
    rcases ih i hi with ⟨j, w, q1, q2, q3⟩ | ⟨q1, q2⟩
    · exact .inl ⟨j + 1, w, by simpa using q1, by simpa using q2, q3⟩
    · refine .inr ⟨fun j => ?_, q2⟩
      cases j with
      | zero => intro z; cases z
      | succ j => simpa using q1 j
theorem mapM_get {as : List Arg} {ρ : Ro} : ∀ {ss : List Slot}, as.mapM (Arg.slot ρ) = some ss → ∀ j : Nat, (∀ a, as[j]? = some a → ∃ s, ss[j]? = some s ∧ Arg.slot ρ a = some s) ∧ (∀ s, ss[j]? = some s → ∃ a, as[j]? = some a ∧ Arg.slot ρ a = some s) := by
  induction as with
  | nil =>
    intro ss h j
    have : ss = [] := by simpa using h.symm
    subst this
    exact ⟨fun a h => by simp at h, fun s h => by simp at h⟩
  | cons a as ih =>
    intro ss h j
    rw [List.mapM_cons] at h
    obtain ⟨s, h1, h⟩ := Option.bind_eq_some_iff.mp h
    obtain ⟨ss', h2, h⟩ := Option.bind_eq_some_iff.mp h
    cases h
    cases j with
    | zero =>
      refine ⟨fun b hb => ?_, fun b hb => ?_⟩
      · cases hb; exact ⟨s, rfl, h1⟩
      · cases hb; exact ⟨a, rfl, h1⟩
    | succ j => simpa using ih h2 j
theorem paired_at {α β : Type} {R : α → β → Prop} {xs : List α} {ys : List β} (h : Paired R xs ys) {i : Nat} {x : α} {y : β} (hx : xs[i]? = some x) (hy : ys[i]? = some y) : R x y := by
  obtain ⟨y', h1, h2⟩ := GH.paired_get h hx
  rw [hy] at h1; cases h1; exact h2
theorem io_is {G Z F : Hp} {σ : L2.St} {H : Hp} {ρ : Ro} {as : List Arg} {xs : List V} {ss : List Slot} {a : Addr} (A : Abs X.K X.mg G Z F σ H ρ) (P : Paired (AtA X.K X.mg G F σ H ρ) xs as) (hm : as.mapM (Arg.slot ρ) = some ss) {j : Nat} {v : Val} (hx : xs[j]? = some (.ref a)) (hs : ss[j]? = some (.ow v)) :
    G a = none ∧ ((∃ i, as[j]? = some (.io i) ∧ ρ[i]? = some (.ow v) ∧ σ[i]? = some (some (.ref a))) ∨ (as[j]? = some (.nw v) ∧ Lone σ ρ a)) := by
  obtain ⟨g, h1, h2⟩ := (mapM_get hm j).2 _ hs
  have r := paired_at P hx h1
  cases g with
  | va w => cases h2
  | nw w =>
    cases h2
    obtain ⟨p, e, g0, o, l⟩ := r
    cases e
    exact ⟨g0, .inr ⟨h1, l⟩⟩
  | io i =>
    simp only [Arg.slot] at h2
    split at h2
    · rename_i w hw
      cases h2
      obtain ⟨p, e, g0, o⟩ := A.ow i _ hw
      have r : σ[i]? = some (some (.ref a)) := r
      rw [r] at e; cases e
      exact ⟨g0, .inl ⟨i, h1, hw, r⟩⟩
    · cases h2
theorem Abs.call {G Z F F' : Hp} {σ : L2.St} {H H' : Hp} {ρ ρ' : Ro} {as : List Arg} {xs : List V} {ss fin : List Slot} (A : Abs X.K X.mg G Z F σ H ρ) (P : Paired (AtA X.K X.mg G F σ H ρ) xs as) (hm : as.mapM (Arg.slot ρ) = some ss) (E : EndR X.K X.mg F H xs ss F' H' fin) (hp : putBack as fin ρ = some ρ') :
    Abs X.K X.mg G Z F' σ H' ρ' := by
  obtain ⟨hl, pg⟩ := putBack_get hp
  have iog : ∀ a, a ∈ ioOf xs ss → G a = none := fun a h => by
    obtain ⟨j, v, h1, h2⟩ := ioOf_mem h
    exact (io_is A P hm h1 h2).1
  have lt : ∀ {i : Nat} {s : Slot}, ρ'[i]? = some s → i < ρ.length := fun {i s} h => by
    have := (List.getElem?_eq_some_iff.mp h).1
    omega
  have stay : ∀ {i : Nat} {v : Val} {a : Addr}, (∀ j : Nat, as[j]? ≠ some (.io i)) → ρ[i]? = some (.ow v) → σ[i]? = some (some (.ref a)) → Own X.K X.mg F H a v → a ∉ ioOf xs ss := fun {i v a} h1 h2 h3 o h => by
    obtain ⟨j, w, q1, q2⟩ := ioOf_mem h
    rcases (io_is A P hm q1 q2).2 with ⟨i', g1, g2, g3⟩ | ⟨g1, g2⟩
    · by_cases e : i = i'
      · subst e; exact h1 j g1
      · exact A.ap i i' a v w e h2 g2 h3 g3
    · exact g2 i v h2 h3
  refine ⟨E.sub, fun a o h => ?_, A.f0.trans E.up, fun a o h => ?_, by rw [hl]; exact A.len, fun i v h => ?_, fun i v h => ?_, fun i j a v w n h h' => ?_, E.tb, E.nf, A.x.ng⟩
  · exact E.kp a o (A.bg a o h) (fun z => by rw [iog a z] at h; cases h) fun ps z => A.x.ng a ps (by rw [h, z])
  · rcases E.nw a o h with q | q | q | q
    · exact A.nw a o q
    · refine .inr (.inl ?_)
      cases z : G a with
      | none => rfl
      | some u =>
        rcases q with q | ⟨ps, q⟩
        · rw [A.bg a u z] at q; cases q
        · rw [A.bg a u z] at q; cases q; exact absurd z (A.x.ng a ps)
    · exact .inr (.inl (iog a q))
    · exact .inr (.inr q)
  · rcases pg i (lt h) with ⟨j, w, q1, q2, q3⟩ | ⟨q1, q2⟩
    · rw [q3] at h; cases h
    · rw [q2] at h
      obtain ⟨x, h1, h2⟩ := A.fz i v h
      exact ⟨x, h1, h2.mono E.up⟩
  · rcases pg i (lt h) with ⟨j, w, q1, q2, q3⟩ | ⟨q1, q2⟩
    · rw [q3] at h; cases h
      obtain ⟨s, g1, g2⟩ := (mapM_get hm j).1 _ q1
      simp only [Arg.slot] at g2
      split at g2
      · rename_i w hw
        cases g2
        obtain ⟨a, h1, h2, h3⟩ := A.ow i _ hw
        obtain ⟨x, hx, hr⟩ := GH.paired_get' P q1
        have hr : σ[i]? = some (some x) := hr
        rw [h1] at hr; cases hr
        exact ⟨a, h1, h2, E.io j a _ _ g1 hx q2⟩
      · cases g2
    · rw [q2] at h
      obtain ⟨a, h1, h2, h3⟩ := A.ow i v h
      have na := stay q1 h h1 h3
      obtain ⟨u, hu, hnt⟩ := h3.imm
      obtain ⟨u', hu', ht', _⟩ := h3.th
      rw [hu] at hu'; cases hu'
      have hH : H' a = H a := (E.kp a u hu na ht').trans hu.symm
      refine ⟨a, h1, h2, h3.keep E.up ?_ hH⟩
      cases z : F' a with
      | none => rfl
      | some o =>
        rcases E.nw a o z with q | q | q | q
        · rw [h3.no] at q; cases q
        · rcases q with q | ⟨ps, q⟩
          · rw [hu] at q; cases q
          · rw [hu] at q; cases q; exact absurd rfl (ht' ps)
        · exact absurd q na
        · have y := E.sub a _ z
          rw [hH, hu] at y
          cases y
          exact absurd q hnt
  · have was : ∀ {i : Nat} {v : Val}, ρ'[i]? = some (.ow v) → ∃ v', ρ[i]? = some (.ow v') := fun {i v} h => by
      rcases pg i (lt h) with ⟨j, w, q1, q2, q3⟩ | ⟨q1, q2⟩
      · obtain ⟨s, g1, g2⟩ := (mapM_get hm j).1 _ q1
        simp only [Arg.slot] at g2
        split at g2
        · rename_i w hw; exact ⟨w, hw⟩
        · cases g2
      · rw [q2] at h; exact ⟨v, h⟩
    obtain ⟨v1, h1⟩ := was h
    obtain ⟨v2, h2⟩ := was h'
    exact A.ap i j a v1 v2 n h1 h2
theorem io_nodup {G Z F : Hp} {σ : L2.St} {H : Hp} {ρ : Ro} (A : Abs X.K X.mg G Z F σ H ρ) : ∀ {as : List Arg} {xs : List V} {ss : List Slot}, ioNd as = true → Paired (AtA X.K X.mg G F σ H ρ) xs as → as.mapM (Arg.slot ρ) = some ss → (ioOf xs ss).Nodup
  | [], _, ss, _, .nil, h => by cases ss <;> exact List.nodup_nil
  | a :: as, x :: xs, ss, hn, .cons r t, h => by
    rw [List.mapM_cons] at h
    obtain ⟨s, h1, h⟩ := Option.bind_eq_some_iff.mp h
    obtain ⟨ss', h2, h⟩ := Option.bind_eq_some_iff.mp h
    cases h
    cases a with
    | va v =>
      cases h1
      have : ioOf (x :: xs) (.fz v :: ss') = ioOf xs ss' := by cases x <;> rfl
      rw [this]
      exact io_nodup A (show ioNd as = true from hn) t h2
    | nw v =>
      cases h1
      obtain ⟨p, rfl, g0, o, l⟩ := r
      simp only [ioNd, Bool.and_eq_true, Bool.not_eq_true'] at hn
      refine List.nodup_cons.mpr ⟨fun hm => ?_, io_nodup A hn.2 t h2⟩
      obtain ⟨j, w, q1, q2⟩ := ioOf_mem hm
      rcases (io_is A t h2 q1 q2).2 with ⟨i', g1, g2, g3⟩ | ⟨g1, g2⟩
      · exact l i' w g2 g3
      · have : (as.any Arg.isN) = true := List.any_eq_true.mpr ⟨_, List.mem_of_getElem? g1, rfl⟩
        rw [this] at hn; cases hn.1
    | io i =>
      simp only [Arg.slot] at h1
      split at h1
      · rename_i v hv
        cases h1
        obtain ⟨p, e, g0, o⟩ := A.ow i _ hv
        have r : σ[i]? = some (some x) := r
        rw [e] at r; cases r
        simp only [ioNd, Bool.and_eq_true, Bool.not_eq_true'] at hn
        refine List.nodup_cons.mpr ⟨fun hm => ?_, io_nodup A hn.2 t h2⟩
        obtain ⟨j, w, q1, q2⟩ := ioOf_mem hm
        rcases (io_is A t h2 q1 q2).2 with ⟨i', g1, g2, g3⟩ | ⟨g1, g2⟩
        · by_cases ei : i = i'
          · subst ei
            have : (as.any (Arg.isAt i)) = true := List.any_eq_true.mpr ⟨_, List.mem_of_getElem? g1, by simp [Arg.isAt]⟩
            rw [this] at hn; cases hn.1
          · exact A.ap i i' p v w ei hv g2 e g3
        · exact g2 i v hv e
      · cases h1
theorem call_at {G Z F : Hp} {σ : L2.St} {H : Hp} {ρ : Ro} {as : List Arg} {xs : List V} {n : Nat} {f : String} {ps : List String} {Q : VK} {C : Hp → Hp → Ro → Slot → Prop} (A : Abs X.K X.mg G Z F σ H ρ) (P : Paired (AtA X.K X.mg G F σ H ρ) xs as)
    (hC : ∀ F' H' ρ' r, C F' H' ρ' r → ∀ x, ResR X.K X.mg G F' σ H' ρ' x r → Q x H') (hn : ∀ ss o, cal f ss = some o → ss.length = n) (h : Aft X.K X.mg W G Z F σ (callF cal ps f [] as ρ) C) : spF X.K X.mg cal n f xs H Q fun c d H' => W c d σ H' := by
  unfold callF at h
  split at h
  · rename_i hnd
    rw [Bool.and_eq_true] at hnd
    have e1 : ∀ o : Option (List Slot), o.bind (order ps []) = o := fun o => by cases o <;> simp [order]
    rw [e1] at h
    cases hm : as.mapM (Arg.slot ρ) with
    | none => rw [hm] at h; exact h.elim
    | some ss =>
      rw [hm] at h
      have h : Aft X.K X.mg W G Z F σ (finish as (cal f ss) ρ) C := h
      have hl : ss.length = n := by
        cases hc : cal f ss with
        | none => rw [hc] at h; exact h.elim
        | some o => exact hn ss o hc
      refine ⟨F, ss, hl, A.sub, args_slots A P hm, io_nodup A hnd.1 P hm, ⟨A.x.nf, A.x.tb⟩, ?_⟩
      unfold PstC
      unfold finish at h
      split at h
      · rename_i r fin hc
        first | rw [hc] | skip
        split at h
        · rename_i ρ' hp
          intro F' H' x E rx
          have A' := A.call P hm E hp
          refine hC F' H' ρ' r (h F' H' A' E.up) x ?_
          cases r with
          | un => exact rx
          | fz v => exact rx
          | ow v =>
            obtain ⟨p, e, hN, o⟩ := rx
            refine ⟨p, e, ?_, o, fun i w hw hs => ?_⟩
            · cases z : G p with
              | none => rfl
              | some u => exact (hN.not (A.bg p u z) fun ps y => A.x.ng p ps (by rw [z, y])).elim
            · obtain ⟨p', e', _, o'⟩ := A'.ow i w hw
              rw [hs] at e'; cases e'
              have was : ∃ w', ρ[i]? = some (.ow w') := by
                obtain ⟨hl, pg⟩ := putBack_get hp
                have lt : i < ρ.length := by
                  have := (List.getElem?_eq_some_iff.mp hw).1
                  omega
                rcases pg i lt with ⟨j, w, q1, q2, q3⟩ | ⟨q1, q2⟩
                · obtain ⟨s, g1, g2⟩ := (mapM_get hm j).1 _ q1
                  simp only [Arg.slot] at g2
                  split at g2
                  · rename_i w hw; exact ⟨w, hw⟩
                  · cases g2
                · rw [q2] at hw; exact ⟨w, hw⟩
              obtain ⟨w', hw'⟩ := was
              obtain ⟨p', e', _, o'⟩ := A.ow i w' hw'
              rw [hs] at e'; cases e'
              obtain ⟨u, hu, ht, _⟩ := o'.th
              exact hN.not hu ht
        · exact h.elim
      · rename_i e fin hc
        first | rw [hc] | skip
        split at h
        · rename_i ρ' hp
          intro F' H' d E rd
          exact h F' H' d (A.call P hm E hp) E.up rd
        · exact h.elim
      · exact h.elim
  · exact h.elim
theorem sE_call {d : Def} {fa : Addr} {fd : FuncData} {pS : List Str} {n : Nat} {x : Str} {f : String} {p : Pos} {es : List Expr} {xs : List Ex} {k : Nat} (F : FnE X.prog X.w X.K X.mg X.base k fa fd pS (spF X.K X.mg cal n f)) (gd : X.A.guards = some []) (hr : Room k X.A) (tk : Takes X W)
    (hb : ∀ (s : Shared) (us : List Value), us.length = pS.length → BindsTo s fd ⟨us, []⟩ (pS.zip us)) (hg : Gl X x) (hm : X.mg x = some (.ref fa)) (hk : PySem.W.keepIn X.K (.ref fa) = true) (hd : T.fn f = some d) (hn : ∀ ss o, cal f ss = some o → ss.length = n)
    (ha : PA X (e :: es) (tArgs X W T cal mkc d.io xs)) (hdb : (x == ("__debug__" : Str)) = false) (he : starEach (e :: es) X.env = (false, eval e X.env) :: starEach es X.env) (hpl : (backTo pos (starEach es X.env)).any (·.1) = false) :
    PE X (.Call (.Name x p) (e :: es) [] pos) (tE X.K X.mg W T cal mkc (.call f xs [])) := by
  refine ⟨fun pins s σ H Q I h => ?_⟩
  obtain ⟨G, Z, F0, ρ, A, q⟩ := h
  have e1 : evE T cal mkc (.call f xs []) ρ = EV.bnd (evAs T cal mkc d.io xs ρ) fun as ρ1 => callF cal d.ps f [] as ρ1 := by
    simp only [evE, hd]
  rw [e1] at q
  refine wpAny_Call_Name_kw (ld_glob I hg hm ?_ hdb)
  refine PySem.W.callWith_K (h₀ := X.base) I.ok.mod.kin hk (thn (ha.run pos pins s σ H (fun vs H1 => spF X.K X.mg cal n f vs H1 Q fun c d H' => W c d σ H') I ⟨G, Z, F0, ρ, A, q.bnd.imp fun F1 H1 ρ1 as A1 e1 q1 ys rys => call_at A1 rys (fun _ _ _ _ c => c) hn q1⟩) fun us s1 ⟨vs, H1, I1, r, q⟩ => ⟨I1.kIn, ?_⟩) he hpl
  exact run_fnE (args := ⟨us, []⟩) F gd hr tk (hb s1 us) I1 r q
theorem _root_.PySem.ofString_inj {a b : String} (h : Str.ofString a = Str.ofString b) : a = b := by
  rw [PySem.Str.ofString_eq_toList, PySem.Str.ofString_eq_toList] at h
  injection h with h
  have h2 : a.toList.map Char.toNat = b.toList.map Char.toNat := by simpa using congrArg Array.toList h
  have inj : ∀ {l m : List Char}, l.map Char.toNat = m.map Char.toNat → l = m := by
    intro l
    induction l with
    | nil => intro m h; cases m with
      | nil => rfl
      | cons _ _ => cases h
    | cons x l ih => intro m h; cases m with
      | nil => cases h
      | cons y m =>
        simp only [List.map_cons, List.cons.injEq] at h
        have hc : x = y := Char.ext (UInt32.toNat_inj.mp h.1)
        rw [hc, ih h.2]
  exact String.toList_inj.mp (inj h2)
theorem Abs.fresh {G Z F : Hp} {σ : L2.St} {H : Hp} {ρ : Ro} {x : Addr} (A : Abs X.K X.mg G Z F σ H ρ) (h : H x = none) : F x = none ∧ G x = none ∧ Lone σ ρ x := (A.newO (o := .lst []) h).2
end
end EV
namespace EV
open PySem PySem.Spec PyProof.Rows L2
structure ItR (K : PySem.W.Frag) (mg : Str → Option Value) (F : Hp) (J : It) (vs : List Val) : Prop where
  goes : ∀ i H, i < vs.length → Ex' F H → J.go i H
  stops : ∀ H, Ex' F H → J.stop vs.length H
  yields : ∀ (i : Nat) F' H x H' v, vs[i]? = some v → Ex' F F' → Ex' F' H → J.yld i H x H' → NewR K mg F' H x H' (.fz v)
section
variable {K : PySem.W.Frag} {mg : Str → Option Value} {F : Hp}
theorem itr_list {a : Addr} {xs : List V} {vs : List Val} (s : F a = some (.lst xs)) (r : Reps K mg F xs vs) : ItR K mg F (Itl K a) vs where
  goes := fun i H hi e => by
    have hl := r.length
    exact ⟨xs, xs[i]'(by omega), .inl (.inl (e _ _ s)), List.getElem?_eq_getElem (by omega)⟩
  stops := fun H e => ⟨xs, .inl (.inl (e _ _ s)), by rw [r.length]; exact Nat.le_refl _⟩
  yields := fun i F' H x H' v hv e1 e2 y => by
    obtain ⟨rfl, y⟩ := y
    have h := y xs (.inl (.inl ((e1.trans e2) _ _ s)))
    obtain ⟨w, h1, h2⟩ := r.get hv
    rw [h] at h1; cases h1
    exact newR (h2.mono e1)
theorem itr_tup {a : Addr} {xs : List V} {vs : List Val} (s : F a = some (.tup xs)) (r : Reps K mg F xs vs) : ItR K mg F (Itt K a) vs where
  goes := fun i H hi e => by
    have hl := r.length
    exact ⟨xs, xs[i]'(by omega), .inl (.inl (e _ _ s)), List.getElem?_eq_getElem (by omega)⟩
  stops := fun H e => ⟨xs, .inl (.inl (e _ _ s)), by rw [r.length]; exact Nat.le_refl _⟩
  yields := fun i F' H x H' v hv e1 e2 y => by
    obtain ⟨rfl, y⟩ := y
    have h := y xs (.inl (.inl ((e1.trans e2) _ _ s)))
    obtain ⟨w, h1, h2⟩ := r.get hv
    rw [h] at h1; cases h1
    exact newR (h2.mono e1)
theorem itr_str (l : List Nat) : ItR K mg F (Its (toS l)) (l.map fun c => Val.str [c]) where
  goes := fun i H hi e => by simpa [Its, toS] using hi
  stops := fun H e => by simp [Its, toS]
  yields := fun i F' H x H' v hv e1 e2 y => by
    obtain ⟨rfl, c, hc, rfl⟩ := y
    rw [List.getElem?_map] at hv
    have : l[i]? = some c := by simpa [toS] using hc
    rw [this] at hv; cases hv
    exact newR (.str [c])
theorem itr_keys {d : Addr} {o : Obj} {ks : List (Key × V)} {kvs : List (Val × Val)} (s : F d = some (.frz o (.dK ks))) (r : RepK K mg F ks kvs) : ItR K mg F (Itk d o ks) (kvs.map (·.1)) where
  goes := fun i H hi e => ⟨e _ _ s, by rw [r.length]; simpa using hi⟩
  stops := fun H e => ⟨e _ _ s, by rw [r.length]; simp⟩
  yields := fun i F' H x H' v hv e1 e2 y => by
    obtain ⟨rfl, k, w, hk, rfl⟩ := y
    obtain ⟨z, h1, h2⟩ := (repK_keys r).get hv
    rw [List.getElem?_map, hk] at h1; cases h1
    exact newR (h2.mono e1)
theorem key_reps (F2 : Hp) : ∀ js : List Key, Reps K mg F2 (js.map kV) (js.map keyV)
  | [] => .nil
  | j :: js => by
    refine .cons ?_ (key_reps F2 js)
    cases j with
    | inl i => exact .int i
    | inr x => exact (show Rep K mg F2 (.str x) (.str x.cps.toList) from (by simpa [toS] using Rep.str (K := K) (mg := mg) (F := F2) x.cps.toList))
theorem repT_key : ∀ {ks : List (List Key × V)} {kvs : List (Val × Val)} {i : Nat} {k : List Key} {x : V}, RepT K mg F ks kvs → ks[i]? = some (k, x) → ∃ v, kvs[i]? = some (.tup (k.map keyV), v) ∧ Rep K mg F x v
  | _, _, _, _, _, .nil, h => by simp at h
  | _, _, 0, _, _, .cons a r, h => by simp at h; obtain ⟨rfl, rfl⟩ := h; exact ⟨_, rfl, a⟩
  | _, _, i + 1, k, x, .cons a r, h => by
    obtain ⟨v, h1, h2⟩ := repT_key (i := i) r (by simpa using h)
    exact ⟨v, by simpa using h1, h2⟩
theorem newTS {F' H : Hp} {q : Addr} {xs : List V} {vs : List Val} (e : Ex' F' H) (h : H q = some (.tup xs)) (r : Reps K mg F' xs vs) : NewR K mg F' H (.ref q) H (.fz (.tup vs)) := by
  cases w : F' q with
  | some o =>
    have z := e q o w
    rw [h] at z; cases z
    exact newR (.tup w r)
  | none =>
    have ex : Ex' F' (upd F' q (.tup xs)) := Ex'.new w
    refine ⟨upd F' q (.tup xs), ⟨ex, fun c o hq => ?_⟩, .inl ⟨rfl, .tup upd_same (r.mono ex)⟩⟩
    by_cases hc : c = q
    · subst hc; rw [upd_same] at hq; cases hq; exact .inr ⟨h, _, rfl⟩
    · rw [upd_ne hc] at hq; exact .inl hq
theorem itr_keysT {d : Addr} {o : Obj} {ks : List (List Key × V)} {kvs : List (Val × Val)} (s : F d = some (.frz o (.dT ks))) (r : RepT K mg F ks kvs) : ItR K mg F (Itkt d o ks) (kvs.map (·.1)) where
  goes := fun i H hi e => ⟨e _ _ s, by rw [r.length]; simpa using hi⟩
  stops := fun H e => ⟨e _ _ s, by rw [r.length]; simp⟩
  yields := fun i F' H x H' v hv e1 e2 y => by
    obtain ⟨rfl, k, w, q, hk, rfl, hq⟩ := y
    obtain ⟨z, h1, h2⟩ := repT_key r hk
    rw [List.getElem?_map, h1] at hv; cases hv
    exact newTS e2 hq (key_reps F' k)
theorem rng_get {a b : Int} {i : Nat} {v : Val} (h : (rng a b)[i]? = some v) : v = .int (a + (i : Nat)) := by
  unfold rng at h
  rw [List.getElem?_map] at h
  cases q : (List.range (b - a).toNat)[i]? with
  | none => rw [q] at h; cases h
  | some j =>
    rw [q] at h; cases h
    have := List.getElem?_eq_some_iff.mp q
    obtain ⟨h1, h2⟩ := this
    rw [List.getElem_range] at h2
    rw [h2]
theorem itr_rng (a b : Int) : ItR K mg F (Itr a (b - a).toNat) (rng a b) where
  goes := fun i H hi e => by simpa [Itr, rng] using hi
  stops := fun H e => by show (b - a).toNat ≤ (rng a b).length; simp [rng]
  yields := fun i F' H x H' v hv e1 e2 y => by
    obtain ⟨rfl, rfl⟩ := y
    rw [rng_get hv]
    exact newI _
end
section
variable {X : Cx} {W : WX} {T : Tab} {cal mkc : Cal} {a b c e tg : Expr} {ea eb ec : Ex} {pos p : Pos} {kr : Nat}
def tIt (X : Cx) (W : WX) (T : Tab) (cal mkc : Cal) (it : Iter) : TI := fun σ H R => ∃ G Z F ρ, Abs X.K X.mg G Z F σ H ρ ∧ Aft X.K X.mg W G Z F σ (evIt T cal mkc it ρ) fun F' H' ρ' vs => ∀ J, ItR X.K X.mg F' J vs → R J H'
theorem _root_.L2.PI.imp {iter : Expr} {t t' : TI} (h : PI X tg iter t) (k : ∀ σ H R, t' σ H R → t σ H R) : PI X tg iter t' := ⟨fun pins s σ H R I q => h.run pins s σ H R I (k σ H R q)⟩
theorem ev_itV {it : Iter} {ea : Ex} {g : Val → Option (List Val)} {ρ : Ro} (h : evIt T cal mkc it ρ = EV.bnd (evE T cal mkc ea ρ) fun r ρ1 => EV.bnd (fixv r ρ1) fun v ρ2 => EV.lift (g v) ρ2) : evIt T cal mkc it ρ = EV.bnd (EV.bnd (evE T cal mkc ea ρ) fixv) fun v ρ2 => EV.lift (g v) ρ2 := by
  rw [h, bnd_assoc]
theorem sI_seq (ha : PE X a (tE X.K X.mg W T cal mkc ea)) : PI X tg a (tIt X W T cal mkc (.seq ea)) := by
  have hv := pe_fix ha
  refine ⟨fun pins s σ H R I q => ?_⟩
  obtain ⟨G, Z, F, ρ, A, q⟩ := q
  rw [ev_itV (g := itemsF) rfl] at q
  refine (GH.pi_alt (GH.pi_alt (pi_list hv) (pi_tup hv)) (GH.pi_alt (pi_str hv) (pi_keys hv))).run pins s σ H R I ?_
  cases hm : EV.bnd (evE T cal mkc ea ρ) fixv with
  | none => rw [hm] at q; exact q.elim
  | some o =>
    rw [hm] at q
    cases o with
    | ex e ρ' =>
      refine .inl (.inl ⟨G, Z, F, ρ, A, ?_⟩)
      show Aft _ _ _ _ _ _ _ (EV.bnd (evE T cal mkc ea ρ) fixv) _
      rw [hm]
      exact q
    | ok v ρ' =>
      have q : Aft X.K X.mg W G Z F σ (EV.lift (itemsF v) ρ') _ := q
      obtain ⟨vs, hi, q⟩ := q.lift
      have fin : ∀ (C : V → Hp → Prop), (∀ F' H' x, Abs X.K X.mg G Z F' σ H' ρ' → Ex' F F' → Rep X.K X.mg F' x v → C x H') → tV X.K X.mg W T cal mkc ea σ H C := fun C h => by
        refine ⟨G, Z, F, ρ, A, ?_⟩
        show Aft _ _ _ _ _ _ _ (EV.bnd (evE T cal mkc ea ρ) fixv) _
        rw [hm]
        exact fun F' H' A' e' x rx => h F' H' x A' e' rx
      cases v with
      | lst ws =>
        simp only [itemsF] at hi; cases hi
        refine .inl (.inl (fin _ fun F' H' x A' e' rx => ?_))
        cases rx with
        | lst s1 r1 => exact ⟨_, rfl, ⟨_, .inl (.inl (A'.sub _ _ s1))⟩, (Aft.up q e') F' H' A' (Ex'.refl F') _ (itr_list s1 r1)⟩
      | tup ws =>
        simp only [itemsF] at hi; cases hi
        refine .inl (.inr (fin _ fun F' H' x A' e' rx => ?_))
        cases rx with
        | tup s1 r1 => exact ⟨_, rfl, ⟨_, .inl (.inl (A'.sub _ _ s1))⟩, (Aft.up q e') F' H' A' (Ex'.refl F') _ (itr_tup s1 r1)⟩
      | str l =>
        simp only [itemsF] at hi; cases hi
        refine .inr (.inl (fin _ fun F' H' x A' e' rx => ?_))
        cases rx
        exact ⟨toS l, rfl, (Aft.up q e') F' H' A' (Ex'.refl F') _ (itr_str l)⟩
      | dct kvs =>
        simp only [itemsF] at hi; cases hi
        refine .inr (.inr (fin _ fun F' H' x A' e' rx => ?_))
        cases rx with
        | dk s1 r1 => exact ⟨_, _, rfl, .inl ⟨_, A'.sub _ _ s1, (Aft.up q e') F' H' A' (Ex'.refl F') _ (itr_keys s1 r1)⟩⟩
        | dt s1 r1 => exact ⟨_, _, rfl, .inr ⟨_, A'.sub _ _ s1, (Aft.up q e') F' H' A' (Ex'.refl F') _ (itr_keysT s1 r1)⟩⟩
      | _ => simp only [itemsF] at hi; cases hi
theorem sI_rng (hg : Gl X "range") (hm : X.mg "range" = none) (ha : PE X a (tE X.K X.mg W T cal mkc ea)) (hs : starEach [a] X.env = (false, eval a X.env) :: starEach [] X.env) : PI X tg (.Call (.Name "range" p) [a] [] pos) (tIt X W T cal mkc (.rng ea)) := by
  refine (pi_range1 hg hm (pa_cons (pe_fix ha) pa_nil hs) (by rw [hs]; rfl)).imp fun σ H R q => ?_
  obtain ⟨G, Z, F, ρ, A, q⟩ := q
  rw [ev_itV (g := fun v => rngF [v]) rfl] at q
  refine ⟨G, Z, F, ρ, A, q.bnd.imp fun F1 H1 ρ1 v A1 e1 q1 x rx => ?_⟩
  obtain ⟨ws, hi, q2⟩ := q1.lift
  cases rx with
  | int n =>
    simp only [rngF] at hi
    split at hi
    · rename_i hz
      cases hi
      unfold cap at hz
      refine ⟨n, rfl, by omega, by omega, ?_⟩
      have z := q2 F1 H1 A1 (Ex'.refl F1) _ (itr_rng 0 n)
      rw [show n - 0 = n by omega] at z
      exact z
    · cases hi
  | _ => simp only [rngF] at hi; cases hi
end
end EV
namespace EV
open PySem PySem.Spec PyProof.Rows L2
section
variable {K : PySem.W.Frag} {mg : Str → Option Value} {G Z F : Hp} {σ : L2.St} {H : Hp} {ρ : Ro}
theorem set_get {α : Type} {l : List α} {i : Nat} {x : α} (hi : i < l.length) (j : Nat) : (l.set i x)[j]? = if j = i then some x else l[j]? := by
  by_cases hj : j = i
  · subst hj; rw [List.getElem?_set_self hi, if_pos rfl]
  · rw [List.getElem?_set_ne (Ne.symm hj), if_neg hj]
theorem Abs.set {i : Nat} {x : V} {r : Slot} (A : Abs K mg G Z F σ H ρ) (rx : ResR K mg G F σ H ρ x r) (hi : i < ρ.length) : Abs K mg G Z F (σ.set i (some x)) H (ρ.set i r) := by
  have his : i < σ.length := by rw [← A.len]; exact hi
  refine ⟨A.sub, A.bg, A.f0, A.nw, by rw [List.length_set, List.length_set]; exact A.len, fun j v q => ?_, fun j v q => ?_, fun j k a v w hjk q q' s s' => ?_, A.x⟩
  · rw [set_get hi] at q; rw [set_get his]
    by_cases hj : j = i
    · rw [if_pos hj] at q ⊢; cases q
      exact ⟨x, rfl, rx⟩
    · rw [if_neg hj] at q ⊢; exact A.fz j v q
  · rw [set_get hi] at q; rw [set_get his]
    by_cases hj : j = i
    · rw [if_pos hj] at q ⊢; cases q
      obtain ⟨a, e, g, o, _⟩ := rx
      exact ⟨a, by rw [e], g, o⟩
    · rw [if_neg hj] at q ⊢; exact A.ow j v q
  · rw [set_get hi] at q q'; rw [set_get his] at s s'
    by_cases hj : j = i
    · have hk : k ≠ i := fun z => hjk (hj.trans z.symm)
      rw [if_pos hj] at q s; rw [if_neg hk] at q' s'
      cases q
      obtain ⟨b, e, g, o, l⟩ := rx
      rw [e] at s; cases s
      exact l k w q' s'
    · rw [if_neg hj] at q s
      by_cases hk : k = i
      · rw [if_pos hk] at q' s'
        cases q'
        obtain ⟨b, e, g, o, l⟩ := rx
        rw [e] at s'; cases s'
        exact l j v q s
      · rw [if_neg hk] at q' s'
        exact A.ap j k a v w hjk q q' s s'
end
mutual
def tgn : Tg → List Nat
  | .nm i => [i]
  | .tp ts => tgns ts
def tgns : List Tg → List Nat
  | [] => []
  | t :: r => tgn t ++ tgns r
end
section
variable (K : PySem.W.Frag) (mg : Str → Option Value)
def gT (t : Tg) : TG := fun v σ H Q => ∃ G Z F ρ r ρ', Abs K mg G Z F σ H ρ ∧ ResR K mg G F σ H ρ v r ∧ assn t r ρ = some ρ' ∧ ∀ σ', Abs K mg G Z F σ' H ρ' → (∀ i : Nat, i ∉ tgn t → σ'[i]? = σ[i]?) → Q σ' H
end
section
variable {pr : List Nat} {X : Cx} {W : WX} {T : Tab} {cal mkc : Cal} {a b c e tg : Expr} {ea eb ec : Ex} {pos p : Pos} {kr : Nat}
theorem _root_.L2.PG.imp {t t' : TG} (h : PG X tg t) (k : ∀ v σ H Q, t' v σ H Q → t v σ H Q) : PG X tg t' := ⟨fun pins s σ H v u Q I r q => h.run pins s σ H v u Q I r (k v σ H Q q)⟩
theorem _root_.L2.PGs.imp {es : List Expr} {t t' : TGs} (h : PGs X es t) (k : ∀ v σ H Q, t' v σ H Q → t v σ H Q) : PGs X es t' := ⟨fun pins s σ H v u Q I r q => h.run pins s σ H v u Q I r (k v σ H Q q)⟩
theorem _root_.L2.PSs.imp {st : List Stmt} {t t' : TS} (h : PSs X st t) (k : ∀ D σ H, t' D σ H → t D σ H) : PSs X st t' := ⟨fun pins s σ H D I q => h.run pins s σ H D I (k D σ H q)⟩
theorem nm_red {i : Nat} {v : V} {σ : L2.St} {H : Hp} {Q : L2.St → Hp → Prop} (h : gT X.K X.mg (.nm i) v σ H Q) : gName i v σ H Q := by
  obtain ⟨G, Z, F, ρ, r, ρ', A, rx, e, q⟩ := h
  simp only [assn] at e
  split at e
  · rename_i hi
    cases e
    refine q _ (A.set rx hi) fun j hj => ?_
    rw [List.getElem?_set_ne]
    intro z; subst z
    exact hj (by simp [tgn])
  · cases e
theorem sG_name {i : Nat} {x : Str} (hN : X.N.Nodup) (hi : X.N[i]? = some x) (hx : Loc X.env.scope x) (hf : X.fn x = true ∨ X.env.scope.names.lookup x = some .local := by first | exact .inl rfl | exact .inr rfl | assumption) : PG X (.Name x pos) (gT X.K X.mg (.nm i)) :=
  (pg_name hN hi hx hf).imp fun _ _ _ _ q => nm_red q
def Kp (pr : List Nat) (σ σ' : L2.St) : Prop := ∀ i ∈ pr, σ'[i]? = σ[i]?
theorem Kp.refl (pr : List Nat) (σ : L2.St) : Kp pr σ σ := fun _ _ => rfl
theorem Kp.trans {pr : List Nat} {σ σ' σ2 : L2.St} (h : Kp pr σ σ') (k : Kp pr σ' σ2) : Kp pr σ σ2 := fun i hi => (k i hi).trans (h i hi)
theorem kp_tg {pr : List Nat} {t : Tg} {σ σ' : L2.St} (hp : ∀ j ∈ tgn t, j ∉ pr) (k : ∀ i : Nat, i ∉ tgn t → σ'[i]? = σ[i]?) : Kp pr σ σ' := fun i hi => k i fun z => hp i z hi
theorem kp_set {pr : List Nat} {i : Nat} {σ : L2.St} {x : Option V} (hp : i ∉ pr) : Kp pr σ (σ.set i x) := fun j hj => by
  rw [List.getElem?_set_ne]
  intro z; subst z; exact hp hj
def AftS (X : Cx) (W : WX) (pr : List Nat) (σ : L2.St) (G Z F : Hp) (m : Res Fl) (D : Ends) : Prop := match m with
  | some (.ok .nx ρ') => ∀ F' σ' H', Abs X.K X.mg G Z F' σ' H' ρ' → Ex' F F' → Kp pr σ σ' → D.nx σ' H'
  | some (.ok (.rt r) ρ') => ∀ F' σ' H' x, Abs X.K X.mg G Z F' σ' H' ρ' → Ex' F F' → Kp pr σ σ' → ResR X.K X.mg G F' σ' H' ρ' x r → D.rt x H'
  | some (.ex e ρ') => ∀ F' σ' H' d, Abs X.K X.mg G Z F' σ' H' ρ' → Ex' F F' → Kp pr σ σ' → ExR X.K X.mg F' d e → W (cV X.mg e) d σ' H'
  | none => False
def tS (X : Cx) (W : WX) (T : Tab) (cal mkc : Cal) (pr : List Nat) (s : Sx) : TS := fun D σ H => ∃ G Z F ρ, Abs X.K X.mg G Z F σ H ρ ∧ AftS X W pr σ G Z F (evS T cal mkc s ρ) D
def tSs (X : Cx) (W : WX) (T : Tab) (cal mkc : Cal) (pr : List Nat) (ss : List Sx) : TS := fun D σ H => ∃ G Z F ρ, Abs X.K X.mg G Z F σ H ρ ∧ AftS X W pr σ G Z F (evSs T cal mkc ss ρ) D
theorem AftS.up {σ : L2.St} {G Z F F1 : Hp} {m : Res Fl} {D : Ends} (h : AftS X W pr σ G Z F m D) (e : Ex' F F1) : AftS X W pr σ G Z F1 m D := by
  unfold AftS at h ⊢
  split at h
  · exact fun F' σ' H' A q => h F' σ' H' A (e.trans q)
  · exact fun F' σ' H' x A q r => h F' σ' H' x A (e.trans q) r
  · exact fun F' σ' H' d A q r => h F' σ' H' d A (e.trans q) r
  · exact h
theorem AftS.mv {σ σ1 : L2.St} {G Z F : Hp} {m : Res Fl} {D : Ends} (h : AftS X W pr σ G Z F m D) (k : Kp pr σ σ1) : AftS X W pr σ1 G Z F m D := by
  unfold AftS at h ⊢
  split at h
  · exact fun F' σ' H' A q k' => h F' σ' H' A q (k.trans k')
  · exact fun F' σ' H' x A q k' r => h F' σ' H' x A q (k.trans k') r
  · exact fun F' σ' H' d A q k' r => h F' σ' H' d A q (k.trans k') r
  · exact h
theorem AftS.bnd {α : Type} {σ : L2.St} {G Z F : Hp} {m : Res α} {k : α → Ro → Res Fl} {D : Ends} (h : AftS X W pr σ G Z F (EV.bnd m k) D) : Aft X.K X.mg W G Z F σ m fun F' _ ρ' a => AftS X W pr σ G Z F' (k a ρ') D := by
  match m, h with
  | some (.ok a ρ'), h =>
    intro F' H' A q
    have h : AftS X W pr σ G Z F (k a ρ') D := h
    exact h.up q
  | some (.ex e ρ'), h => exact fun F' H' d A q r => h F' σ H' d A q (Kp.refl pr σ) r
  | none, h => exact h
theorem AftS.nxK {G Z F : Hp} {σ σ' : L2.St} {H : Hp} {ρ : Ro} {D : Ends} (h : AftS X W pr σ G Z F (EV.pur .nx ρ) D) (A : Abs X.K X.mg G Z F σ' H ρ) (k : Kp pr σ σ') : D.nx σ' H := h F σ' H A (Ex'.refl F) k
theorem AftS.nx {G Z F : Hp} {σ : L2.St} {H : Hp} {ρ : Ro} {D : Ends} (h : AftS X W pr σ G Z F (EV.pur .nx ρ) D) (A : Abs X.K X.mg G Z F σ H ρ) : D.nx σ H := h.nxK A (Kp.refl pr σ)
theorem AftS.rt {G Z F : Hp} {σ : L2.St} {H : Hp} {ρ : Ro} {D : Ends} {r : Slot} {x : V} (h : AftS X W pr σ G Z F (EV.pur (.rt r) ρ) D) (A : Abs X.K X.mg G Z F σ H ρ) (rx : ResR X.K X.mg G F σ H ρ x r) : D.rt x H := h F σ H x A (Ex'.refl F) (Kp.refl pr σ) rx
theorem sSs_nil : PSs X [] (tSs X W T cal mkc pr []) := by
  refine pss_nil.imp fun D σ H q => ?_
  obtain ⟨G, Z, F, ρ, A, q⟩ := q
  exact AftS.nx q A
theorem sSs_cons {st : Stmt} {sts : List Stmt} {s : Sx} {ss : List Sx} (h1 : PS X st (tS X W T cal mkc pr s)) (h2 : PSs X sts (tSs X W T cal mkc pr ss)) : PSs X (st :: sts) (tSs X W T cal mkc pr (s :: ss)) := by
  refine (pss_cons h1 h2).imp fun D σ H q => ?_
  obtain ⟨G, Z, F, ρ, A, q⟩ := q
  refine ⟨G, Z, F, ρ, A, ?_⟩
  have q : AftS X W pr σ G Z F (EV.bnd (evS T cal mkc s ρ) fun f ρ1 => match f with
      | .nx => evSs T cal mkc ss ρ1
      | .rt q => EV.pur (.rt q) ρ1) D := q
  cases hm : evS T cal mkc s ρ with
  | none => rw [hm] at q; exact q.elim
  | some o =>
    rw [hm] at q
    cases o with
    | ex e ρ' => exact q
    | ok f ρ' =>
      cases f with
      | nx => exact fun F' σ' H' A' e' k' => ⟨G, Z, F', ρ', A', (AftS.up q e').mv k'⟩
      | rt r => exact q
theorem asgN_red {i : Nat} {te : TE} {D : Ends} {σ : L2.St} {H : Hp} (hp : i ∉ pr) (h : ∀ Q, tE X.K X.mg W T cal mkc ea σ H Q → te σ H Q) (q : tS X W T cal mkc pr (.asg (.nm i) ea) D σ H) : tAsg te (gName i) D σ H := by
  obtain ⟨G, Z, F, ρ, A, q⟩ := q
  refine h _ ⟨G, Z, F, ρ, A, (AftS.bnd q).imp fun F' H' ρ' r A' e' q' x rx => ?_⟩
  have q' : AftS X W pr σ G Z F' (match assn (.nm i) r ρ' with
    | some ρ2 => EV.pur .nx ρ2
    | none => none) D := q'
  refine nm_red (X := X) ?_
  cases hm : assn (.nm i) r ρ' with
  | none => rw [hm] at q'; exact q'.elim
  | some ρ2 =>
    rw [hm] at q'
    exact ⟨G, Z, F', ρ', r, ρ2, A', rx, hm, fun σ' A2 k2 => AftS.nxK q' A2 (kp_tg (t := .nm i) (by simpa [tgn] using hp) k2)⟩
theorem sS_set {i : Nat} {x : Str} (hp : i ∉ pr) (hN : X.N.Nodup) (hi : X.N[i]? = some x) (hx : Loc X.env.scope x) (he : PE X e (tE X.K X.mg W T cal mkc ea)) (hs : swapsWith e (some (.Name x p)) pos.line X.env = pure false := by rfl) (hf : X.fn x = true ∨ X.env.scope.names.lookup x = some .local := by first | exact .inl rfl | exact .inr rfl | assumption) :
    PS X (.Assign [.Name x p] e pos) (tS X W T cal mkc pr (.asg (.nm i) ea)) :=
  (ps_set hN hi hx he hs hf).imp fun D σ H q => asgN_red hp (fun _ z => z) q
theorem sS_ret (he : PE X e (tE X.K X.mg W T cal mkc ea)) (hn : ∀ i, ea ≠ .v i) : PS X (.Return (some e) pos) (tS X W T cal mkc pr (.ret ea)) := by
  refine (ps_ret he).imp fun D σ H q => ?_
  obtain ⟨G, Z, F, ρ, A, q⟩ := q
  have e1 : evS T cal mkc (.ret ea) ρ = EV.bnd (evE T cal mkc ea ρ) fun r ρ1 => EV.pur (.rt r) ρ1 := by
    cases ea with
    | v i => exact absurd rfl (hn i)
    | _ => rfl
  rw [e1] at q
  exact ⟨G, Z, F, ρ, A, (AftS.bnd q).imp fun F' H' ρ' r A' e' q' x rx => AftS.rt q' A' rx⟩
theorem sS_retV {i : Nat} (he : PE X e (tVar i)) : PS X (.Return (some e) pos) (tS X W T cal mkc pr (.ret (.v i))) := by
  refine (ps_ret he).imp fun D σ H q => ?_
  obtain ⟨G, Z, F, ρ, A, q⟩ := q
  have e1 : evS T cal mkc (.ret (.v i)) ρ = match ρ[i]? with
      | some (.ow v) => EV.pur (.rt (.ow v)) (ρ.set i .un)
      | some (.fz v) => EV.pur (.rt (.fz v)) ρ
      | _ => none := rfl
  rw [e1] at q
  cases hm : ρ[i]? with
  | none => rw [hm] at q; exact q.elim
  | some s =>
    rw [hm] at q
    cases s with
    | un => exact q.elim
    | fz v =>
      obtain ⟨x, h1, h2⟩ := A.fz i v hm
      exact ⟨x, h1, AftS.rt q A h2⟩
    | ow v =>
      obtain ⟨a, h1, h2, h3⟩ := A.ow i v hm
      obtain ⟨A1, l1⟩ := A.loose hm h1 .un (fun _ z => by cases z) (fun _ z => by cases z)
      exact ⟨_, h1, AftS.rt q A1 ⟨a, rfl, h2, h3, l1⟩⟩
theorem sS_if {sa sb : List Stmt} {xa xb : List Sx} (hc : PT X c (EV.tB X.K X.mg W T cal mkc ec)) (ha : PSs X sa (tSs X W T cal mkc pr xa)) (hb : PSs X sb (tSs X W T cal mkc pr xb)) : PS X (.If c sa sb pos) (tS X W T cal mkc pr (.ife ec xa xb)) := by
  refine (ps_if hc ha hb).imp fun D σ H q => ?_
  obtain ⟨G, Z, F, ρ, A, q⟩ := q
  have e1 : evS T cal mkc (.ife ec xa xb) ρ = EV.bnd (EV.bnd (evE T cal mkc ec ρ) asBool) fun d ρ2 => if d then evSs T cal mkc xa ρ2 else evSs T cal mkc xb ρ2 := by rw [bnd_assoc]; rfl
  rw [e1] at q
  refine ⟨G, Z, F, ρ, A, (AftS.bnd q).imp fun F' H' ρ' d A' e' q' => ?_⟩
  cases d with
  | true => rw [if_pos rfl]; exact ⟨G, Z, F', ρ', A', q'⟩
  | false => rw [if_neg Bool.false_ne_true]; exact ⟨G, Z, F', ρ', A', q'⟩
end
end EV
namespace EV
open PySem PySem.Spec PyProof.Rows L2
section
variable {pr : List Nat} {X : Cx} {W : WX} {T : Tab} {cal mkc : Cal} {a b c e tg : Expr} {ea eb ec : Ex} {pos p : Pos} {kr : Nat}
theorem for_red {it : Iter} {t : Tg} {xa : List Sx} {D : Ends} {σ : L2.St} {H : Hp} (hp : ∀ j ∈ tgn t, j ∉ pr) (q : tS X W T cal mkc pr (.for_ t it xa) D σ H) : tFor (tIt X W T cal mkc it) (gT X.K X.mg t) (tSs X W T cal mkc pr xa) D σ H := by
  obtain ⟨G, Z, F, ρ, A, q⟩ := q
  refine ⟨G, Z, F, ρ, A, (AftS.bnd q).imp fun F1 H1 ρ1 xs A1 e1 q1 J hJ => ?_⟩
  split at q1
  case isFalse => exact q1.elim
  refine ⟨fun i m σ H => m = xs.length - i ∧ i ≤ xs.length ∧ ∃ F ρ, Ex' F1 F ∧ Abs X.K X.mg G Z F σ H ρ ∧ AftS X W pr σ G Z F (forF (evSs T cal mkc xa) t (xs.drop i) ρ) D, ⟨xs.length, rfl, Nat.zero_le _, F1, ρ1, Ex'.refl F1, A1, by rw [List.drop_zero]; exact q1⟩, ?_⟩
  rintro i m σ H ⟨rfl, hi, F2, ρ2, e2, A2, q2⟩
  by_cases hlt : i < xs.length
  · refine .inr ⟨hJ.goes i H hlt (e2.trans A2.sub), fun σ H => ∃ F ρ, Ex' F1 F ∧ Abs X.K X.mg G Z F σ H ρ ∧ AftS X W pr σ G Z F (forF (evSs T cal mkc xa) t (xs.drop (i + 1)) ρ) D, fun σ' H' z => ⟨xs.length - (i + 1), by omega, rfl, hlt, z⟩, fun x H' y => ?_⟩
    have hv : xs[i]? = some xs[i] := List.getElem?_eq_getElem hlt
    have n := hJ.yields i F2 H x H' _ hv e2 A2.sub y
    rw [List.drop_eq_getElem_cons hlt] at q2
    refine A2.new (Q := fun x H' => gT X.K X.mg t x σ H' _) n fun F3 H3 A3 e3 x rx => ?_
    simp only [forF] at q2
    cases hm : assn t (.fz xs[i]) ρ2 with
    | none => rw [hm] at q2; exact q2.elim
    | some ρ3 =>
      rw [hm] at q2
      refine ⟨G, Z, F3, ρ2, _, ρ3, A3, rx, hm, fun σ' A4 k4 => ⟨G, Z, F3, ρ3, A4, ?_⟩⟩
      have q2 : AftS X W pr σ' G Z F3 (EV.bnd (evSs T cal mkc xa ρ3) fun f ρ2 => match f with
        | .nx => forF (evSs T cal mkc xa) t (xs.drop (i + 1)) ρ2
        | .rt q => EV.pur (.rt q) ρ2) D := (AftS.up q2 e3).mv (kp_tg hp k4)
      cases hm : evSs T cal mkc xa ρ3 with
      | none => rw [hm] at q2; exact q2.elim
      | some o =>
        rw [hm] at q2
        cases o with
        | ex e ρ' => exact q2
        | ok f ρ' =>
          cases f with
          | nx => exact fun F' σ' H' A' e' k' => ⟨F', ρ', (e2.trans e3).trans e', A', (AftS.up q2 e').mv k'⟩
          | rt r => exact q2
  · have hi : i = xs.length := by omega
    subst hi
    rw [List.drop_length] at q2
    exact .inl ⟨hJ.stops H (e2.trans A2.sub), AftS.nx q2 A2⟩
theorem sS_for {iter : Expr} {body : List Stmt} {it : Iter} {t : Tg} {xa : List Sx} (hpr : ∀ j ∈ tgn t, j ∉ pr) (hp : PassesOwn (model X.prog X.w) X.A X.env X.xe) (hc : X.calm = true) (hi : PI X tg iter (tIt X W T cal mkc it)) (hg : PG X tg (gT X.K X.mg t)) (hb : PSs X body (tSs X W T cal mkc pr xa)) (hs : ∀ x, foldedSetIterable iter X.env x = pure x := by intro _; rfl) :
    PS X (.For tg iter body [] pos) (tS X W T cal mkc pr (.for_ t it xa)) :=
  (ps_for hp hc hi hg hb hs).imp fun _ _ _ q => for_red hpr q
end
section
variable {K : PySem.W.Frag} {mg : Str → Option Value} {G Z F : Hp} {σ : L2.St} {H : Hp} {ρ : Ro}
theorem Abs.hold {p : Addr} {o : HO} (A : Abs K mg G Z F σ H ρ) (hH : H p = some o) (hF : F p = none) (hl : Lone σ ρ p) (ho : ∀ ps, o ≠ .tbl ps := by nofun) : Abs K mg (upd G p o) Z F σ H ρ := by
  refine ⟨A.sub, fun a u q => ?_, A.f0, fun a u q => ?_, A.len, A.fz, fun i v q => ?_, A.ap, A.x.tb, A.x.nf, A.x.ng.upd ho⟩
  · by_cases ha : a = p
    · subst ha; rw [upd_same] at q; rw [hH]; exact q
    · rw [upd_ne ha] at q; exact A.bg a u q
  · have ha : a ≠ p := fun z => by rw [z, hF] at q; cases q
    rw [upd_ne ha]; exact A.nw a u q
  · obtain ⟨a, h1, h2, h3⟩ := A.ow i v q
    have ha : a ≠ p := fun z => hl i v q (by rw [← z]; exact h1)
    exact ⟨a, h1, by rw [upd_ne ha]; exact h2, h3⟩
theorem Abs.free {p : Addr} {o : HO} (A : Abs K mg (upd G p o) Z F σ H ρ) (hG : G p = none) (hZ : Z p = none) (ho : ¬ Imm o) : Abs K mg G Z F σ H ρ ∧ H p = some o ∧ F p = none ∧ Lone σ ρ p := by
  have hH : H p = some o := A.bg p o upd_same
  have ne : ∀ {a : Addr}, upd G p o a = none → a ≠ p := fun {a} z e => by rw [e, upd_same] at z; cases z
  refine ⟨⟨A.sub, fun a u q => ?_, A.f0, fun a u q => ?_, A.len, A.fz, fun i v q => ?_, A.ap, A.x.tb, A.x.nf, fun a ps z => A.x.ng a ps (by rw [upd_ne (fun y => by rw [y, hG] at z; cases z)]; exact z)⟩, hH, ?_, fun i w q z => ?_⟩
  · have ha : a ≠ p := fun z => by rw [z, hG] at q; cases q
    exact A.bg a u (by rw [upd_ne ha]; exact q)
  · rcases A.nw a u q with h | h | h
    · exact .inl h
    · rw [upd_ne (ne h)] at h; exact .inr (.inl h)
    · exact .inr (.inr h)
  · obtain ⟨a, h1, h2, h3⟩ := A.ow i v q
    rw [upd_ne (ne h2)] at h2
    exact ⟨a, h1, h2, h3⟩
  · cases q : F p with
    | none => rfl
    | some u =>
      rcases A.nw p u q with h | h | h
      · rw [hZ] at h; cases h
      · rw [upd_same] at h; cases h
      · have z := A.sub p u q
        rw [hH] at z; cases z
        exact absurd h ho
  · obtain ⟨a, h1, h2, h3⟩ := A.ow i w q
    rw [z] at h1; cases h1
    rw [upd_same] at h2; cases h2
theorem wipe_get (σ : L2.St) : ∀ (ns : List Nat) (j : Nat), (wipe σ ns)[j]? = if j ∈ ns then (σ[j]?).map fun _ => none else σ[j]?
  | [], j => by simp [wipe]
  | i :: r, j => by
    have ih := wipe_get σ r j
    simp only [wipe]
    by_cases hj : j = i
    · subst hj
      by_cases hl : j < σ.length
      · rw [List.getElem?_set_self (by rw [wipe_length]; exact hl)]
        simp [hl]
      · rw [List.getElem?_eq_none (by rw [List.length_set, wipe_length]; omega)]
        simp [List.getElem?_eq_none (show σ.length ≤ j by omega)]
    · rw [List.getElem?_set_ne (Ne.symm hj), ih]
      simp [hj]
theorem wipeR_len (ρ : Ro) : ∀ ns : List Nat, (wipeR ρ ns).length = ρ.length
  | [] => rfl
  | i :: r => by simp [wipeR, wipeR_len ρ r]
theorem wipeR_get (ρ : Ro) : ∀ (ns : List Nat) (j : Nat), (wipeR ρ ns)[j]? = if j ∈ ns then (ρ[j]?).map fun _ => .un else ρ[j]?
  | [], j => by simp [wipeR]
  | i :: r, j => by
    have ih := wipeR_get ρ r j
    simp only [wipeR]
    by_cases hj : j = i
    · subst hj
      by_cases hl : j < ρ.length
      · rw [List.getElem?_set_self (by rw [wipeR_len]; exact hl)]
        simp [hl]
      · rw [List.getElem?_eq_none (by rw [List.length_set, wipeR_len]; omega)]
        simp [List.getElem?_eq_none (show ρ.length ≤ j by omega)]
    · rw [List.getElem?_set_ne (Ne.symm hj), ih]
      simp [hj]
theorem unwipe_len (ρ ρ' : Ro) : ∀ ns : List Nat, (unwipe ns ρ ρ').length = ρ'.length
  | [] => rfl
  | i :: r => by simp [unwipe, unwipe_len ρ ρ' r]
theorem unwipe_get (ρ ρ' : Ro) (hl : ρ.length = ρ'.length) : ∀ (ns : List Nat) (j : Nat), (unwipe ns ρ ρ')[j]? = if j ∈ ns then ρ[j]? else ρ'[j]?
  | [], j => by simp [unwipe]
  | i :: r, j => by
    have ih := unwipe_get ρ ρ' hl r j
    simp only [unwipe]
    by_cases hj : j = i
    · subst hj
      by_cases hl' : j < ρ'.length
      · rw [List.getElem?_set_self (by rw [unwipe_len]; exact hl')]
        have : j < ρ.length := by omega
        simp [this]
      · rw [List.getElem?_eq_none (by rw [List.length_set, unwipe_len]; omega)]
        simp [List.getElem?_eq_none (show ρ.length ≤ j by omega)]
    · rw [List.getElem?_set_ne (Ne.symm hj), ih]
      simp [hj]
theorem Abs.wipe {ns : List Nat} (A : Abs K mg G Z F σ H ρ) : Abs K mg G Z F (L2.wipe σ ns) H (wipeR ρ ns) := by
  have out : ∀ {j : Nat} {s : Slot}, (wipeR ρ ns)[j]? = some s → s ≠ .un → j ∉ ns ∧ ρ[j]? = some s := fun {j s} q hs => by
    rw [wipeR_get] at q
    by_cases hj : j ∈ ns
    · rw [if_pos hj] at q
      obtain ⟨_, _, z⟩ := Option.map_eq_some_iff.mp q
      exact absurd z.symm hs
    · rw [if_neg hj] at q; exact ⟨hj, q⟩
  refine ⟨A.sub, A.bg, A.f0, A.nw, by rw [wipeR_len, wipe_length]; exact A.len, fun j v q => ?_, fun j v q => ?_, fun j k a v w hjk q q' s s' => ?_, A.x⟩
  · obtain ⟨hj, q⟩ := out q (by intro z; cases z)
    obtain ⟨x, h1, h2⟩ := A.fz j v q
    exact ⟨x, by rw [wipe_get, if_neg hj]; exact h1, h2⟩
  · obtain ⟨hj, q⟩ := out q (by intro z; cases z)
    obtain ⟨x, h1, h2⟩ := A.ow j v q
    exact ⟨x, by rw [wipe_get, if_neg hj]; exact h1, h2⟩
  · obtain ⟨hj, q⟩ := out q (by intro z; cases z)
    obtain ⟨hk, q'⟩ := out q' (by intro z; cases z)
    rw [wipe_get, if_neg hj] at s
    rw [wipe_get, if_neg hk] at s'
    exact A.ap j k a v w hjk q q' s s'
theorem Abs.back {F1 : Hp} {H1 : Hp} {ρ1 : Ro} {ns : List Nat} (A1 : Abs K mg G Z F1 σ H1 ρ1) (hc : clean ns ρ1 = true) (e : Ex' F1 F) (A : Abs K mg G Z F (L2.wipe σ ns) H ρ) : Abs K mg G Z F σ H (unwipe ns ρ1 ρ) ∧ ∀ a, Lone (L2.wipe σ ns) ρ a → Lone σ (unwipe ns ρ1 ρ) a := by
  have hl : ρ1.length = ρ.length := by rw [A1.len, A.len, wipe_length]
  have cl : ∀ {j : Nat} {v : Val}, j ∈ ns → ρ1[j]? ≠ some (.ow v) := fun {j v} hj z => by
    unfold clean at hc
    have := List.all_eq_true.mp hc j hj
    rw [z] at this
    cases this
  have own : ∀ {j : Nat} {v : Val}, (unwipe ns ρ1 ρ)[j]? = some (.ow v) → j ∉ ns ∧ ρ[j]? = some (.ow v) := fun {j v} q => by
    rw [unwipe_get _ _ hl] at q
    by_cases hj : j ∈ ns
    · rw [if_pos hj] at q; exact absurd q (cl hj)
    · rw [if_neg hj] at q; exact ⟨hj, q⟩
  have wg : ∀ {j : Nat}, j ∉ ns → (L2.wipe σ ns)[j]? = σ[j]? := fun {j} hj => by rw [wipe_get, if_neg hj]
  refine ⟨⟨A.sub, A.bg, A.f0, A.nw, by rw [unwipe_len, A.len, wipe_length], fun j v q => ?_, fun j v q => ?_, fun j k a v w hjk q q' s s' => ?_, A.x⟩, fun a l j w q s => ?_⟩
  · rw [unwipe_get _ _ hl] at q
    by_cases hj : j ∈ ns
    · rw [if_pos hj] at q
      obtain ⟨x, h1, h2⟩ := A1.fz j v q
      exact ⟨x, h1, h2.mono e⟩
    · rw [if_neg hj] at q
      obtain ⟨x, h1, h2⟩ := A.fz j v q
      exact ⟨x, by rw [← wg hj]; exact h1, h2⟩
  · obtain ⟨hj, q⟩ := own q
    obtain ⟨x, h1, h2⟩ := A.ow j v q
    exact ⟨x, by rw [← wg hj]; exact h1, h2⟩
  · obtain ⟨hj, q⟩ := own q
    obtain ⟨hk, q'⟩ := own q'
    rw [← wg hj] at s
    rw [← wg hk] at s'
    exact A.ap j k a v w hjk q q' s s'
  · obtain ⟨hj, q⟩ := own q
    rw [← wg hj] at s
    exact l j w q s
end
end EV
namespace EV
open PySem PySem.Spec PyProof.Rows L2
def W0 : WX := fun _ _ _ _ => False
section
variable {pr : List Nat} {X : Cx} {W : WX} {T : Tab} {cal mkc : Cal} {a b c e tg : Expr} {ea eb ec : Ex} {pos p : Pos} {kr : Nat}
def tCo (X : Cx) (W : WX) (T : Tab) (cal mkc : Cal) (c : Option Ex) : TT := fun σ H Q => ∃ G Z F ρ, Abs X.K X.mg G Z F σ H ρ ∧ Aft X.K X.mg W G Z F σ (evC T cal mkc c ρ) fun F' H' ρ' b => Q b H'
theorem _root_.L2.PTs.imp {es : List Expr} {t t' : TT} (h : PTs X es t) (k : ∀ σ H Q, t' σ H Q → t σ H Q) : PTs X es t' := ⟨fun pins s σ H Q I q => h.run pins s σ H Q I (k σ H Q q)⟩
theorem sC_none : PTs X [] (tCo X W T cal mkc none) := by
  refine pts_nil.imp fun σ H Q q => ?_
  obtain ⟨G, Z, F, ρ, A, q⟩ := q
  exact Aft.pur q A
mutual
theorem assn_len : ∀ {t : Tg} {r : Slot} {ρ ρ' : Ro}, assn t r ρ = some ρ' → ρ'.length = ρ.length
  | .nm i, r, ρ, ρ', h => by
    simp only [assn] at h
    split at h
    · cases h; simp
    · cases h
  | .tp ts, r, ρ, ρ', h => by
    simp only [assn] at h
    split at h
    · split at h
      · exact assns_len h
      · cases h
    · split at h
      · exact assns_len h
      · cases h
    · cases h
theorem assns_len : ∀ {ts : List Tg} {xs : List Val} {ρ ρ' : Ro}, assns ts xs ρ = some ρ' → ρ'.length = ρ.length
  | [], xs, ρ, ρ', h => by simp only [assns] at h; cases h; rfl
  | t :: ts, [], ρ, ρ', h => by simp only [assns] at h; cases h
  | t :: ts, x :: xs, ρ, ρ', h => by
    simp only [assns] at h
    obtain ⟨ρ1, h1, h2⟩ := Option.bind_eq_some_iff.mp h
    rw [assns_len h2, assn_len h1]
end
theorem wipe_same {ns : List Nat} {t : Tg} {σ σ4 : L2.St} {ρ2 ρ3 : Ro} (ht : ∀ i ∈ tgn t, i ∈ ns) (l2 : ρ2.length = (L2.wipe σ ns).length) (l1 : ρ3.length = σ4.length) (l3 : ρ3.length = ρ2.length) (k4 : ∀ i : Nat, i ∉ tgn t → σ4[i]? = (L2.wipe σ ns)[i]?) : L2.wipe σ4 ns = L2.wipe σ ns := by
  apply List.ext_getElem?
  intro j
  rw [wipe_get, wipe_get]
  by_cases hj : j ∈ ns
  · rw [if_pos hj, if_pos hj]
    rw [wipe_length] at l2
    by_cases hjl : j < σ.length
    · rw [List.getElem?_eq_getElem hjl, List.getElem?_eq_getElem (show j < σ4.length by omega)]; rfl
    · rw [List.getElem?_eq_none (by omega), List.getElem?_eq_none (by omega)]
  · rw [if_neg hj, if_neg hj, k4 j fun z => hj (ht j z), wipe_get, if_neg hj]
def lcF (T : Tab) (cal mkc : Cal) (c : Option Ex) (e : Ex) : Ro → Res (Option Val) := fun ρ => bnd (evC T cal mkc c ρ) fun b ρ' => if b then bnd (evE T cal mkc e ρ') fun r ρ2 => bnd (fixv r ρ2) fun v ρ3 => pur (some v) ρ3 else pur none ρ'
theorem lc_red {ns : List Nat} {t : Tg} {it : Iter} {co : Option Ex} {σ : L2.St} {H : Hp} {Q : VK} (ht : ∀ i ∈ tgn t, i ∈ ns) (q : tE X.K X.mg W T cal mkc (.lc ns t it co ea) σ H Q) :
    tLc (tIt X W T cal mkc it) (gT X.K X.mg t) (tCo X W0 T cal mkc co) (tV X.K X.mg W0 T cal mkc ea) ns σ H Q := by
  obtain ⟨G, Z, F, ρ, A, q⟩ := q
  refine ⟨G, Z, F, ρ, A, (Aft.bnd q).imp fun F1 H1 ρ1 xs A1 e1 q1 J hJ D hD => ?_⟩
  split at q1
  case isFalse => exact q1.elim
  rename_i hcap
  obtain ⟨hcap, hcl⟩ := hcap
  have q1 : Aft X.K X.mg W G Z F1 σ (EV.bnd (quiet (lcLoop (lcF T cal mkc co ea) t ns xs (wipeR ρ1 ns))) fun ys ρ2 => EV.pur (Slot.ow (.lst ys)) (unwipe ns ρ1 ρ2)) _ := q1
  cases hm : lcLoop (lcF T cal mkc co ea) t ns xs (wipeR ρ1 ns) with
  | none => rw [hm] at q1; exact q1.elim
  | some o =>
    rw [hm] at q1
    cases o with
    | ex e ρ' => exact q1.elim
    | ok ys ρe =>
      have q1 : Aft X.K X.mg W G Z F1 σ (EV.pur (Slot.ow (.lst ys)) (unwipe ns ρ1 ρe)) _ := q1
      obtain ⟨hFD, hGD, hLD⟩ := A1.fresh hD
      have hZD : Z D = none := by
        cases z : Z D with
        | none => rfl
        | some u => rw [A1.f0 D u z] at hFD; cases hFD
      obtain ⟨A2, _, _, hl2⟩ := (A1.wipe (ns := ns)).newO (o := .lst []) hD
      refine ⟨fun i m H => m = xs.length - i ∧ i ≤ xs.length ∧ ∃ F ρ acc vs zs, Ex' F1 F ∧ Abs X.K X.mg G Z F (L2.wipe σ ns) H ρ ∧ H D = some (.lst acc) ∧ F D = none ∧ Lone (L2.wipe σ ns) ρ D ∧ Reps X.K X.mg F acc vs ∧ acc.length ≤ i ∧ ys = vs ++ zs ∧ lcLoop (lcF T cal mkc co ea) t ns (xs.drop i) ρ = some (.ok zs ρe),
        ⟨xs.length, rfl, Nat.zero_le _, F1, _, [], [], ys, Ex'.refl F1, A2, upd_same, hFD, hl2, .nil, Nat.le_refl _, rfl, by rw [List.drop_zero]; exact hm⟩, ?_⟩
      rintro i m H ⟨rfl, hi, F2, ρ2, acc, vs, zs, e2, A2, hH2, hF2, hL2, rv, hal, hys, hlp⟩
      by_cases hlt : i < xs.length
      · refine .inr ⟨hJ.goes i H hlt (e2.trans A2.sub), fun H => ∃ F ρ acc vs zs, Ex' F1 F ∧ Abs X.K X.mg G Z F (L2.wipe σ ns) H ρ ∧ H D = some (.lst acc) ∧ F D = none ∧ Lone (L2.wipe σ ns) ρ D ∧ Reps X.K X.mg F acc vs ∧ acc.length ≤ i + 1 ∧ ys = vs ++ zs ∧ lcLoop (lcF T cal mkc co ea) t ns (xs.drop (i + 1)) ρ = some (.ok zs ρe), fun H' z => ⟨xs.length - (i + 1), by omega, rfl, hlt, z⟩, fun x H' y => ?_⟩
        have hv : xs[i]? = some xs[i] := List.getElem?_eq_getElem hlt
        have n := hJ.yields i F2 H x H' _ hv e2 A2.sub y
        rw [List.drop_eq_getElem_cons hlt] at hlp
        simp only [lcLoop] at hlp
        split at hlp
        case h_2 => cases hlp
        rename_i ρ3 hρ3
        have A2' := A2.hold hH2 hF2 hL2
        refine A2'.new (Q := fun x H' => gT X.K X.mg t x (L2.wipe σ ns) H' _) n fun F3 H3 A3 e3 x rx => ?_
        refine ⟨upd G D (.lst acc), Z, F3, ρ2, _, ρ3, A3, rx, hρ3, fun σ4 A4 k4 => ?_⟩
        · have hw := wipe_same ht A3.len A4.len (assn_len hρ3) k4
          refine ⟨hw, ?_⟩
          cases hf : lcF T cal mkc co ea ρ3 with
          | none => rw [hf] at hlp; cases hlp
          | some o =>
            rw [hf] at hlp
            cases o with
            | ex e ρ' => cases hlp
            | ok y0 ρ5 =>
              simp only [bnd_ok] at hlp
              cases hr : lcLoop (lcF T cal mkc co ea) t ns (xs.drop (i + 1)) (wipeR ρ5 ns) with
              | none => rw [hr] at hlp; cases hlp
              | some o =>
                rw [hr] at hlp
                cases o with
                | ex e ρ' => cases hlp
                | ok zs' ρe' =>
                  simp only [bnd_ok, EV.pur] at hlp
                  have hf' : Aft X.K X.mg W0 (upd G D (.lst acc)) Z F3 σ4 (lcF T cal mkc co ea ρ3) fun _ _ ρ' y' => y' = y0 ∧ ρ' = ρ5 := by
                    rw [hf]; exact fun _ _ _ _ => ⟨rfl, rfl⟩
                  refine ⟨upd G D (.lst acc), Z, F3, ρ3, A4, (Aft.bnd hf').imp fun F5 H5 ρ5' d A5 e5 q5 => ?_⟩
                  cases d with
                  | false =>
                    rw [if_neg Bool.false_ne_true] at q5 ⊢
                    obtain ⟨hy, hρ⟩ := Aft.pur q5 A5
                    subst hy; subst hρ
                    have A5w := A5.wipe (ns := ns)
                    rw [hw] at A5w
                    obtain ⟨A6, h1, h2, h3⟩ := A5w.free hGD hZD (fun z => z.elim (fun ⟨_, z⟩ => by cases z) fun ⟨_, z⟩ => by cases z)
                    cases hlp
                    exact ⟨F5, _, acc, vs, zs', (e2.trans e3).trans e5, A6, h1, h2, h3, rv.mono (e3.trans e5), by omega, hys, hr⟩
                  | true =>
                    rw [if_pos rfl] at q5 ⊢
                    have q5 : Aft X.K X.mg W0 (upd G D (.lst acc)) Z F5 σ4 (EV.bnd (EV.bnd (evE T cal mkc ea ρ5') fixv) fun v ρ3 => EV.pur (some v) ρ3) (fun _ _ ρ' y' => y' = y0 ∧ ρ' = ρ5) := by rw [bnd_assoc]; exact q5
                    refine ⟨upd G D (.lst acc), Z, F5, ρ5', A5, (Aft.bnd q5).imp fun F6 H6 ρ6 v A6 e6 q6 y ry => ?_⟩
                    obtain ⟨hy, hρ⟩ := Aft.pur q6 A6
                    subst hy; subst hρ
                    have A6w := A6.wipe (ns := ns)
                    rw [hw] at A6w
                    obtain ⟨A7, h1, h2, h3⟩ := A6w.free hGD hZD (fun z => z.elim (fun ⟨_, z⟩ => by cases z) fun ⟨_, z⟩ => by cases z)
                    cases hlp
                    have hsz : acc.length < sizeLine := by
                      have : sizeLine = 16777216 := rfl
                      unfold cap at hcap
                      omega
                    exact ⟨acc, h1, hsz, F6, _, acc ++ [y], vs ++ [v], zs', ((e2.trans e3).trans e5).trans e6, A7.wr h2 hGD h3 ⟨_, h1, by nofun, by nofun⟩, upd_same, h2, h3, (rv.mono ((e3.trans e5).trans e6)).app (.cons ry .nil), by simp; omega, by rw [hys]; simp, hr⟩
      · have hi : i = xs.length := by omega
        subst hi
        rw [List.drop_length] at hlp
        simp only [lcLoop, EV.pur] at hlp
        cases hlp
        obtain ⟨A3, l3⟩ := A1.back hcl e2 A2
        refine .inl ⟨hJ.stops H (e2.trans A2.sub), ?_⟩
        rw [List.append_nil] at hys
        subst hys
        exact (Aft.up q1 e2) F2 H A3 (Ex'.refl F2) (.ref D) ⟨D, rfl, hGD, .lst hF2 hH2 rv, l3 D hL2⟩
theorem sE_lc {elt iter : Expr} {ifs : List Expr} {scope : Scope} {own : List (Str × Nat)} {ns : List Nat} {t : Tg} {it : Iter} {co : Option Ex} (hc : X.calm = true) (hN : X.N.Nodup) (hi : PI X tg iter (tIt X W T cal mkc it)) (ok : BlkOk X.N X.env.scope scope own) (hns : own.map (·.2) = ns) (ht : ∀ i ∈ tgn t, i ∈ ns)
    (hg : ∀ (s : Shared) (H : Hp) (C : Addr) (cl : List (Str × Addr)) (fp : List Addr), PG (X.blk s H scope (compEnvC scope cl C X.env) fp) tg (gT X.K X.mg t)) (hco : ∀ (s : Shared) (H : Hp) (C : Addr) (cl : List (Str × Addr)) (fp : List Addr), PTs (X.blk s H scope (compEnvC scope cl C X.env) fp) ifs (tCo X W0 T cal mkc co))
    (he : ∀ (s : Shared) (H : Hp) (C : Addr) (cl : List (Str × Addr)) (fp : List Addr), PE (X.blk s H scope (compEnvC scope cl C X.env) fp) elt (tE X.K X.mg W0 T cal mkc ea)) (hs : ∀ x, foldedSetIterable iter X.env x = pure x := by intro _; rfl) :
    PE X (.ListComp elt [⟨tg, iter, ifs, 0⟩] scope pos) (tE X.K X.mg W T cal mkc (.lc ns t it co ea)) := by
  subst hns
  exact (pe_lc hc hN hi ok hg hco (fun s H C cl fp => pe_fix (he s H C cl fp)) hs).imp fun _ _ _ q => lc_red ht q
end
end EV
namespace EV
open PySem PySem.Spec PyProof.Rows L2
section
variable {pr : List Nat} {X : Cx} {W : WX} {T : Tab} {cal mkc : Cal} {a b c e tg : Expr} {ea eb ec ek : Ex} {pos p : Pos} {kr : Nat}
theorem key_repX {F : Hp} {x : V} {v : Val} (r : Rep X.K X.mg F x v) (h : keyOk v = true) : ∃ k : Key, x = kV k ∧ v = keyV k := by
  cases r with
  | int i => exact ⟨.inl i, rfl, rfl⟩
  | str l => exact ⟨.inr (toS l), rfl, by simp [keyV, toS]⟩
  | _ => simp [keyOk] at h
theorem notTup_key {k : Val} (h : dkey k = true) (ht : isTup k = false) : keyOk k = true := by
  cases k <;> simp_all [dkey, isTup, keyOk]
end
end EV
namespace EV
open PySem PySem.Spec PyProof.Rows L2
section
variable {pr : List Nat} {X : Cx} {W : WX} {T : Tab} {cal mkc : Cal} {a b c e tg : Expr} {ea eb ec ek : Ex} {pos p : Pos} {kr : Nat}
theorem Aft.hold {α : Type} {G Z F : Hp} {σ : L2.St} {m : Res α} {C : Hp → Hp → Ro → α → Prop} {q : Addr} {o : HO} (h : Aft X.K X.mg W G Z F σ m C) (hG : G q = none) (hZ : Z q = none) (ho : ¬ Imm o) :
    Aft X.K X.mg W (upd G q o) Z F σ m fun F' H' ρ' a => C F' H' ρ' a ∧ H' q = some o ∧ F' q = none ∧ Lone σ ρ' q := by
  match m, h with
  | some (.ok a ρ'), h =>
    intro F' H' A e
    obtain ⟨A1, h1, h2, h3⟩ := A.free hG hZ ho
    exact ⟨h F' H' A1 e, h1, h2, h3⟩
  | some (.ex e ρ'), h => exact fun F' H' d A e' r => h F' H' d (A.free hG hZ ho).1 e' r
  | none, h => exact h
theorem ResR.set {G Z F : Hp} {σ : L2.St} {H : Hp} {ρ : Ro} {i : Nat} {x y : V} {r s : Slot} (A : Abs X.K X.mg G Z F σ H ρ) (hi : i < ρ.length) (h : ResR X.K X.mg G F σ H ρ x r) (hd : ∀ v w a, r = .ow v → s = .ow w → x = .ref a → y ≠ .ref a) : ResR X.K X.mg G F (σ.set i (some y)) H (ρ.set i s) x r := by
  have his : i < σ.length := by rw [← A.len]; exact hi
  cases r with
  | un => exact h.elim
  | fz v => exact h
  | ow v =>
    obtain ⟨a, e, g, o, l⟩ := h
    refine ⟨a, e, g, o, fun j w q z => ?_⟩
    rw [set_get hi] at q; rw [set_get his] at z
    by_cases hj : j = i
    · rw [if_pos hj] at q z
      cases q; cases z
      exact hd v w a rfl rfl e rfl
    · rw [if_neg hj] at q z
      exact l j w q z
def setV : List Nat → List V → L2.St → L2.St
  | i :: is, x :: xs, σ => setV is xs (σ.set i (some x))
  | _, _, σ => σ
theorem abs_setAll {G Z F : Hp} {H : Hp} : ∀ {is : List Nat} {xs : List V} {rs : List Slot} {σ : L2.St} {ρ ρ' : Ro}, Abs X.K X.mg G Z F σ H ρ → Paired (ResR X.K X.mg G F σ H ρ) xs rs → (ioOf xs rs).Nodup → setAll is rs ρ = some ρ' → Abs X.K X.mg G Z F (setV is xs σ) H ρ'
  | [], _, _, σ, ρ, ρ', A, .nil, _, h => by simp only [setAll] at h; cases h; exact A
  | [], _, _, σ, ρ, ρ', A, .cons _ _, _, h => by simp only [setAll] at h; cases h
  | i :: is, _, _, σ, ρ, ρ', A, .nil, _, h => by simp only [setAll] at h; cases h
  | i :: is, _, _, σ, ρ, ρ', A, .cons (a := x) (b := r) (l₁ := xs) (l₂ := rs) rx rr, nd, h => by
    simp only [setAll] at h
    split at h
    · rename_i hi
      have nd2 : (ioOf xs rs).Nodup ∧ ∀ v a, r = .ow v → x = .ref a → a ∉ ioOf xs rs := by
        cases r with
        | ow v =>
          obtain ⟨p, rfl, _⟩ := rx
          have nd : (p :: ioOf xs rs).Nodup := nd
          exact ⟨(List.nodup_cons.mp nd).2, fun _ a _ z => by cases z; exact (List.nodup_cons.mp nd).1⟩
        | fz v => exact ⟨by cases x <;> exact nd, fun _ _ z => by cases z⟩
        | un => exact rx.elim
      show Abs X.K X.mg G Z F (setV is xs (σ.set i (some x))) H ρ'
      refine abs_setAll (A.set rx hi) ?_ nd2.1 h
      refine paired_mem rr fun j y s hy hs ry => ResR.set A hi ry fun v w a hr hs' ey ex => ?_
      subst hr; subst ey
      exact nd2.2 w a hs' ex (ioOf_at hy hs)
    · cases h
  where
    paired_mem {α β : Type} {R S : α → β → Prop} : ∀ {xs : List α} {ys : List β}, Paired R xs ys → (∀ (j : Nat) x y, xs[j]? = some x → ys[j]? = some y → R x y → S x y) → Paired S xs ys
      | _, _, .nil, _ => .nil
      | _, _, .cons a r, k => .cons (k 0 _ _ rfl rfl a) (paired_mem r fun j x y h1 h2 => k (j + 1) x y (by simpa using h1) (by simpa using h2))
    ioOf_at : ∀ {xs : List V} {rs : List Slot} {j : Nat} {a : Addr} {v : Val}, xs[j]? = some (.ref a) → rs[j]? = some (.ow v) → a ∈ ioOf xs rs
      | [], _, _, _, _, h, _ => by simp at h
      | _ :: _, [], _, _, _, _, h => by simp at h
      | x :: xs, s :: ss, 0, a, v, h1, h2 => by
        simp at h1 h2; subst h1; subst h2
        exact List.mem_cons_self
      | x :: xs, s :: ss, j + 1, a, v, h1, h2 => by
        have ih : a ∈ ioOf xs ss := ioOf_at (j := j) (v := v) (by simpa using h1) (by simpa using h2)
        cases x with
        | ref b =>
          cases s with
          | ow w => exact List.mem_cons_of_mem _ ih
          | fz w => exact ih
          | un => exact ih
        | _ => cases s <;> exact ih
end
end EV
namespace EV
open PySem PySem.Spec PyProof.Rows L2
section
variable {pr : List Nat} {X : Cx} {W : WX} {T : Tab} {cal mkc : Cal} {a b c e tg : Expr} {ea eb ec ek : Ex} {pos p : Pos} {kr : Nat}
theorem Abs.wrO {G Z F : Hp} {σ : L2.St} {H : Hp} {ρ : Ro} {i : Nat} {q : Addr} {v r : Val} {ob : HO} (A : Abs X.K X.mg G Z F σ H ρ) (hρ : ρ[i]? = some (.ow v)) (hσ : σ[i]? = some (some (.ref q))) (o : Own X.K X.mg F (upd H q ob) q r) : Abs X.K X.mg G Z F σ (upd H q ob) (ρ.set i (.ow r)) := by
  have hi : i < ρ.length := (List.getElem?_eq_some_iff.mp hρ).1
  obtain ⟨q', h1, hG, o0⟩ := A.ow i v hρ
  rw [hσ] at h1; cases h1
  have hF := o0.no
  refine ⟨fun a u z => ?_, fun a u z => ?_, A.f0, A.nw, by rw [List.length_set]; exact A.len, fun j w z => ?_, fun j w z => ?_, fun j k b w w' hjk z z' s s' => ?_, A.x.tb.wr o0.th, A.x.nf, A.x.ng⟩
  · rw [upd_ne (fun y => by rw [y, hF] at z; cases z)]; exact A.sub a u z
  · rw [upd_ne (fun y => by rw [y, hG] at z; cases z)]; exact A.bg a u z
  · rw [set_get hi] at z
    by_cases hj : j = i
    · rw [if_pos hj] at z; cases z
    · rw [if_neg hj] at z; exact A.fz j w z
  · rw [set_get hi] at z
    by_cases hj : j = i
    · rw [if_pos hj] at z; cases z
      rw [hj]; exact ⟨q, hσ, hG, o⟩
    · rw [if_neg hj] at z
      obtain ⟨b, h1, h2, h3⟩ := A.ow j w z
      have hb : b ≠ q := fun y => A.ap i j q v w (Ne.symm hj) hρ z hσ (by rw [← y]; exact h1)
      exact ⟨b, h1, h2, h3.keep (Ex'.refl F) h3.no (upd_ne hb)⟩
  · have old : ∀ {j : Nat} {w : Val}, (ρ.set i (.ow r))[j]? = some (.ow w) → ∃ w, ρ[j]? = some (.ow w) := fun {j w} z => by
      rw [set_get hi] at z
      by_cases hj : j = i
      · rw [hj]; exact ⟨v, hρ⟩
      · rw [if_neg hj] at z; exact ⟨w, z⟩
    obtain ⟨w1, z1⟩ := old z
    obtain ⟨w2, z2⟩ := old z'
    exact A.ap j k b w1 w2 hjk z1 z2 s s'
theorem own_at {ρ : Ro} {i : Nat} {v : Val} (h : ownAt i ρ = some v) : ρ[i]? = some (.ow v) := by
  unfold ownAt at h
  split at h
  · rename_i w hw; cases h; exact hw
  · cases h
theorem own_is {ρ : Ro} {i : Nat} (h : ¬ (!(ownAt i ρ).isSome) = true) : ∃ v, ρ[i]? = some (.ow v) := by
  cases q : ownAt i ρ with
  | none => rw [q] at h; exact absurd rfl h
  | some v => exact ⟨v, own_at q⟩
theorem sub_red {G Z F : Hp} {σ : L2.St} {H : Hp} {ρ : Ro} {i : Nat} {x : Val} {y : V} {Q : L2.St → Hp → Prop} {k : Res Fl} {D : Ends} (A : Abs X.K X.mg G Z F σ H ρ) (rx : Rep X.K X.mg F y x) {f : Val → Ro → Res Fl}
    (h : AftS X W pr σ G Z F (if !(ownAt i ρ).isSome then none else EV.bnd (opnd ek (evE T cal mkc ek) ρ) fun z ρ3 => match (ownAt i ρ3).bind fun u => (z.val ρ3).bind fun w => setF u w x with
      | some v => f v ρ3
      | none => none) D)
    (hk : ∀ F' H' ρ3 v (ob : Addr × HO), Abs X.K X.mg G Z F' σ (upd H' ob.1 ob.2) (ρ3.set i (.ow v)) → Ex' F F' → AftS X W pr σ G Z F' (f v ρ3) D → Q σ (upd H' ob.1 ob.2)) : gSub (tVar i) (tO X.K X.mg W T cal mkc ek) (rSetV X.K X.mg) y σ H Q := by
  split at h
  · exact h.elim
  · rename_i hs
    obtain ⟨v0, hv0⟩ := own_is hs
    obtain ⟨q, hq, hG, o⟩ := A.ow i v0 hv0
    refine ⟨.ref q, hq, G, Z, F, ρ, A, (AftS.bnd h).imp fun F1 H1 ρ1 z A1 e1 h1 vz rz => ?_⟩
    cases hm : ((ownAt i ρ1).bind fun u => (z.val ρ1).bind fun w => setF u w x) with
    | none => rw [hm] at h1; exact h1.elim
    | some r =>
      rw [hm] at h1
      obtain ⟨u, hu, hm⟩ := Option.bind_eq_some_iff.mp hm
      obtain ⟨w, hw, hm⟩ := Option.bind_eq_some_iff.mp hm
      have hu := own_at hu
      obtain ⟨q', hq', _, o1⟩ := A1.ow i u hu
      rw [hq] at hq'; cases hq'
      exact ⟨F1, q, u, w, x, r, rfl, A1.sub, o1, OpdR.read A1 rz hw, rx.mono e1, hm, fun ob o2 => hk F1 H1 ρ1 r (q, ob) (A1.wrO hu hq o2) e1 h1⟩
theorem sS_sub {o i : Expr} {j : Nat} {p2 : Pos} (hr : Room kr X.A) (ho : PE X o (tVar j)) (hi : PE X i (tO X.K X.mg W T cal mkc ek)) (he : PE X e (tE X.K X.mg W T cal mkc ea))
    (ha : ∀ v, assign (.Subscript o i p2) X.env v = (do
      let ov ← holding [v] (eval o X.env)
      let iv ← holding [v, ov] (eval i X.env)
      standAt p2
      holding [v, ov, iv] (setItem ov iv v)
      release [v, ov, iv] []) := by intro _; rfl)
    (hs : swapsWithSole [.Subscript o i p2] e pos.line X.env = pure false := by rfl) (hw : swappedStores [.Subscript o i p2] e X.env = pure none := by rfl) (h1 : (assignEach [.Subscript o i p2] X.env).map (·.2) = [assign (.Subscript o i p2) X.env] := by rfl) :
    PS X (.Assign [.Subscript o i p2] e pos) (tS X W T cal mkc pr (.sub j ek ea)) := by
  refine (ps_asg (pe_fix he) (pg_sub ho hi (set_val hr) ha) hs hw h1).imp fun D σ H q => ?_
  obtain ⟨G, Z, F, ρ, A, q⟩ := q
  have e1 : evS T cal mkc (.sub j ek ea) ρ = EV.bnd (EV.bnd (evE T cal mkc ea ρ) fixv) fun x ρ2 => if !(ownAt j ρ2).isSome then none else EV.bnd (opnd ek (evE T cal mkc ek) ρ2) fun y ρ3 => match (ownAt j ρ3).bind fun u => (y.val ρ3).bind fun w => setF u w x with
      | some v => EV.pur .nx (ρ3.set j (.ow v))
      | none => none := by rw [bnd_assoc]; rfl
  rw [e1] at q
  refine ⟨G, Z, F, ρ, A, (AftS.bnd q).imp fun F1 H1 ρ1 x A1 e1 q1 y ry => ?_⟩
  exact sub_red (k := none) (f := fun v ρ3 => EV.pur .nx (ρ3.set j (.ow v))) A1 ry q1 fun F' H' ρ3 v ob A' e' q' => AftS.nx q' A'
theorem sS_subp {o i : Expr} {j l : Nat} {x : Str} {p2 px pt : Pos} {kt : Nat} (hp : l ∉ pr) (hc : X.calm = true) (hN : X.N.Nodup) (hl : X.N[l]? = some x) (hx : Loc X.env.scope x) (hr : Room kr X.A) (ho : PE X o (tVar j)) (hi : PE X i (tO X.K X.mg W T cal mkc ek)) (he : PE X e (tE X.K X.mg W T cal mkc ea))
    (ha : ∀ v, assign (.Subscript o i p2) X.env v = (do
      let ov ← holding [v] (eval o X.env)
      let iv ← holding [v, ov] (eval i X.env)
      standAt p2
      holding [v, ov, iv] (setItem ov iv v)
      release [v, ov, iv] []) := by intro _; rfl)
    (hf : X.fn x = true ∨ X.env.scope.names.lookup x = some .local := by first | exact .inl rfl | exact .inr rfl | assumption)
    (ht1 : (assignEach [.Subscript o i p2, .Name x px] X.env).map (·.2) = assign (.Subscript o i p2) X.env :: (assignEach [.Name x px] X.env).map (·.2) := by rfl) (ht2 : (assignEach [.Name x px] X.env).map (·.2) = assign (.Name x px) X.env :: (assignEach [] X.env).map (·.2) := by rfl)
    (hn : (assignEach [.Subscript o i p2, .Name x px] X.env).length = 2 := by rfl) (hst : (assignEach [.Subscript o i p2, .Name x px] X.env).findIdx? (·.1) = none := by rfl)
    (hs : swapsWithSole [.Tuple [.Subscript o i p2, .Name x px] kt pt] e pos.line X.env = pure false := by rfl) (hw : swappedStores [.Tuple [.Subscript o i p2, .Name x px] kt pt] e X.env = pure none := by rfl) (h1 : (assignEach [.Tuple [.Subscript o i p2, .Name x px] kt pt] X.env).map (·.2) = [assign (.Tuple [.Subscript o i p2, .Name x px] kt pt) X.env] := by rfl) :
    PS X (.Assign [.Tuple [.Subscript o i p2, .Name x px] kt pt] e pos) (tS X W T cal mkc pr (.subp j ek l ea)) := by
  refine (ps_asg he (pg_tup hc (pgs_cons (pg_sub ho hi (set_val hr) ha) (pgs_cons (pg_name hN hl hx hf) pgs_nil ht2) ht1) hn hst) hs hw h1).imp fun D σ H q => ?_
  obtain ⟨G, Z, F, ρ, A, q⟩ := q
  refine ⟨G, Z, F, ρ, A, (AftS.bnd q).imp fun F1 H1 ρ1 r A1 e1 q1 y ry => ?_⟩
  split at q1
  · rename_i u w
    have ry : Rep X.K X.mg F1 y (.tup [u, w]) := ry
    cases ry with
    | @tup ad xs _ s1 r1 =>
      cases r1 with
      | @cons x1 xs1 _ _ ra r1 =>
        cases r1 with
        | @cons x2 xs2 _ _ rb r1 =>
          cases r1
          refine ⟨ad, _, rfl, .inl (.inl (A1.sub _ _ s1)), rfl, x1, [x2], rfl, ?_⟩
          refine sub_red (k := none) (f := fun v ρ3 => if l < ρ3.length ∧ j ≠ l then EV.pur .nx ((ρ3.set j (.ow v)).set l (.fz w)) else none) A1 ra q1 fun F' H' ρ3 v ob A' e' q' => ?_
          refine ⟨x2, [], rfl, ?_⟩
          split at q'
          · rename_i hc
            exact ⟨rfl, AftS.nxK q' (A'.set (x := x2) (r := .fz w) (rb.mono e') (by rw [List.length_set]; exact hc.1)) (kp_set hp)⟩
          · exact q'.elim
  · exact q1.elim
end
end EV
namespace EV
open PySem PySem.Spec PyProof.Rows L2
section
variable {pr : List Nat} {X : Cx} {W : WX} {T : Tab} {cal mkc : Cal} {a b c e tg : Expr} {ea eb ec ek : Ex} {pos p : Pos} {kr : Nat}
theorem RepF.put {K : PySem.W.Frag} {mg : Str → Option Value} {F : Hp} {f : String} {y : V} {v : Val} (ry : Rep K mg F y v) : ∀ {xs : List (Str × V)} {fs : List (String × Val)}, RepF K mg F xs fs → RepF K mg F (putF (Str.ofString f) y xs) (putFs f v fs)
  | _, _, .nil => .cons ry .nil
  | _, _, .cons (f := g) a r => by
    simp only [putF, putFs]
    by_cases h : g = f
    · subst h; rw [if_pos rfl, if_pos rfl]; exact .cons ry r
    · rw [if_neg h, if_neg (fun z => h (ofString_inj z))]; exact .cons a (RepF.put ry r)
theorem RepF.length {K : PySem.W.Frag} {mg : Str → Option Value} {F : Hp} : ∀ {xs : List (Str × V)} {fs : List (String × Val)}, RepF K mg F xs fs → xs.length = fs.length
  | _, _, .nil => rfl
  | _, _, .cons a r => by simp [RepF.length r]
theorem sS_try {body : List Stmt} {h₀ : ExceptHandler} {hs : List ExceptHandler} {xa xb : List Sx} {cs : List String} {n : Option Nat} (hb : PSs X.nox body (tSs X W0 T cal mkc pr xa)) : PS X (.Try body (h₀ :: hs) [] [] pos) (tS X W T cal mkc pr (.tri xa cs n xb)) := by
  refine (ps_try_thru0 hb).imp fun D σ H q => ?_
  obtain ⟨G, Z, F, ρ, A, q⟩ := q
  refine ⟨G, Z, F, ρ, A, ?_⟩
  have q : AftS X W pr σ G Z F (quiet (evSs T cal mkc xa ρ)) D := q
  cases hm : evSs T cal mkc xa ρ with
  | none => rw [hm] at q; exact q.elim
  | some o =>
    rw [hm] at q
    cases o with
    | ex e ρ' => exact q.elim
    | ok f ρ' =>
      cases f with
      | nx => exact q
      | rt r => exact q
end
end EV
namespace EV
open PySem PySem.Spec PyProof.Rows L2
section
variable {X : Cx} {pins : List (Addr × Obj)} {σ : L2.St} {H : Hp} {s : Shared} {D b : Addr} {kvs : List (List Key × V)} {k : List Key} {v : V} {r : Value}
theorem putT {h' : Heap} {t' : Nat} {xs' : List (List Key × Addr × Value)} {ks' : List (List Key × V)} (I : Inv X pins σ H s) (e : H D = some (.dT kvs)) (hd : (D == sysModules) = false) (hl : ks'.length ≤ sizeLine) (rel : KT H ks' xs') (dd : h'.DictOfH (tupleKind (mixKind X.prog X.w)) D xs') (hs : Heap.SameBut D s.heap h') :
    Inv X pins σ (upd H D (.dT ks')) { s with heap := h', toks := t' } := by
  obtain ⟨q, es, ep, hq, h2, h3, h4, _, h5⟩ := dd
  refine d_write I (by rw [e]; exact True.intro) hs ⟨q, hq⟩ ⟨hl, hd, _, rel.keeps fun c ys ec => ?_, q, es, ep, hq, h2, h3, h4, h5⟩
  rw [upd_ne (ne_of ec e (fun z => nomatch z))]; exact ec
end
section
variable {X : Cx}
end
def tDispT (tk tv : TE) : TE := fun σ H Q => ∀ p, H p = none → tk σ (upd H p (.dT [])) fun x H1 => tv σ H1 fun y H2 => H2 p = some (.dT []) ∧ ∃ (k : List Key) (b : Addr), x = .ref b ∧ H2 b = some (.tup (k.map kV)) ∧ Q (.ref p) (upd H2 p (.dT [(k, y)]))
theorem pe_dispT {X : Cx} {pos : Pos} {a b : Expr} {tk tv : TE} (hu : X.A.units < cLine) (hk : PE X a tk) (hv : PE X b tv) : PE X (.Dict [some a] [b] pos) (tDispT tk tv) := by
  refine ⟨fun pins s σ H Q I q => ?_⟩
  have I1 := I.laid (a := s.heap.objs.size) (o := .dT []) (h' := s.heap.push { cls := .type "dict", data := .dict #[] }) (t' := s.toks) (fun _ _ q => Heap.get?_push_of_some _ q) (Nat.le_refl _) (dt_empty s.heap I.big)
  rw [arm_eval_Dict, show (evalEachOpt [some a] X.env).zip ((evalEach [b] X.env).map fun (v : Sem Value) => (do let x ← v; standAt pos; pure x : Sem Value)) = [(eval a X.env, (do let x ← eval b X.env; standAt pos; pure x : Sem Value))].map fun p => (some p.1, p.2) from rfl, dictDisplay_pairs _ (by simp) (by simp)]
  refine wpAny_bind (wpAny_standAt (wpAny_bind (wpAny_subDictH (knd := tupleKind (mixKind X.prog X.w)) hu (by simp) (thn ((pps_cons (pos := pos) hk hv pps_nil).run pins _ σ _ (fun ps H2 => match ps with
    | [(x, y)] => H2 s.heap.objs.size = some (.dT []) ∧ ∃ (k : List Key) (c : Addr), x = .ref c ∧ H2 c = some (.tup (k.map kV)) ∧ Q (.ref s.heap.objs.size) (upd H2 s.heap.objs.size (.dT [(k, y)]))
    | _ => False) I1 (q _ (I.hok.fresh (Nat.le_refl _)))) fun ws s2 ⟨ps, H2, I2, rel, q2⟩ => ?_))))
  cases rel with
  | nil => exact q2.elim
  | @cons p0 w0 ps0 ws0 r rr =>
    cases rr with
    | cons _ _ => exact q2.elim
    | nil =>
      obtain ⟨x, y⟩ := p0
      obtain ⟨u, r0⟩ := w0
      obtain ⟨e, k, c, ex, ec, q2⟩ := q2
      obtain ⟨r1, r2⟩ := r
      subst ex
      obtain rfl : u = Value.ref c := r1
      obtain ⟨z, hd, xs, rel, dd⟩ := dt_of I2.hok e
      cases rel
      refine ⟨[(k, c, r0)], ⟨rfl, rfl, key_of I2.hok ec, trivial⟩, dd, fun h' tk dd' hs => wpAny_pure ⟨.ref s.heap.objs.size, _, putT (xs' := [(k, c, r0)]) I2 e hd (by simp [sizeLine_eq]) (.cons ⟨rfl, ec, r2⟩ .nil) dd' hs, rfl, q2⟩⟩
end EV
namespace EV
open PySem PySem.Spec PyProof.Rows L2
section
variable {pr : List Nat} {X : Cx} {W : WX} {T : Tab} {cal mkc : Cal} {a b c e o tg : Expr} {ea eb ec ek : Ex} {pos p : Pos} {kr : Nat}
section
variable {i : Nat} {es : List Expr} {xs : List Ex} {apos cpos : Pos}
end
end
end EV
namespace EV
open PySem PySem.Spec PyProof.Rows L2
def ioIx (io : List Bool) : List Nat := (List.range io.length).filter fun i => io.getD i false
theorem sameKind_get : ∀ {as : List Slot} {io : List Bool} {i : Nat}, sameKind as io = true → (∀ v, as[i]? = some (.ow v) → io.getD i false = true) ∧ as[i]? ≠ some .un
  | [], io, i, _ => ⟨fun v h => by simp at h, by simp⟩
  | .un :: r, io, i, h => by simp [sameKind] at h
  | .fz w :: r, io, 0, h => ⟨fun v z => by simp at z, by simp⟩
  | .ow w :: r, io, 0, h => by
    simp only [sameKind, Bool.and_eq_true] at h
    exact ⟨fun v z => by simpa using h.1, by simp⟩
  | .fz w :: r, io, i + 1, h => by
    simp only [sameKind, Bool.and_eq_true] at h
    have ih := sameKind_get (i := i) h.2
    refine ⟨fun v z => ?_, by simpa using ih.2⟩
    have := ih.1 v (by simpa using z)
    simpa [List.getD, Nat.add_comm] using this
  | .ow w :: r, io, i + 1, h => by
    simp only [sameKind, Bool.and_eq_true] at h
    have ih := sameKind_get (i := i) h.2
    refine ⟨fun v z => ?_, by simpa using ih.2⟩
    have := ih.1 v (by simpa using z)
    simpa [List.getD, Nat.add_comm] using this
theorem ioIx_mem {io : List Bool} {i : Nat} (h : io.getD i false = true) : i ∈ ioIx io := by
  unfold ioIx
  refine List.mem_filter.mpr ⟨List.mem_range.mpr ?_, h⟩
  by_cases hl : i < io.length
  · exact hl
  · simp [List.getD, List.getElem?_eq_none (show io.length ≤ i by omega)] at h
theorem nodup_io : ∀ {vs : List V} {as : List Slot} {i j : Nat} {a : Addr} {v w : Val}, (ioOf vs as).Nodup → i < j → vs[i]? = some (.ref a) → as[i]? = some (.ow v) → as[j]? = some (.ow w) → vs[j]? ≠ some (.ref a)
  | [], _, _, _, _, _, _, _, _, h, _, _ => by simp at h
  | _ :: _, [], _, _, _, _, _, _, _, _, h, _ => by simp at h
  | x :: xs, s :: ss, 0, j + 1, a, v, w, nd, _, h1, h2, h3 => by
    simp at h1 h2
    subst h1; subst h2
    have nd : (a :: ioOf xs ss).Nodup := nd
    intro z
    have : a ∈ ioOf xs ss := abs_setAll.ioOf_at (j := j) (v := w) (by simpa using z) (by simpa using h3)
    exact (List.nodup_cons.mp nd).1 this
  | x :: xs, s :: ss, i + 1, j + 1, a, v, w, nd, hij, h1, h2, h3 => by
    have nd2 : (ioOf xs ss).Nodup := by
      cases x with
      | ref b =>
        cases s with
        | ow u => exact (List.nodup_cons.mp (show (b :: ioOf xs ss).Nodup from nd)).2
        | fz u => exact nd
        | un => exact nd
      | _ => cases s <;> exact nd
    intro z
    exact nodup_io (i := i) (j := j) (v := v) (w := w) nd2 (by omega) (by simpa using h1) (by simpa using h2) (by simpa using h3) (by simpa using z)
section
variable {P : Program} {w : World} {K : PySem.W.Frag} {mg : Str → Option Value} {base : Heap} {T : Tab} {cal mkc : Cal} {N ps : List Str}
def gnd (vs : List V) (as : List Slot) (H : Hp) : Hp := fun a => if a ∈ ioOf vs as then none else match H a with
  | some (.tbl _) => none
  | o => o
theorem gnd_some {vs : List V} {as : List Slot} {H : Hp} {a : Addr} {o : HO} (h : gnd vs as H a = some o) : a ∉ ioOf vs as ∧ H a = some o ∧ ∀ ps, o ≠ .tbl ps := by
  unfold gnd at h
  split at h
  · cases h
  · rename_i hm
    split at h
    · cases h
    · rename_i hn
      exact ⟨hm, h, fun ps z => hn ps (by rw [h, z])⟩
theorem gnd_at {vs : List V} {as : List Slot} {H : Hp} {a : Addr} {o : HO} (hm : a ∉ ioOf vs as) (h : H a = some o) (ht : ∀ ps, o ≠ .tbl ps) : gnd vs as H a = some o := by
  unfold gnd
  rw [if_neg hm, h]
  cases o <;> first | rfl | exact absurd rfl (ht _)
theorem gnd_none {vs : List V} {as : List Slot} {H : Hp} {a : Addr} (h : gnd vs as H a = none) : a ∈ ioOf vs as ∨ Nw H a := by
  by_cases hm : a ∈ ioOf vs as
  · exact .inl hm
  · refine .inr ?_
    cases z : H a with
    | none => exact .inl z
    | some o =>
      by_cases ht : ∃ ps, o = .tbl ps
      · obtain ⟨ps, rfl⟩ := ht
        exact .inr ⟨ps, z⟩
      · rw [gnd_at hm z fun ps y => ht ⟨ps, y⟩] at h
        cases h
theorem abs_start {F H : Hp} {vs : List V} {as : List Slot} {n : Nat} (e : Ex' F H) (pr : Paired (ArgR K mg F H) vs as) (nd : (ioOf vs as).Nodup) (hx : NoT F ∧ TBs K mg H) (hl : N.length - vs.length = n) :
    Abs K mg (gnd vs as H) F F (L2.start N vs) H (as ++ List.replicate n .un) := by
  have len := pr.length
  have get : ∀ {i : Nat} {s : Slot}, (as ++ List.replicate n .un)[i]? = some s → s ≠ .un → as[i]? = some s := fun {i s} h hs => by
    by_cases hi : i < as.length
    · rwa [List.getElem?_append_left hi] at h
    · rw [List.getElem?_append_right (by omega)] at h
      have := (List.getElem?_eq_some_iff.mp h)
      obtain ⟨h1, h2⟩ := this
      rw [List.getElem_replicate] at h2
      exact absurd h2.symm hs
  have st : ∀ {i : Nat} {x : V}, vs[i]? = some x → (L2.start N vs)[i]? = some (some x) := fun {i x} h => by
    unfold L2.start
    have hi := (List.getElem?_eq_some_iff.mp h).1
    rw [List.getElem?_append_left (by rw [List.length_map]; exact hi), List.getElem?_map, h]; rfl
  have at_ : ∀ {i : Nat} {s : Slot}, as[i]? = some s → ∃ x, vs[i]? = some x ∧ ArgR K mg F H x s := fun {i s} h => by
    have hi := (List.getElem?_eq_some_iff.mp h).1
    have hv : vs[i]? = some vs[i] := List.getElem?_eq_getElem (by omega)
    exact ⟨_, hv, paired_at pr hv h⟩
  refine ⟨e, fun a o h => (gnd_some h).2.1, Ex'.refl F, fun a o h => .inl h, ?_, fun i v h => ?_, fun i v h => ?_, fun i j a v v' hij h1 h2 s1 s2 => ?_, hx.2, hx.1, fun a ps h => (gnd_some h).2.2 ps rfl⟩
  · unfold L2.start; simp only [List.length_append, List.length_map, List.length_replicate]; omega
  · obtain ⟨x, h1, h2⟩ := at_ (get h (by intro z; cases z))
    exact ⟨x, st h1, h2⟩
  · have h := get h (by intro z; cases z)
    obtain ⟨x, h1, a, rfl, o⟩ := at_ h
    refine ⟨a, st h1, ?_, o⟩
    unfold gnd
    rw [if_pos (abs_setAll.ioOf_at h1 h)]
  · have h1 := get h1 (by intro z; cases z)
    have h2 := get h2 (by intro z; cases z)
    obtain ⟨x, x1, b, rfl, _⟩ := at_ h1
    obtain ⟨y, y1, c, rfl, _⟩ := at_ h2
    rw [st x1] at s1; cases s1
    rw [st y1] at s2; cases s2
    rcases Nat.lt_or_ge i j with h | h
    · exact nodup_io nd h x1 h1 h2 y1
    · exact nodup_io nd (by omega) y1 h2 h1 x1
theorem end_of {F F' H H' : Hp} {σ' : L2.St} {ρ' : Ro} {vs : List V} {as : List Slot} {io : List Bool} (pr : Paired (ArgR K mg F H) vs as) (sk : sameKind as io = true) (A : Abs K mg (gnd vs as H) F F' σ' H' ρ') (e : Ex' F F') (k : Kp (ioIx io) (L2.start N vs) σ') :
    EndR K mg F H vs as F' H' (ρ'.take as.length) := by
  have st : ∀ {i : Nat} {x : V}, vs[i]? = some x → (L2.start N vs)[i]? = some (some x) := fun {i x} h => by
    unfold L2.start
    have hi := (List.getElem?_eq_some_iff.mp h).1
    rw [List.getElem?_append_left (by rw [List.length_map]; exact hi), List.getElem?_map, h]; rfl
  refine ⟨e, A.sub, fun a o h hn ht => A.bg a o (gnd_at hn h ht), fun a o h => ?_, fun i a v v' h1 h2 h3 => ?_, A.x.tb, A.x.nf⟩
  · rcases A.nw a o h with q | q | q
    · exact .inl q
    · rcases gnd_none q with q | q
      · exact .inr (.inr (.inl q))
      · exact .inr (.inl q)
    · exact .inr (.inr (.inr q))
  · have hi : i < as.length := (List.getElem?_eq_some_iff.mp h1).1
    rw [List.getElem?_take_of_lt hi] at h3
    obtain ⟨b, hb, _, o⟩ := A.ow i v' h3
    rw [k i (ioIx_mem ((sameKind_get sk).1 v h1)), st h2] at hb
    cases hb
    exact o
theorem kept_get : ∀ {as fin : List Slot} {i : Nat} {v : Val}, keptIo as fin = true → as[i]? = some (.ow v) → ∃ v', fin[i]? = some (.ow v')
  | [], _, _, _, _, h => by simp at h
  | .un :: r, fin, i, v, h, _ => by simp [keptIo] at h
  | .ow w :: r, [], i, v, h, _ => by simp [keptIo] at h
  | .fz w :: r, [], i, v, h, _ => by simp [keptIo] at h
  | .ow w :: r, .un :: s, i, v, h, _ => by simp [keptIo] at h
  | .ow w :: r, .fz _ :: s, i, v, h, _ => by simp [keptIo] at h
  | .ow w :: r, .ow z :: s, 0, v, h, _ => ⟨z, rfl⟩
  | .fz w :: r, q :: s, 0, v, h, z => by simp at z
  | .ow w :: r, .ow z :: s, i + 1, v, h, q => by
    simp only [keptIo] at h
    simpa using kept_get (i := i) (v := v) h (by simpa using q)
  | .fz w :: r, q :: s, i + 1, v, h, z => by
    simp only [keptIo] at h
    simpa using kept_get (i := i) (v := v) h (by simpa using z)
def LkC (K : PySem.W.Frag) (f : Addr) (cdv : Value) : Prop := ∃ oc od fd osl, K.lookup f = some ⟨oc, od, .func fd, osl⟩ ∧ fd.code = cdv
theorem fnE_of {x qual : Str} {st : Stmt} {f : Addr} {fd : FuncData} {k : Nat} {nm : String} {d : Def} (F1 : Fun K x qual st f fd) (S : FnScope N ps (defScope st)) (hd : T.fn nm = some d) (hx : T.ext nm = none) (hps : d.ps.length = ps.length) (hN : d.n = N.length)
    (body : ∀ (cdv : Value), LkC K f cdv → ∀ (A : Around) (outer : List Env) (s : Shared) (H : Hp) (E : XK), A.guards = some [] → Room k (A.deeper (envOfC qual (defScope st) s.heap.objs.size f cdv)) →
      PSs (cxOf (CXt P w) P w K mg base N qual (defScope st) f cdv A outer s H E) (defBody st) (tSs (cxOf (CXt P w) P w K mg base N qual (defScope st) f cdv A outer s H E) (fun c d _ H' => E c d H') T cal mkc (ioIx d.io) d.body)) :
    FnE P w K mg base (k + 1) f fd ps (spF K mg (evB T cal mkc) ps.length nm) := by
  obtain ⟨oc, od, kV, doc, pm, an, cdv, ct, osl, rfl, lk, hcd⟩ := F1.ex
  have len : ∀ vs H Q E, spF K mg (evB T cal mkc) ps.length nm vs H Q E → vs.length = ps.length := fun vs H Q E h => by
    obtain ⟨F, as, h1, _, h2, _⟩ := h
    rw [h2.length, h1]
  refine ⟨len, fun A ou s H args us vs Q E gd hr ev bt rl hs => ?_⟩
  have hv := len _ _ _ _ hs
  have inH : K.In s.heap := ev.mod.kin.keeps fun b o e => (ev.bs b o e).1
  have nlm : s.heap.NoLimit := ev.mod.nolimit.keeps fun b o e => (ev.bs b o e).1
  have knd : ∀ y ∈ ps.zip us, (defScope st).names.lookup y.1 = some .local ∨ ((defScope st).names.lookup y.1 = some .cell ∧ ((cellsFrom (s.heap.objs.size + 1) (defScope st).names []).lookup y.1).isSome = true) := fun ⟨n, v⟩ hy => by
    rcases S.par n (List.of_mem_zip hy).1 with z | z
    · exact .inl z
    · exact .inr ⟨z, PySem.W.cellsFrom_some _ _ _ (.inl z)⟩
  refine codeAny_call_function hr.depth (inH _ _ lk) rfl S.co S.gen rfl (PySem.W.codeRec_of inH hcd) (bt _ _ _ _ ?_)
  refine wpAny_newFunctionEnv_cells S.kind knd fun env he s1 fr => ?_
  subst he
  refine ⟨nlm.keeps fr.toInCall.keep, codeAny_func ?_⟩
  have ht := body cdv ⟨oc, od, _, osl, lk, rfl⟩ A ou s H E gd (hr.deeper _)
  have I : Inv (cxOf (CXt P w) P w K mg base N qual (defScope st) f cdv A ou s H E) [] (L2.start N vs) H s1 := inv_start S hr.hd ev hv rl fr
  obtain ⟨F, as, ha, e, pr, nd, hnt, hq⟩ := hs
  have key : tSs (cxOf (CXt P w) P w K mg base N qual (defScope st) f cdv A ou s H E) (fun c d _ H' => E c d H') T cal mkc (ioIx d.io) d.body { nx := fun _ H' => Q .non H', rt := Q } (L2.start N vs) H := by
    simp only [evB, hx, hd] at hq
    split at hq
    · rename_i hc
      obtain ⟨c1, c2, c3⟩ := hc
      refine ⟨_, F, F, _, abs_start (n := d.n - d.ps.length) e pr nd hnt (by rw [hN, hps, hv]), ?_⟩
      cases hm : evSs T cal mkc d.body (as ++ List.replicate (d.n - d.ps.length) .un) with
      | none => rw [hm] at hq; exact hq.elim
      | some o =>
        rw [hm] at hq
        have hl : d.ps.length = as.length := by rw [hps, ha]
        rw [hl] at hq
        cases o with
        | ex x ρ' =>
          intro F' σ' H' dd A' e' k' rd
          simp only [endF] at hq
          split at hq
          · exact hq F' H' dd (end_of pr c3 A' e' k') rd
          · exact hq.elim
        | ok fl ρ' =>
          cases fl with
          | nx =>
            intro F' σ' H' A' e' k'
            simp only [endF] at hq
            split at hq
            · exact hq F' H' .non (end_of pr c3 A' e' k') Rep.non
            · exact hq.elim
          | rt r =>
            intro F' σ' H' y A' e' k' ry
            simp only [endF] at hq
            split at hq
            · rename_i hkp
              refine hq F' H' y (end_of pr c3 A' e' k') ?_
              cases r with
              | un => exact ry.elim
              | fz v => exact ry
              | ow v =>
                obtain ⟨q, rfl, g, o, l⟩ := ry
                refine ⟨q, rfl, ?_, o⟩
                by_cases hq' : q ∈ ioOf vs as
                · obtain ⟨i, v0, h1, h2⟩ := ioOf_mem hq'
                  obtain ⟨v1, h3⟩ := kept_get hkp h2
                  have hi : i < as.length := (List.getElem?_eq_some_iff.mp h2).1
                  rw [List.getElem?_take_of_lt hi] at h3
                  refine absurd ?_ (l i v1 h3)
                  rw [k' i (ioIx_mem ((sameKind_get c3).1 v0 h2))]
                  unfold L2.start
                  have hi := (List.getElem?_eq_some_iff.mp h1).1
                  rw [List.getElem?_append_left (by rw [List.length_map]; exact hi), List.getElem?_map, h1]; rfl
                · exact (gnd_none g).resolve_left hq'
            · exact hq.elim
    · exact hq.elim
  refine wpAny_mono (ht.run [] s1 (L2.start N vs) H _ I key) (fun fl s' hz => ?_) fun e s' hz => hz
  cases fl with
  | ret u =>
    obtain ⟨v, σ', H', J, rv, q⟩ := hz
    exact ⟨v, H', J.os, J.bare, J.base, J.hok, rv, q⟩
  | next =>
    obtain ⟨σ', H', J, q⟩ := hz
    exact ⟨.non, H', J.os, J.bare, J.base, J.hok, rfl, q⟩
  | brk => obtain ⟨_, _, _, q⟩ := hz; exact False.elim q
  | cont => obtain ⟨_, _, _, q⟩ := hz; exact False.elim q
end
end EV
namespace EV
open PySem PySem.Spec PyProof.Rows L2
def refsT (tl : List Value) : List Value → Bool
  | .ref _ :: l => refsT tl l
  | l => l == tl
structure BaseE (B newId initId : String) (tl : List Value) : Prop where
  bf : PySem.ExcBaseFacts B newId initId tl
  ps : ∀ v : Value, refuseLoop v "__setattr__" tl = pure ()
  ob : tl.contains (.type "object") = true
theorem baseVE : BaseE "ValueError" "ValueError.__new__" "ValueError.__init__" [.type "ValueError", .type "Exception", .type "BaseException", .type "object"] := ⟨F.excBase_ValueError, F.store_ValueError.passes, by decide +kernel⟩
theorem baseLE : BaseE "LookupError" "LookupError.__new__" "LookupError.__init__" [.type "LookupError", .type "Exception", .type "BaseException", .type "object"] := ⟨F.excBase_LookupError, F.store_LookupError.passes, by decide +kernel⟩
theorem baseAE : BaseE "ArithmeticError" "ArithmeticError.__new__" "ArithmeticError.__init__" [.type "ArithmeticError", .type "Exception", .type "BaseException", .type "object"] := ⟨F.excBase_ArithmeticError, F.store_ArithmeticError.passes, by decide +kernel⟩
theorem refsT_or (tl : List Value) : ∀ l : List Value, refsT tl l = true → (∃ c l', l = .ref c :: l' ∧ refsT tl l' = true) ∨ l = tl := by
  intro l h
  cases l with
  | nil => exact .inr (beq_iff_eq.mp h)
  | cons x l =>
    cases x with
    | ref c => exact .inl ⟨c, l, rfl, h⟩
    | _ => exact .inr (beq_iff_eq.mp h)
section
variable {B newId initId : String} {tl : List Value}
theorem refsT_pass (b : BaseE B newId initId tl) (v : Value) : ∀ l : List Value, refsT tl l = true → refuseLoop v "__setattr__" l = pure ()
  | [], h => by
    rcases refsT_or tl [] h with ⟨_, _, e, _⟩ | e
    · cases e
    · rw [e]; exact b.ps v
  | x :: l, h => by
    rcases refsT_or tl (x :: l) h with ⟨c, l', e, h'⟩ | e
    · cases e
      rw [refuseLoop_ref]
      exact refsT_pass b v l h'
    · rw [e]; exact b.ps v
theorem refsT_has (T : String) : ∀ l : List Value, refsT tl l = true → l.contains (.type T) = tl.contains (.type T)
  | [], h => by
    rcases refsT_or tl [] h with ⟨_, _, e, _⟩ | e
    · cases e
    · rw [e]
  | x :: l, h => by
    rcases refsT_or tl (x :: l) h with ⟨c, l', e, h'⟩ | e
    · cases e
      rw [List.contains_cons, refsT_has T l h']
      rfl
    · rw [e]
theorem refsT_ne (b : BaseE B newId initId tl) : ∀ l : List Value, refsT tl l = true → l.isEmpty = false
  | [], h => by
    have := refsT_has (tl := tl) "object" [] h
    rw [b.ob] at this
    cases this
  | _ :: _, _ => rfl
end
structure OwnE (K : PySem.W.Frag) (C : Addr) (newId : String) (tl : List Value) : Prop where
  at_ : ∃ n1 q1 N1 bs1 bm1 sn1 su1 ab1 co1 dd1 k0 k1 k2 k3 k5, K.lookup C = some (excClassObj n1 q1 C N1 bs1 bm1 true sn1 su1 ab1 co1 dd1 k0 k1 k2 k3 k5 newId) ∧ refsT tl bm1 = true
  sa : PySem.W.findIn K (.ref C) "__setattr__" = some (some (.builtin "object.__setattr__"))
  ex : PySem.W.subIn K (.ref C) (.type "BaseException") = some true
  ty : PySem.W.typeIn K (.ref C) = some (.type "type")
  kp : PySem.W.keepIn K (.ref C) = true
section
open Builtin Builtin.ObjectAttr PySem.W PySem.Calls PySem.HandSPX
variable {prog : Program} {w : World} {A : Around} {E : Value → Shared → Prop} {R : Result → Shared → Prop} {h0 : Heap} {g0 : Array GenState} {d0 : Drawn} {t0 : Nat} {o0 : OsState}
theorem ex_store {B newId initId : String} {tl : List Value} (b : BaseE B newId initId tl) {K : W.Frag} {f : Str} {tk : Tok} {v : Value} {x C : Addr} {fv : Array Value} {cd : ClassData}
    (kin : K.In h0) (hx : h0.get? x = some { cls := .ref C, data := .fields fv }) (hcd : W.clsIn K C = some cd) (hm : refsT tl cd.mro = true) (hh : cd.hasDict = true) (ha : W.findIn K (.ref C) f = some none)
    (hq : ∀ h1 tk1 dx, (∀ c o, c ≠ x → h0.get? c = some o → h1.get? c = some o) → h0.objs.size ≤ dx → dx ≠ x → h1.get? x = some { cls := .ref C, dict := some dx, data := .fields fv } → h1.Ns1 dx (fun y => if y = f then some v else none) → R (.ok (.ret .none)) ⟨h1, g0, d0, tk1, o0⟩) :
    codeAny (model prog w) A (.call (.builtin "object.__setattr__") ⟨[.ref x, .str f tk, v], []⟩) R ⟨h0, g0, d0, t0, o0⟩ := by
  have at0 : W.InstAt h0 x { cls := .ref C, data := .fields fv } C none := ⟨hx, rfl, rfl, trivial⟩
  have sf := F.store_object
  have e0 := refsT_ne b _ hm
  have e1 : cd.mro.contains (.type "object") = true := (refsT_has "object" _ hm).trans b.ob
  have ne : x ≠ h0.objs.size := Nat.ne_of_lt (Heap.lt_size hx)
  have sb : W.Looks (model prog w) h0 (isInstance (.ref x) (.type "object")) true := at0.type.andThen (W.looks_mroIn kin (by unfold W.mroIn; rw [hcd, Option.bind_some, if_neg (by rw [e0]; decide), e1]))
  refine codeAny_call_builtin sf.slot.plain sf.entry (@W.check_slot (model prog w) _ _ ⟨h0, g0, d0, t0, o0⟩ "object.__setattr__" "object" "__setattr__" (.ref x) [.str f tk, v] [] _ sf.kind sf.split sb (sf.args (.ref x) (.str f tk) v) ?_)
  have mr : W.Looks (model prog w) h0 (mroOf (.ref C)) cd.mro := (W.looks_clsIn kin hcd).andThen .now
  have tk0 : W.Looks (model prog w) h0 (storeTaker? none) none := .now
  have cl0 : W.Looks (model prog w) h0 (classData C) cd := W.looks_clsIn kin hcd
  rw [W.osa_eq, refuse_eq]
  refine wpAny_bind (wpAny_bind (at0.type.at (wpAny_bind (mr.at ?_))))
  rw [refsT_pass b _ _ hm]
  refine wpAny_pure (wpAny_bind (at0.type.at (wpAny_bind ((W.looks_findIn kin ha).at (wpAny_bind (tk0.at ?_))))))
  show wpAny _ _ (storeInOwnDict (.ref x) (.ref C) (.str f tk) f v false) _ _ _
  obtain ⟨m1, m2, m3, m4, m5, m6, m7, m8, m9, m10, m11⟩ := cd
  dsimp only at hh
  subst hh
  unfold storeInOwnDict ownDictForStores
  repeat (first | with_reducible refine store_in_new ?_ ?_ | with_reducible refine wpAny_loadPart_at hx ?_ | with_reducible refine cl0.at ?_ | wp_step)
  · exact ⟨_, #[], _, (Heap.get?_update_ne _ _ _ _ ne.symm).trans (Heap.get?_push_at rfl rfl), rfl, fun _ he => absurd he (by simp), fun _ => rfl⟩
  · intro h1 tk1 n1 s1
    have hx1 : (h0.push { cls := .type "dict", data := .dict #[] }).get? x = some { cls := .ref C, data := .fields fv } := Heap.get?_push_of_some _ hx
    refine hq h1 tk1 h0.objs.size (fun c o hc ho => ?_) (Nat.le_refl _) ne.symm ?_ n1
    · exact (s1.2 c (Nat.ne_of_lt (Heap.lt_size ho))).trans ((Heap.get?_update_ne _ _ _ _ hc).trans (Heap.get?_push_of_some _ ho))
    · exact (s1.2 x ne).trans (Heap.get?_update_self _ hx1 rfl)
end
section
variable {X : Cx} {pins : List (Addr × Obj)} {σ : L2.St} {H : Hp} {s : Shared} {a C dx : Addr} {f : Str} {y : V} {u : Value} {B newId initId : String} {tl : List Value}
theorem ex_set {Q : Unit → Shared → Prop} {E : Value → Shared → Prop} {A : Around} (b : BaseE B newId initId tl) (T : OwnE X.K C newId tl) (I : Inv X pins σ H s) (e : H a = some (exo a C none)) (hno : PySem.W.findIn X.K (.ref C) f = some none) (ry : RelV y u)
    (h : ∀ dx s', H dx = none → dx ≠ a → Inv X pins σ (upd (upd H dx (exd dx [(f, y)])) a (exo a C (some dx))) s' → Q () s') : wpAny (model X.prog X.w) A (setAttr (.ref a) f u) Q E s := by
  obtain ⟨n1, q1, N1, bs1, bm1, sn1, su1, ab1, co1, dd1, k0, k1, k2, k3, k5, hC, hbm⟩ := T.at_
  have hcl : PySem.W.clsIn X.K C = some { name := n1, bases := bs1, mro := .ref C :: bm1, ns := N1, qualname := q1, hasDict := true, slotNames := sn1, subclasses := su1, abstract := ab1, collection := co1, hasDel := false } := by unfold PySem.W.clsIn; rw [hC] <;> rfl
  obtain ⟨t1, ho⟩ := exo_at I.hok e
  obtain ⟨hp, g, d, t, os⟩ := s
  refine PySem.W.set_plain I.kIn (ox := { cls := .ref C, dict := none, data := .fields #[.ref t1, .none, .none, .none, .bool false, .none] }) (od := none) ⟨ho, rfl, rfl, trivial⟩ T.sa ?_
  refine ex_store b I.kIn ho hcl (show refsT tl (.ref C :: bm1) = true from hbm) rfl hno fun h' tk' dx k dn dne hx hn => ?_
  have z0 : H dx = none := I.hok.fresh dn
  have z1 : ∀ {c : Addr} {o : Obj}, hp.get? c = some o → c ≠ dx := fun {c o} q => Nat.ne_of_lt (Nat.lt_of_lt_of_le (Heap.lt_size q) dn)
  have z2 : ∀ {c : Addr}, H c = none → c ≠ a := fun {c} n z => by
    rw [z, e] at n
    cases n
  refine h dx _ z0 dne (I.un (t' := tk') (H' := upd (upd H dx (exd dx [(f, y)])) a (exo a C (some dx))) {
    keep := fun c o q n _ _ => k c o (z2 n) q
    slot := fun c o q n _ _ => ⟨o.slots, k c o (z2 n) q⟩
    free := fun c o q n _ => by rw [upd_ne (z2 n), upd_ne (z1 q)]; exact n
    there := fun c o q _ => by
      by_cases hc : c = a
      · exact ⟨_, by rw [hc]; exact hx⟩
      · exact ⟨o, k c o hc q⟩
    tups := fun c xs q => by rw [upd_ne (at_ne e q exo_tup), upd_ne (ne_of_none q z0)]; exact q
    frzs := fun c o v q => by rw [upd_ne (at_ne e q exo_frz), upd_ne (ne_of_none q z0)]; exact q
    tbls := fun c ps q => ⟨#[], by rw [upd_ne (at_ne e q exo_tbl), upd_ne (ne_of_none q z0), q]; simp⟩ } fun c o q => ?_)
  by_cases hc : c = a
  · subst hc
    rw [upd_same] at q
    cases q
    exact exo_ok hx
  · rw [upd_ne hc] at q
    by_cases hd : c = dx
    · subst hd
      rw [upd_same] at q
      cases q
      exact exd_ok hn (relO_put (fs := []) ry fun g => True.intro)
    · rw [upd_ne hd] at q
      refine (I.hok c o q).stay (fun c' v' hc' z => k c' v' ?_ z) (fun c' hc' => ?_) fun c' xs hc' => ?_
      · rcases hc' with z | z
        · rw [z]
          exact hc
        · exact at_ne e z exo_own
      · rw [upd_ne (at_ne e hc' exo_own), upd_ne (ne_of_none hc' z0)]
        exact hc'
      · rw [upd_ne (at_ne e hc' exo_tup), upd_ne (ne_of_none hc' z0)]
        exact hc'
end
end EV
namespace EV
open PySem PySem.Spec PyProof.Rows L2
def InitQ (H2 : Hp) (a C : Addr) (f : Str) (y : V) : VK := fun v H3 => v = .non ∧ ∃ dx, H2 dx = none ∧ dx ≠ a ∧ H3 = upd (upd H2 dx (exd dx [(f, y)])) a (exo a C (some dx))
section
variable {X : Cx} {C fI : Addr} {f : Str} {B newId initId : String} {tl : List Value}
def InitRuns (X : Cx) (C fI : Addr) (f : Str) : Prop := ∀ (pins : List (Addr × Obj)) (σ : L2.St) (s2 : Shared) (H2 : Hp) (a : Addr) (y : V) (u : Value), Inv X pins σ H2 s2 → H2 a = some (exo a C none) → RelV y u →
  codeAny (model X.prog X.w) (X.A.under (.builtin "type.__call__" ⟨[.ref C, u], []⟩)) (.call (.ref fI) ⟨[.ref a, u], []⟩) (CR C8.CX0 X.stack X.prog X.w H2 s2 (InitQ H2 a C f y) fun _ _ _ => False) s2
end
end EV
namespace EV
open PySem PySem.Spec PyProof.Rows L2
def tSet1 (C : Addr) (f : Str) (to te : TE) : TS := fun D σ H => te σ H fun y H1 => to σ H1 fun x H2 => ∃ a, x = .ref a ∧ H2 a = some (exo a C none) ∧ ∀ dx, H2 dx = none → dx ≠ a → D.nx σ (upd (upd H2 dx (exd dx [(f, y)])) a (exo a C (some dx)))
theorem ps_set1 {X : Cx} {C : Addr} {f : Str} {B newId initId : String} {tl : List Value} {o e : Expr} {to te : TE} {p' pos : Pos} (b : BaseE B newId initId tl) (T : OwnE X.K C newId tl) (hno : PySem.W.findIn X.K (.ref C) f = some none) (ho : PE X o to) (he : PE X e te)
    (hs : swapsWith e (some (.Attribute o f p')) pos.line X.env = pure false) : PS X (.Assign [.Attribute o f p'] e pos) (tSet1 C f to te) := by
  refine ⟨fun pins s σ H D I h => ?_⟩
  refine plainObj_wpAny_Assign_Attribute (thn (he.run pins s σ H _ I h) fun v s1 ⟨y, H1, I1, r1, q1⟩ => thn (ho.run pins s1 σ H1 _ I1 q1) fun u s2 ⟨x, H2, I2, r2, a, z, ea, q⟩ => ?_) hs
  subst z
  obtain rfl : u = Value.ref a := r2
  exact ex_set b T I2 ea hno r1 fun dx s' n ne J => ⟨σ, _, J, q dx n ne⟩
def spI (C : Addr) (f : Str) : Sp := fun vs H Q _ => ∃ a y, vs = [.ref a, y] ∧ H a = some (exo a C none) ∧ ∀ dx, H dx = none → dx ≠ a → Q .non (upd (upd H dx (exd dx [(f, y)])) a (exo a C (some dx)))
theorem spI_len {C : Addr} {f : Str} {g : Str} : ∀ vs H Q E, spI C f vs H Q E → vs.length = [("self" : Str), g].length := fun vs H Q E h => by
  obtain ⟨a, y, rfl, _⟩ := h
  rfl
structure ErrAt (K : PySem.W.Frag) (mg : Str → Option Value) (c f g qual : Str) (st : Stmt) : Prop where
  ex : ∃ B newId initId tl fI fd, BaseE B newId initId tl ∧ mg c = some (.ref (GH.clsA mg c)) ∧ OwnE K (GH.clsA mg c) newId tl ∧ PySem.W.findIn K (.ref (GH.clsA mg c)) "__init__" = some (some (.ref fI)) ∧ PySem.W.typeIn K (.ref fI) = some (.type "function") ∧
    Fun K "__init__" qual st fI fd ∧ PySem.W.findIn K (.ref (GH.clsA mg c)) f = some none
  S : FnScope ["self", g] ["self", g] (defScope st)
  bd : ∃ p1 p2 p3 p4, defBody st = [.Assign [.Attribute (.Name "self" p1) f p2] (.Name g p3) p4]
  g1 : (g == ("__debug__" : Str)) = false
  g2 : (g == ("__classdict__" : Str)) = false
  g3 : ("self" : Str) ≠ g
section
variable {P : Program} {w : World} {K : PySem.W.Frag} {mg : Str → Option Value} {base : Heap} {c f g qual : Str} {st : Stmt} {fI : Addr} {fd : FuncData} {B newId initId : String} {tl : List Value} {C : Addr} {k : Nat}
theorem vis_par {N ps : List Str} {sc : Scope} {x : Str} (S : FnScope N ps sc) (h : x ∈ ps) : Vis sc x := (S.par x h).elim .inl fun z => .inr (.inl z)
theorem init_body {CX : CXT} {A : Around} {outer : List Env} {s : Shared} {H : Hp} {E : XK} {cdv : Value} {Z : Cx} (hZ : Z.K = K ∧ Z.N = [("self" : Str), g] ∧ Z.env.scope = defScope st) (b : BaseE B newId initId tl) (T : OwnE K C newId tl) (hno : PySem.W.findIn K (.ref C) f = some none) (S : FnScope ["self", g] ["self", g] (defScope st))
    (bd : ∃ p1 p2 p3 p4, defBody st = [.Assign [.Attribute (.Name "self" p1) f p2] (.Name g p3) p4]) (g1 : (g == ("__debug__" : Str)) = false) (g2 : (g == ("__classdict__" : Str)) = false) : PSs Z (defBody st) (tSeq (tSet1 C f (tVar 0) (tVar 1)) tNext) := by
  obtain ⟨p1, p2, p3, p4, e⟩ := bd
  obtain ⟨eK, eN, eS⟩ := hZ
  rw [e]
  refine pss_cons (ps_set1 b (by rw [eK]; exact T) (by rw [eK]; exact hno) (pe_var (i := 0) (by rw [eN]; rfl) (by rw [eS]; exact vis_par S (by simp))) (pe_var (i := 1) (by rw [eN]; rfl) (by rw [eS]; exact vis_par S (by simp)) g1 g2) (by rfl)) pss_nil
theorem init_ok (F1 : Fun K "__init__" qual st fI fd) (b : BaseE B newId initId tl) (T : OwnE K C newId tl) (hno : PySem.W.findIn K (.ref C) f = some none) (S : FnScope ["self", g] ["self", g] (defScope st))
    (bd : ∃ p1 p2 p3 p4, defBody st = [.Assign [.Attribute (.Name "self" p1) f p2] (.Name g p3) p4]) (g1 : (g == ("__debug__" : Str)) = false) (g2 : (g == ("__classdict__" : Str)) = false) : FnOk P w K mg base C8.CX0 (k + 1) fI fd ["self", g] (spI C f) :=
  F1.ok S spI_len fun cdv A outer s H vs Q E hr h => by
    refine ⟨_, init_body (CX := C8.CX0) (A := A) (outer := outer) (s := s) (H := H) (E := E) (cdv := cdv) ⟨rfl, rfl, rfl⟩ b T hno S bd g1 g2, ?_⟩
    obtain ⟨a, y, rfl, ea, q⟩ := h
    exact ⟨y, rfl, .ref a, rfl, a, rfl, ea, fun dx n ne => q dx n ne⟩
end
theorem spI_q {C a : Addr} {f : Str} {y : V} {H2 : Hp} (e : H2 a = some (exo a C none)) : spI C f [.ref a, y] H2 (InitQ H2 a C f y) fun _ _ _ => False := ⟨a, y, rfl, e, fun dx n ne => ⟨rfl, dx, n, ne, rfl⟩⟩
section
variable {X : Cx} {C fI : Addr} {f g qual : Str} {st : Stmt} {fd : FuncData} {k : Nat}
theorem runs_calm (F : FnOk X.prog X.w X.K X.mg X.base C8.CX0 k fI fd ["self", g] (spI C f)) (hb : ∀ (s : Shared) (us : List Value), us.length = 2 → BindsTo s fd ⟨us, []⟩ ([("self" : Str), g].zip us)) (hr : Room (k + 1) X.A) : InitRuns X C fI f := fun pins σ s2 H2 a y u I e ru =>
  F.run _ X.stack _ _ ⟨[.ref a, u], []⟩ [.ref a, u] [.ref a, y] _ _ (hr.make C [u] []) (I.env0.make C [u] []) (hb _ [.ref a, u] rfl) (.cons rfl (.cons ru .nil)) (spI_q e)
end
end EV
namespace EV
open PySem PySem.Spec PyProof.Rows L2
structure OkE (P : Program) (w : World) (K : PySem.W.Frag) (mg : Str → Option Value) (base : Heap) (k : Nat) (x : Str) (nm : String) (ps : List Str) (cal : Cal) : Prop where
  ex : ∃ f fd, FnE P w K mg base k f fd ps (spF K mg cal ps.length nm) ∧ (∀ (s : Shared) (us : List Value), us.length = ps.length → BindsTo s fd ⟨us, []⟩ (ps.zip us)) ∧ mg x = some (.ref f) ∧ PySem.W.keepIn K (.ref f) = true ∧ ∃ oc od osl, K.lookup f = some ⟨oc, od, .func fd, osl⟩
  ln : ∀ ss o, cal nm ss = some o → ss.length = ps.length
theorem evB_len {T : Tab} {cal mkc : Cal} {nm : String} {d : Def} (hd : T.fn nm = some d) (hx : T.ext nm = none) (ss : List Slot) (o : Out Slot) (h : evB T cal mkc nm ss = some o) : ss.length = d.ps.length := by
  simp only [evB, hx, hd] at h
  split at h
  · rename_i hc; exact hc.1
  · cases h
def none2 : Cal := fun _ _ => none
theorem fnE_none {P : Program} {w : World} {K : PySem.W.Frag} {mg : Str → Option Value} {base : Heap} {k n : Nat} {f : Addr} {fd : FuncData} {ps : List Str} {nm : String} : FnE P w K mg base k f fd ps (spF K mg none2 n nm) :=
  ⟨fun vs H Q E h => by obtain ⟨F, as, _, _, _, _, _, h⟩ := h; exact h.elim, fun A ou s H args us vs Q E _ _ _ _ _ h => by obtain ⟨F, as, _, _, _, _, _, h⟩ := h; exact h.elim⟩
section
variable {P : Program} {w : World} {K : PySem.W.Frag} {mg : Str → Option Value} {base : Heap} {T : Tab} {cal mkc : Cal} {N ps : List Str} {k : Nat} {nm : String} {d : Def} {st : Stmt}
def LkX (K : PySem.W.Frag) (mg : Str → Option Value) (x : Str) (f : Addr) (cdv : Value) : Prop := LkC K f cdv ∧ mg x = some (.ref f)
theorem okE_def {x : Str} (D : GH.Def K mg x st) (S : FnScope N ps (defScope st)) (hd : T.fn nm = some d) (hx : T.ext nm = none) (hps : d.ps.length = ps.length) (hN : d.n = N.length)
    (hb : ∀ (kV doc pm : Value) (an : Option Addr) (cdv ct : Value) (us : List Value), us.length = ps.length → bindArgs (PySem.W.fnOf x x (defArgs st) (defBody st) (defScope st) .none kV doc pm an cdv ct) ⟨us, []⟩ = pure (ps.zip us))
    (body : ∀ (f : Addr) (cdv : Value), LkX K mg x f cdv → ∀ (A : Around) (outer : List Env) (s : Shared) (H : Hp) (E : XK), A.guards = some [] → Room k (A.deeper (envOfC x (defScope st) s.heap.objs.size f cdv)) →
      PSs (cxOf (CXt P w) P w K mg base N x (defScope st) f cdv A outer s H E) (defBody st) (tSs (cxOf (CXt P w) P w K mg base N x (defScope st) f cdv A outer s H E) (fun c d _ H' => E c d H') T cal mkc (ioIx d.io) d.body)) :
    OkE P w K mg base (k + 1) x nm ps (evB T cal mkc) := by
  obtain ⟨f, fd, F1, m⟩ := D
  have F2 := fnE_of (T := T) (cal := cal) (mkc := mkc) (P := P) (w := w) (base := base) (mg := mg) (k := k) F1 S hd hx hps hN (fun cdv lk => body f cdv ⟨lk, m⟩)
  have kp := F1.kp
  obtain ⟨oc, od, kV, doc, pm, an, cdv, ct, osl, rfl, lk, hcd⟩ := F1.ex
  exact ⟨⟨f, _, F2, fun s us hl => .of_eq (hb kV doc pm an cdv ct us hl), m, kp, oc, od, osl, lk⟩, fun ss o h => by rw [evB_len hd hx ss o h, hps]⟩
theorem okE_none {x : Str} (D : GH.Def K mg x st) (hb : ∀ (kV doc pm : Value) (an : Option Addr) (cdv ct : Value) (us : List Value), us.length = ps.length → bindArgs (PySem.W.fnOf x x (defArgs st) (defBody st) (defScope st) .none kV doc pm an cdv ct) ⟨us, []⟩ = pure (ps.zip us)) : OkE P w K mg base k x nm ps none2 := by
  obtain ⟨f, fd, F1, m⟩ := D
  have kp := F1.kp
  obtain ⟨oc, od, kV, doc, pm, an, cdv, ct, osl, rfl, lk, hcd⟩ := F1.ex
  exact ⟨⟨f, _, fnE_none, fun s us hl => .of_eq (hb kV doc pm an cdv ct us hl), m, kp, oc, od, osl, lk⟩, fun ss o h => by cases h⟩
end
section
variable {X : Cx} {W : WX} {T : Tab} {cal mkc : Cal} {a b c e o : Expr} {ea eb ec : Ex} {pos p : Pos} {k : Nat}
theorem takesW0 : Takes X W0 := ⟨fun _ _ ⟨_, _, _, _, _, _, _, _, _, _, _, _, _, _, _, _, w⟩ => w.2.elim, fun _ _ ⟨_, _, _, _, _, _, _, _, _, _, _, _, _, _, _, _, w⟩ => w.2.elim⟩
theorem oE (h : PE X e (tE X.K X.mg W T cal mkc ea)) (hn : ∀ i, ea ≠ .v i := by nofun) : PE X e (tO X.K X.mg W T cal mkc ea) := pe_opd h hn
theorem aV {io : Bool} {i : Nat} (h : PE X e (tVar i)) : PE X e (tArg X W T cal mkc io (.v i)) := sArg (pe_name h) fun j z => by cases z; exact h
theorem aE {io : Bool} (h : PE X e (tE X.K X.mg W T cal mkc ea)) (hn : ∀ i, ea ≠ .v i := by nofun) : PE X e (tArg X W T cal mkc io ea) := sArg h fun j z => absurd z (hn j)
theorem cI {i : Int} {j : Nat} : PE X (.Constant (.int i) j pos) (tE X.K X.mg W T cal mkc (.int i)) := sE_const pe_int (fun F => .int i) fun _ => rfl
theorem cB {i : Bool} {j : Nat} : PE X (.Constant (.bool i) j pos) (tE X.K X.mg W T cal mkc (.bl i)) := sE_const pe_bl (fun F => .bl i) fun _ => rfl
theorem cN {j : Nat} : PE X (.Constant .none j pos) (tE X.K X.mg W T cal mkc .non) := sE_const pe_non (fun F => .non) fun _ => rfl
theorem toS_as (s : String) : toS (asStr s) = Str.ofString s := by unfold toS asStr; simp
theorem cS {s : String} {j : Nat} : PE X (.Constant (.str (Str.ofString s)) j pos) (tE X.K X.mg W T cal mkc (.str s)) := sE_const pe_str (fun F => by rw [← toS_as]; exact .str (asStr s)) fun _ => rfl
theorem cG {x : Str} {s : String} {v : V} {w : Val} (h : GH.Cst X.mg x v) (r : ∀ F, Rep X.K X.mg F v w) (hT : T.cst s = some w) (hg : Gl X x := by rfl) (hd : (x == ("__debug__" : Str)) = false := by decide) : PE X (.Name x pos) (tE X.K X.mg W T cal mkc (.g s)) :=
  sE_const (GH.pe_cst h hg hd) r fun ρ => by simp only [evE, hT]
theorem b1 {x : Str} {id : String} {bl : Bl} (hc : CallR X (.builtin id) (rBlt X.K X.mg bl)) (hm : X.mg x = none) (hv : bootBuiltins x = some (.builtin id)) (ha : PE X a (tO X.K X.mg W T cal mkc ea)) (hg : Gl X x := by rfl) (hn : x ≠ "__name__" := by decide) (hdb : (x == ("__debug__" : Str)) = false := by decide)
    (he : starEach [a] X.env = (false, eval a X.env) :: starEach [] X.env := by rfl) (hpl : (backTo pos (starEach [] X.env)).any (·.1) = false := by rfl) : PE X (.Call (.Name x p) [a] [] pos) (tE X.K X.mg W T cal mkc (.blt bl [ea])) :=
  (pe_callB hc hg hm hv (pa_cons ha pa_nil he) hn hdb he hpl).imp fun _ _ _ q => blt1 q
theorem t1 {x : Str} {id : String} {bl : Bl} (hc : CallR X (.type id) (rBlt X.K X.mg bl)) (hm : X.mg x = none) (hv : bootBuiltins x = some (.type id)) (ha : PE X a (tO X.K X.mg W T cal mkc ea)) (hg : Gl X x := by rfl) (hn : x ≠ "__name__" := by decide) (hdb : (x == ("__debug__" : Str)) = false := by decide)
    (he : starEach [a] X.env = (false, eval a X.env) :: starEach [] X.env := by rfl) (hpl : (backTo pos (starEach [] X.env)).any (·.1) = false := by rfl) : PE X (.Call (.Name x p) [a] [] pos) (tE X.K X.mg W T cal mkc (.blt bl [ea])) :=
  (pe_callTy hc hg hm hv (pa_cons ha pa_nil he) hn hdb he hpl).imp fun _ _ _ q => blt1 q
theorem b2 {x : Str} {id : String} {bl : Bl} {es : List Expr} {xs : List Ex} (hc : CallR X (.builtin id) (rBlt X.K X.mg bl)) (hm : X.mg x = none) (hv : bootBuiltins x = some (.builtin id)) (ha : PA X (a :: es) (tAs X.K X.mg W T cal mkc xs)) (hx : ∀ z, xs ≠ [z] := by nofun) (hg : Gl X x := by rfl) (hn : x ≠ "__name__" := by decide) (hdb : (x == ("__debug__" : Str)) = false := by decide)
    (he : starEach (a :: es) X.env = (false, eval a X.env) :: starEach es X.env := by rfl) (hpl : (backTo pos (starEach es X.env)).any (·.1) = false := by rfl) : PE X (.Call (.Name x p) (a :: es) [] pos) (tE X.K X.mg W T cal mkc (.blt bl xs)) :=
  (pe_callB hc hg hm hv ha hn hdb he hpl).imp fun _ _ _ q => blt2 hx q
theorem cE {d : Def} {x : Str} {nm : String} {ps : List Str} {es : List Expr} {xs : List Ex} (O : OkE X.prog X.w X.K X.mg X.base k x nm ps cal) (gd : X.A.guards = some []) (hr : Room k X.A) (tk : Takes X W) (hd : T.fn nm = some d) (ha : PA X (e :: es) (tArgs X W T cal mkc d.io xs)) (hg : Gl X x := by rfl) (hdb : (x == ("__debug__" : Str)) = false := by decide)
    (he : starEach (e :: es) X.env = (false, eval e X.env) :: starEach es X.env := by rfl) (hpl : (backTo pos (starEach es X.env)).any (·.1) = false := by rfl) : PE X (.Call (.Name x p) (e :: es) [] pos) (tE X.K X.mg W T cal mkc (.call nm xs [])) := by
  obtain ⟨f, fd, F, hb, hm, hk, _⟩ := O.ex
  exact sE_call F gd hr tk hb hg hm hk hd O.ln ha hdb he hpl
end
end EV
namespace EV
open PySem PySem.Spec PyProof.Rows L2
def InitRuns0 (X : Cx) (C fI : Addr) : Prop := ∀ (pins : List (Addr × Obj)) (σ : L2.St) (s2 : Shared) (H2 : Hp) (a : Addr), Inv X pins σ H2 s2 → H2 a = some (exo a C none) →
  codeAny (model X.prog X.w) (X.A.under (.builtin "type.__call__" ⟨[.ref C], []⟩)) (.call (.ref fI) ⟨[.ref a], []⟩) (CR C8.CX0 X.stack X.prog X.w H2 s2 (fun v H3 => v = .non ∧ H3 = H2) fun _ _ _ => False) s2
section
variable {X : Cx} {C fI : Addr} {B newId initId : String} {tl : List Value}
end
structure ErrAt0 (K : PySem.W.Frag) (mg : Str → Option Value) (c qual : Str) (st : Stmt) : Prop where
  ex : ∃ B newId initId tl fI fd, BaseE B newId initId tl ∧ mg c = some (.ref (GH.clsA mg c)) ∧ OwnE K (GH.clsA mg c) newId tl ∧ PySem.W.findIn K (.ref (GH.clsA mg c)) "__init__" = some (some (.ref fI)) ∧ PySem.W.typeIn K (.ref fI) = some (.type "function") ∧ Fun K "__init__" qual st fI fd
  S : FnScope ["self"] ["self"] (defScope st)
  bd : ∃ p1, defBody st = [.Pass p1]
def spI0 : Sp := fun vs H Q _ => ∃ a, vs = [.ref a] ∧ Q .non H
theorem init_ok0 {P : Program} {w : World} {K : PySem.W.Frag} {mg : Str → Option Value} {base : Heap} {qual : Str} {st : Stmt} {fI : Addr} {fd : FuncData} {k : Nat} (F1 : Fun K "__init__" qual st fI fd) (S : FnScope ["self"] ["self"] (defScope st)) (bd : ∃ p1, defBody st = [.Pass p1]) :
    FnOk P w K mg base C8.CX0 (k + 1) fI fd ["self"] spI0 :=
  F1.ok S (fun vs H Q E h => by
    obtain ⟨a, rfl, _⟩ := h
    rfl) fun cdv A outer s H vs Q E hr h => by
    obtain ⟨p1, e⟩ := bd
    rw [e]
    obtain ⟨a, rfl, q⟩ := h
    exact ⟨_, pss_cons ps_pass pss_nil, q⟩
section
variable {pr : List Nat} {X : Cx} {W : WX} {T : Tab} {cal mkc : Cal} {e : Expr} {ea : Ex} {p pos pos' : Pos}
end
end EV
namespace EV
open PySem PySem.Spec PyProof.Rows L2
def Tst (X : Cx) (t : Expr) (m : Value → Option Bool) : Prop := ∀ (pins : List (Addr × Obj)) (σ : L2.St) (H : Hp) (s : Shared) (a : Addr) (oe : Obj) (b : Bool) (Q : Bool → Shared → Prop) (E : Value → Shared → Prop), Inv (X.suite a ((a, oe) :: pins)) [] σ H s → m oe.cls = some b →
  (∀ h' t', (∀ c o, s.heap.get? c = some o → h'.get? c = some o) → Q b { s with heap := h', toks := t' }) → wpAny (model X.prog X.w) (X.A.mark (some (.ref a))) (eval t X.env) (fun c s1 => wpAny (model X.prog X.w) (X.A.mark (some (.ref a))) (excMatches (.ref a) c) Q E s1) E s
structure Cl where
  m : Value → Option Bool
  ts : Addr → Value → Option Addr → TS
  as : Option Nat
def Cl.ends (c : Cl) (D : Ends) : Ends := match c.as with
  | none => D
  | some i => { nx := fun σ H => D.nx (σ.set i none) H, rt := D.rt, bk := fun σ H => D.bk (σ.set i none) H, ct := fun σ H => D.ct (σ.set i none) H }
def Cl.st (c : Cl) (a : Addr) (σ : L2.St) : L2.St := match c.as with
  | none => σ
  | some i => σ.set i (some (.ref a))
inductive Hds (X : Cx) : List ExceptHandler → List Cl → Prop
  | nil : Hds X [] []
  | plain {t : Expr} {m : Value → Option Bool} {ts : Addr → Value → Option Addr → TS} {b₀ : Stmt} {su : List Stmt} {p : Pos} {hs : List ExceptHandler} {l : List Cl} (ht : Tst X t m)
      (hb : ∀ (a : Addr) (oe : Obj) (cls : Value) (d : Option Addr) (pn : List (Addr × Obj)), Zc cls d oe → (∃ vs, oe.data = .fields vs) → PSs (X.suite a ((a, oe) :: pn)) (b₀ :: su) (ts a cls d)) (r : Hds X hs l) : Hds X (.ExceptHandler (some t) none (b₀ :: su) p :: hs) (⟨m, ts, none⟩ :: l)
  | named {t : Expr} {m : Value → Option Bool} {ts : Addr → Value → Option Addr → TS} {n : Str} {i : Nat} {b₀ : Stmt} {su : List Stmt} {p : Pos} {hs : List ExceptHandler} {l : List Cl} (ht : Tst X t m) (hi : X.N[i]? = some n) (hk : X.env.kindOf n = some .local)
      (hb : ∀ (a : Addr) (oe : Obj) (cls : Value) (d : Option Addr) (pn : List (Addr × Obj)), Zc cls d oe → (∃ vs, oe.data = .fields vs) → PSs (X.suite a ((a, oe) :: pn)) (b₀ :: su) (ts a cls d)) (r : Hds X hs l) : Hds X (.ExceptHandler (some t) (some n) (b₀ :: su) p :: hs) (⟨m, ts, some i⟩ :: l)
section
variable {X : Cx} {pos : Pos} {Wo : WX} {l : List Cl}
end
end EV
namespace EV
open PySem PySem.Spec PyProof.Rows L2
def XcAt (T : Tab) (K : PySem.W.Frag) (mg : Str → Option Value) (D : String) : Prop := mg (Str.ofString D) = some (.ref (GH.clsA mg (Str.ofString D))) ∧
  ∀ c, (T.xc c).isEmpty = false → PySem.W.exmOne K (.ref (GH.clsA mg (Str.ofString c))) (.ref (GH.clsA mg (Str.ofString D))) = some ((T.xc c).contains D)
section
variable {pr : List Nat} {X : Cx} {W : WX} {T : Tab} {cal mkc : Cal} {pos np p' : Pos}
theorem AftS.ex {G Z F : Hp} {σ : L2.St} {D : Ends} {e : Exc} {ρ' : Ro} (h : AftS X W pr σ G Z F (some (.ex e ρ')) D) : ∀ F' σ' H' d, Abs X.K X.mg G Z F' σ' H' ρ' → Ex' F F' → Kp pr σ σ' → ExR X.K X.mg F' d e → W (cV X.mg e) d σ' H' := h
end
end EV
namespace EV
open PySem PySem.Spec PyProof.Rows L2
section
variable {K : PySem.W.Frag} {mg : Str → Option Value} {sI sL sS : Stmt}
end
end EV
namespace EV
open PySem PySem.Spec PyProof.Rows L2
section
variable {X : Cx} {W : WX} {T : Tab} {cal mkc : Cal} {a b c e o : Expr} {ea eb ec ek : Ex} {pos p p2 : Pos} {k : Nat}
theorem sE_dnew : PE X (.Dict [] [] pos) (tE X.K X.mg W T cal mkc (.dct [] [])) := by
  refine pe_dnewK.imp fun σ H Q q p hp => ?_
  obtain ⟨G, Z, F, ρ, A, q⟩ := q
  obtain ⟨A1, hF, hG, hl⟩ := A.newO (o := .dK []) hp
  exact q F _ A1 (Ex'.refl F) _ ⟨p, rfl, hG, .dk hF upd_same .nil, hl⟩
theorem Aft.impE {α : Type} {G Z F : Hp} {σ : L2.St} {m : Res α} {C C' : Hp → Hp → Ro → α → Prop} (h : Aft X.K X.mg W G Z F σ m C) (k : ∀ F' H' ρ' a, m = some (.ok a ρ') → Abs X.K X.mg G Z F' σ H' ρ' → Ex' F F' → C F' H' ρ' a → C' F' H' ρ' a) : Aft X.K X.mg W G Z F σ m C' := by
  match m, h with
  | some (.ok a ρ'), h => exact fun F' H' A e => k F' H' ρ' a rfl A e (h F' H' A e)
  | some (.ex e ρ'), h => exact h
  | none, h => exact h
theorem key_repT {F : Hp} {x : V} {v : Val} (r : Rep X.K X.mg F x v) (h : dkey v = true) (ht : isTup v = true) : ∃ (k : List Key) (q : Addr), x = .ref q ∧ v = .tup (k.map keyV) ∧ F q = some (.tup (k.map kV)) := by
  cases r with
  | tup s qs =>
    obtain ⟨js, rfl, rfl⟩ := qs.keys (by simpa [dkey] using h)
    exact ⟨js, _, rfl, rfl, s⟩
  | _ => simp [isTup] at ht
theorem disp_red {σ : L2.St} {H : Hp} {Q : VK} {G Z F : Hp} {ρ : Ro} (hK : ∀ v ρ1, EV.bnd (evE T cal mkc ek ρ) fixv = some (.ok v ρ1) → isTup v = false) (A : Abs X.K X.mg G Z F σ H ρ) (q : Aft X.K X.mg W G Z F σ (evE T cal mkc (.dct [ek] [ea]) ρ) fun F' H' ρ' r => ∀ x, ResR X.K X.mg G F' σ H' ρ' x r → Q x H') :
    tDisp [(tV X.K X.mg W T cal mkc ek, tV X.K X.mg W T cal mkc ea)] σ H Q := by
  intro p hp
  have e1 : evE T cal mkc (.dct [ek] [ea]) ρ = EV.bnd (EV.bnd (evE T cal mkc ek ρ) fixv) fun a ρ2 => EV.bnd (EV.bnd (evE T cal mkc ea ρ2) fixv) fun v ρ4 => if dkey a then EV.pur (.ow (.dct [(a, v)])) ρ4 else none := by
    simp only [bnd_assoc]; rfl
  rw [e1] at q
  obtain ⟨A1, hF, hG, hl⟩ := A.newO (o := .dK []) hp
  have hZ : Z p = none := by
    cases z : Z p with
    | none => rfl
    | some u => rw [A.f0 p u z] at hF; cases hF
  have nt : ¬ Imm (HO.dK [] : HO) := fun z => z.elim (fun ⟨_, z⟩ => by cases z) fun ⟨_, z⟩ => by cases z
  have A2 := A1.hold (o := .dK []) upd_same hF hl
  refine ⟨upd G p (.dK []), Z, F, ρ, A2, Aft.impE ((Aft.bnd q).hold hG hZ nt) fun F3 H3 ρ3 ka hm A3 e3 q3 ky rk => ?_⟩
  obtain ⟨q3, _, _, _⟩ := q3
  refine ⟨upd G p (.dK []), Z, F3, ρ3, A3, ((Aft.bnd q3).hold hG hZ nt).imp fun F4 H4 ρ4 v A4 e4 q4 vy rv => ?_⟩
  obtain ⟨q4, h1, h2, h3⟩ := q4
  have A5 := (A4.free hG hZ nt).1
  split at q4
  · rename_i hko
    obtain ⟨ky', rfl, rfl⟩ := key_repX (rk.mono e4) (notTup_key hko (hK _ _ hm))
    refine ⟨h1, [(ky', vy)], rfl, by simp, ?_⟩
    exact q4 F4 _ (A5.wr h2 hG h3 ⟨_, h1, by nofun, by nofun⟩) (Ex'.refl F4) _ ⟨p, rfl, hG, .dk h2 upd_same (RepK.put (ks := []) (kvs := []) (k := ky') .nil rv), h3⟩
  · exact q4.elim
theorem disp_redT {σ : L2.St} {H : Hp} {Q : VK} {G Z F : Hp} {ρ : Ro} (hK : ∀ v ρ1, EV.bnd (evE T cal mkc ek ρ) fixv = some (.ok v ρ1) → isTup v = true) (A : Abs X.K X.mg G Z F σ H ρ) (q : Aft X.K X.mg W G Z F σ (evE T cal mkc (.dct [ek] [ea]) ρ) fun F' H' ρ' r => ∀ x, ResR X.K X.mg G F' σ H' ρ' x r → Q x H') :
    tDispT (tV X.K X.mg W T cal mkc ek) (tV X.K X.mg W T cal mkc ea) σ H Q := by
  intro p hp
  have e1 : evE T cal mkc (.dct [ek] [ea]) ρ = EV.bnd (EV.bnd (evE T cal mkc ek ρ) fixv) fun a ρ2 => EV.bnd (EV.bnd (evE T cal mkc ea ρ2) fixv) fun v ρ4 => if dkey a then EV.pur (.ow (.dct [(a, v)])) ρ4 else none := by
    simp only [bnd_assoc]; rfl
  rw [e1] at q
  obtain ⟨A1, hF, hG, hl⟩ := A.newO (o := .dT []) hp
  have hZ : Z p = none := by
    cases z : Z p with
    | none => rfl
    | some u => rw [A.f0 p u z] at hF; cases hF
  have nt : ¬ Imm (HO.dT [] : HO) := fun z => z.elim (fun ⟨_, z⟩ => by cases z) fun ⟨_, z⟩ => by cases z
  have A2 := A1.hold (o := .dT []) upd_same hF hl
  refine ⟨upd G p (.dT []), Z, F, ρ, A2, Aft.impE ((Aft.bnd q).hold hG hZ nt) fun F3 H3 ρ3 ka hm A3 e3 q3 ky rk => ?_⟩
  obtain ⟨q3, _, _, _⟩ := q3
  refine ⟨upd G p (.dT []), Z, F3, ρ3, A3, ((Aft.bnd q3).hold hG hZ nt).imp fun F4 H4 ρ4 v A4 e4 q4 vy rv => ?_⟩
  obtain ⟨q4, h1, h2, h3⟩ := q4
  have A5 := (A4.free hG hZ nt).1
  split at q4
  · rename_i hko
    obtain ⟨ky', pk, rfl, rfl, hpk⟩ := key_repT (rk.mono e4) hko (hK _ _ hm)
    refine ⟨h1, ky', pk, rfl, A4.sub _ _ hpk, ?_⟩
    exact q4 F4 _ (A5.wr h2 hG h3 ⟨_, h1, by nofun, by nofun⟩) (Ex'.refl F4) _ ⟨p, rfl, hG, .dt h2 upd_same (RepT.put (ks := []) (kvs := []) (k := ky') .nil rv), h3⟩
  · exact q4.elim
theorem sE_disp (hr : Room kr X.A) (hk : PE X a (tE X.K X.mg W T cal mkc ek)) (hv : PE X b (tE X.K X.mg W T cal mkc ea)) : PE X (.Dict [some a] [b] pos) (tE X.K X.mg W T cal mkc (.dct [ek] [ea])) := by
  have hu : X.A.units < cLine := by have := hr.un; omega
  refine (GH.pe_alt (pe_disp (pps_cons (pe_fix hk) (pe_fix hv) pps_nil) rfl rfl (by simp) (by simp)) (pe_dispT hu (pe_fix hk) (pe_fix hv))).imp fun σ H Q q => ?_
  obtain ⟨G, Z, F, ρ, A, q⟩ := q
  by_cases h : ∃ v ρ1, EV.bnd (evE T cal mkc ek ρ) fixv = some (.ok v ρ1) ∧ isTup v = true
  · obtain ⟨v, ρ1, h1, h2⟩ := h
    exact .inr (disp_redT (fun v' ρ1' h' => by rw [h1] at h'; cases h'; exact h2) A q)
  · refine .inl (disp_red (fun v ρ1 h1 => ?_) A q)
    cases e : isTup v with
    | false => rfl
    | true => exact absurd ⟨v, ρ1, h1, e⟩ h
theorem reps_rng {F : Hp} (a b : Int) : Reps X.K X.mg F (rgV a b) (rng a b) := by
  unfold rgV rng
  generalize List.range (b - a).toNat = l
  induction l with
  | nil => exact .nil
  | cons i r ih => exact .cons (.int _) ih
theorem sE_lrg {p3 : Pos} (hc : X.calm = true) (hm : X.mg "list" = none) (hm2 : X.mg "range" = none) (ha : PE X a (tE X.K X.mg W T cal mkc ea)) (hg : Gl X "list" := by rfl) (hg2 : Gl X "range" := by rfl) (na : starEach [.Call (.Name "range" p2) [a] [] p3] X.env = (false, eval (.Call (.Name "range" p2) [a] [] p3) X.env) :: starEach [] X.env := by rfl) (nb : starEach [a] X.env = (false, eval a X.env) :: starEach [] X.env := by rfl) :
    PE X (.Call (.Name "list" p) [.Call (.Name "range" p2) [a] [] p3] [] pos) (tE X.K X.mg W T cal mkc (.lrg ea)) := by
  refine (pe_listRg hc hg hm (prg_1 hg2 hm2 (pe_fix ha) nb) na).imp fun σ H Q q => ?_
  obtain ⟨G, Z, F, ρ, A, q⟩ := q
  have e1 : evE T cal mkc (.lrg ea) ρ = EV.bnd (EV.bnd (evE T cal mkc ea ρ) fixv) fun v ρ2 => EV.lift ((rngF [v]).map fun xs => .ow (.lst xs)) ρ2 := by
    rw [bnd_assoc]; rfl
  rw [e1] at q
  refine ⟨G, Z, F, ρ, A, (Aft.bnd q).imp fun F1 H1 ρ1 v A1 e1 q1 x rx => ?_⟩
  obtain ⟨r, hr, q2⟩ := q1.lift
  obtain ⟨xs, hr1, rfl⟩ := Option.map_eq_some_iff.mp hr
  cases rx with
  | int n =>
    simp only [rngF] at hr1
    split at hr1
    · rename_i hc
      cases hr1
      unfold cap at hc
      refine ⟨n, rfl, ?_, fun p hp => ?_⟩
      · exact ⟨by omega, by omega, by omega, by omega, by omega⟩
      · obtain ⟨A2, hF, hG, hl⟩ := A1.newO (o := .lst (rgV 0 n)) hp
        refine q2 F1 _ A2 (Ex'.refl F1) _ ⟨p, rfl, hG, .lst hF upd_same ?_, hl⟩
        exact reps_rng 0 n
    · cases hr1
  | _ => simp only [rngF] at hr1; cases hr1
end
end EV
namespace GH
open PySem PySem.Spec PyProof.Rows L2
structure FnG (P : Program) (w : World) (K : PySem.W.Frag) (mg : Str → Option Value) (base : Heap) (k : Nat) (f : Addr) (fd : FuncData) (ps : List Str) (sp : Sp) : Prop where
  ln : ∀ vs H Q E, sp vs H Q E → vs.length = ps.length
  go : ∀ (A : Around) (ou : List Env) (s : Shared) (H : Hp) (args : Args) (us : List Value) (vs : List V) (Q : VK) (E : XK), A.guards = some [] → Room k A → Env0 P w K mg base A ou s H → BindsTo s fd args (ps.zip us) → Vals vs us → sp vs H Q E →
    codeAny (model P w) A (.call (.ref f) args) (CR CX0 ou P w H s Q E) s
section
variable {X : Cx} {k : Nat} {f : Addr} {fd : FuncData} {ps : List Str} {sp : Sp} {x : Str} {p pos : Pos} {e : Expr} {es : List Expr} {t : TA}
end
structure OkG (P : Program) (w : World) (K : PySem.W.Frag) (mg : Str → Option Value) (base : Heap) (n : Nat) (x : Str) (ps : List Str) (sp : Sp) : Prop where
  ex : ∃ f fd, FnG P w K mg base n f fd ps sp ∧ Binds K fd ps [] ∧ mg x = some (.ref f) ∧ PySem.W.keepIn K (.ref f) = true ∧ (∀ (s : Shared) (us : List Value), us.length = ps.length → BindsTo s fd ⟨us, []⟩ (ps.zip us)) ∧ ∃ oc od osl, K.lookup f = some ⟨oc, od, .func fd, osl⟩
theorem OkG.every {P : Program} {w : World} {K : PySem.W.Frag} {mg : Str → Option Value} {n : Nat} {x p : Str} {sp : Sp} {f : Addr} (O : ∀ base : Heap, OkG P w K mg base n x [p] sp) (m : mg x = some (.ref f)) :
    ∃ fd : FuncData, (∀ (s : Shared) (u : Value), BindsTo s fd ⟨[u], []⟩ [(p, u)]) ∧ ∀ base : Heap, FnG P w K mg base n f fd [p] sp := by
  obtain ⟨f0, fd, F, b, m0, k, bt, oc, od, osl, lk⟩ := (O default).ex
  rw [m] at m0
  cases m0
  refine ⟨fd, fun s u => bt s [u] rfl, fun base => ?_⟩
  obtain ⟨f1, fd1, F1, _, m1, _, _, oc1, od1, osl1, lk1⟩ := (O base).ex
  rw [m] at m1
  cases m1
  rw [lk] at lk1
  cases lk1
  exact F1
theorem go_law {P : Program} {w : World} {K : PySem.W.Frag} {mg mb : Str → Option Value} {k : Nat} {fa a : Addr} {fd : FuncData} {x : Str} {sp : Sp} {s1 : Shared} {vs : List Value} {ns : List Int}
    (KX : K.In s1.heap) (hns : s1.heap.Ns mainGlobals mg) (hb : s1.heap.Ns builtinsNs mb) (hbb : ∀ x : Str, x ≠ "__name__" → mb x = bootBuiltins x) (lim : s1.heap.NoLimit) (gn : s1.gens = #[])
    (ha : s1.heap.get? a = some { cls := .type "list", data := .seq vs.toArray }) (hi : IntsAre vs ns) (hl : ns.length ≤ sizeLine) (hr : Room k callerA)
    (F : ∀ base : Heap, FnG P w K mg base k fa fd [x] sp) (hbind : ∀ (s : Shared) (u : Value), BindsTo s fd ⟨[u], []⟩ [(x, u)])
    (hsp : ∀ H : Hp, SqL K H a (ns.map V.int) → sp [.ref a] H (fun v _ => v = .bl true) fun _ _ _ => False) :
    codeAny (model P w) callerA (.call (.ref fa) ⟨[.ref a], []⟩) (fun r s' => r = .ok (.ret (.bool true)) ∧ OldK s1.heap s'.heap ∧ s'.os = s1.os ∧ AllBare s'.gens) s1 := by
  have rv := vals_ints hi
  have hlen := hi.length
  have mid : ∀ H : Hp, Only H → SqL K H a (ns.map V.int) → HOk P w H s1.heap → (∀ b, H b ≠ none → b = a) → (H a ≠ none → K.lookup a = none) →
      codeAny (model P w) callerA (.call (.ref fa) ⟨[.ref a], []⟩) (fun r s' => r = .ok (.ret (.bool true)) ∧ OldK s1.heap s'.heap ∧ s'.os = s1.os ∧ AllBare s'.gens) s1 := by
    intro H only sq hok one out
    have bare : ∀ {b : Addr} {o : Obj} {es : Array DictEntry} {ep : Nat}, s1.heap.get? b = some o → o.data = .dict es ep → H b = none := fun {b o es ep} e d => by
      cases q : H b with
      | none => rfl
      | some u =>
        obtain rfl : b = a := one b (by rw [q]; exact Option.some_ne_none u)
        rw [ha] at e; cases e
        exact nomatch (show Data.seq vs.toArray _ = Data.dict es ep from d)
    have space : ∀ {b : Addr} {m : Str → Option Value}, s1.heap.Ns b m → (hidT s1.heap H).Ns b m := fun {b m} ⟨o, es, ep, e, d, r⟩ => ⟨o, es, ep, hidT_get e (bare e d), d, r⟩
    have part : K.In (hidT s1.heap H) := fun b o e => hidT_get (KX b o e) (by
      cases q : H b with
      | none => rfl
      | some u =>
        obtain rfl : b = a := one b (by rw [q]; exact Option.some_ne_none u)
        rw [out (by rw [q]; exact Option.some_ne_none u)] at e; cases e)
    have md : Mod K mg (hidT s1.heap H) := ⟨part, space hns, ⟨mb, space hb, hbb⟩, let ⟨mc, h1, h2⟩ := lim; ⟨mc, space h1, h2⟩⟩
    have ev : Env0 P w K mg (hidT s1.heap H) callerA [] s1 H := ⟨rfl, md, fun b o e => of_hidT e, Nat.le_of_eq (hidT_size _ _), trivial, fun b hb => (nomatch (show b ∈ ([] : List Addr) from hb)), hok, .of_eq gn⟩
    refine codeAny_mono ((F _).go callerA [] s1 H ⟨[.ref a], []⟩ [.ref a] [.ref a] _ _ rfl hr ev (hbind s1 (.ref a)) (.cons rfl .nil) (hsp H sq)) fun o s' h => ?_
    cases o with
    | error e => exact False.elim h
    | ok fl => cases fl with
      | next => exact False.elim h
      | brk => exact False.elim h
      | cont => exact False.elim h
      | ret u =>
        obtain ⟨v, H', os, br, un, hok', r', q⟩ := h
        obtain rfl : v = .bl true := q
        obtain rfl : u = Value.bool true := r'
        refine ⟨rfl, OldK.of_keep fun b o e => ?_, os, br⟩
        cases q : H b with
        | none => exact un.keep b o e q (fun z => nomatch (show b ∈ ([] : List Addr) from z)) (fun z => nomatch (show b ∈ ([] : List Addr) from z))
        | some u =>
          rcases only b with z | ⟨ob, xs, z⟩
          · rw [q] at z; cases z
          · obtain ⟨i1, _⟩ := hok b _ z
            obtain ⟨i2, _⟩ := hok' b _ (un.frzs b ob _ z)
            rw [e] at i1; cases i1
            exact i2
  cases hk : K.lookup a with
  | some o =>
    have e := KX a o hk
    rw [ha] at e
    cases e
    refine mid (fun _ => none) (fun _ => .inl rfl) (.inr ⟨_, vs.toArray, _, hk, rfl, rfl, rfl, ?_, by simpa using rv⟩) (fun b u z => nomatch (show (none : Option HO) = some u from z)) (fun b z => absurd rfl z) fun z => absurd rfl z
    rw [List.size_toArray, hlen]; exact hl
  | none =>
    let H0 : Hp := fun b => if b = a then some (.frz { cls := .type "list", data := .seq vs.toArray } (.lst (ns.map V.int))) else none
    have at_ : H0 a = some (.frz { cls := .type "list", data := .seq vs.toArray } (.lst (ns.map V.int))) := if_pos rfl
    have off : ∀ b, b ≠ a → H0 b = none := fun b n => if_neg n
    refine mid H0 (fun b => ?_) (.inl (.inr ⟨_, at_⟩)) (fun b u z => ?_) (fun b z => ?_) fun _ => hk
    · by_cases q : b = a
      · subst q; exact .inr ⟨_, _, at_⟩
      · exact .inl (off b q)
    · by_cases q : b = a
      · subst q
        rw [at_] at z; cases z
        exact ⟨ha, by rw [List.length_map]; exact hl, vs, _, rv, ha⟩
      · rw [off b q] at z; cases z
    · by_cases q : b = a
      · exact q
      · exact absurd (off b q) z
theorem go_walk {l : PySem.W.OpenLaw} {n k : Nat} {q : Program} {loose : List Str} {XP : (Str → Option Value) → Heap → Prop} {YP : World → Heap → Prop} {d : DefRec} {x : Str}
    (hn : l.most = some n) (hn2 : n ≤ sizeLine) (hdf : d.params.defaults = []) (hr : Room k callerA)
    (F : ∀ (w : World) (mg : Str → Option Value) (fa : Addr) (h : Heap), YP w h → h.Ns mainGlobals mg → mg d.name = some (.ref fa) →
      ∃ (K : PySem.W.Frag) (fd : FuncData) (sp : Sp), K.In h ∧ (∀ (s : Shared) (u : Value), BindsTo s fd ⟨[u], []⟩ [(x, u)]) ∧
        (∀ (H : Hp) (a : Addr) (ns : List Int), ns.length ≤ n → SqL K H a (ns.map V.int) → sp [.ref a] H (fun v _ => v = .bl true) fun _ _ _ => False) ∧
        ∀ base : Heap, FnG l.prog w K mg base k fa fd [x] sp) : PySem.W.WalkO q loose XP YP l.row.toRowW d [] (fun f vs => PySem.call f vs) := by
  refine Att.attach_call hn hdf fun w s0 s1 mg mb fa o pm cd doc a vs ns G Y _ _ _ hmg hob hin hle hgn => ?_
  obtain ⟨K, fd, sp, KX, hb, hs, hF⟩ := F w mg fa _ Y G.T.g hmg
  exact go_law KX G.T.g G.T.b G.T.builtins G.T.nolimit hgn hob hin (Nat.le_trans hle hn2) hr hF hb fun H hS => hs H a ns hle hS
end GH
namespace GH
open PySem PySem.Spec PyProof.Rows L2
section
variable {X : Cx} {n : Nat} {x : Str} {ps ks : List Str} {sp : Sp} {p pos : Pos} {kws : List Keyword} {tk : TA} {st : Stmt} {g : {α : Type} → List α → List α}
end
end GH
namespace EV
open PySem PySem.Spec PyProof.Rows L2
section
variable {X : Cx} {W : WX} {T : Tab} {cal mkc : Cal} {a b c e o : Expr} {ea eb ec ek : Ex} {pos p p2 : Pos} {k : Nat}
mutual
theorem okB_ok : ∀ {d : PyData}, okB d = true → GH.okD d
  | .none, _ => trivial
  | .bool _, _ => trivial
  | .int i, h => by simp only [okB] at h; simp only [GH.okD]; simpa using h
  | .str x, h => by
    simp only [okB] at h; simp only [GH.okD]
    intro c hc
    have := List.all_eq_true.mp h c hc
    simpa using this
  | .list xs, h => by simp only [okB] at h; simp only [GH.okD]; exact okBs_ok h
  | .tuple xs, h => by simp only [okB] at h; simp only [GH.okD]; exact okBs_ok h
  | .dict _, h => by simp [okB] at h
theorem okBs_ok : ∀ {xs : List PyData}, okBs xs = true → GH.okAll xs
  | [], _ => trivial
  | x :: xs, h => by
    simp only [okBs, Bool.and_eq_true] at h
    simp only [GH.okAll]
    exact ⟨okB_ok h.1, okBs_ok h.2⟩
end
end
end EV
namespace EV
open PySem PySem.Spec PyProof.Rows L2
section
variable {pr : List Nat} {X : Cx} {W : WX} {T : Tab} {cal mkc : Cal} {a b c e o : Expr} {ea eb ec ek : Ex} {pos p p2 : Pos} {k : Nat}
end
end EV
namespace EV
open PySem PySem.Spec PyProof.Rows L2
def spL (K : PySem.W.Frag) (mg : Str → Option Value) (cal : Cal) (nm : String) : Sp := fun vs H Q _ => spF K mg cal 1 nm vs H Q fun _ _ _ => False
theorem okG_of {P : Program} {w : World} {K : PySem.W.Frag} {mg : Str → Option Value} {base : Heap} {k : Nat} {x p : Str} {nm : String} {cal : Cal} (O : OkE P w K mg base k x nm [p] cal) : GH.OkG P w K mg base k x [p] (spL K mg cal nm) := by
  obtain ⟨f, fd, F, hb, m, kp, lk⟩ := O.ex
  refine ⟨f, fd, ⟨fun vs H Q E h => F.ln vs H Q _ h, fun A ou s H args us vs Q E gd hr ev bt rl hs => ?_⟩, fun s us _ hl => ?_, m, kp, hb, lk⟩
  · refine codeAny_mono (F.go A ou s H args us vs Q _ gd hr ev bt rl hs) fun o s' h => ?_
    cases o with
    | error e =>
      rcases h with ⟨a, B, H', cls, d, _, _, _, _, _, _, _, z⟩ | ⟨a, B, H', cls, d, _, _, _, _, _, _, _, z⟩
      · exact z.2.elim
      · exact z.2.elim
    | ok fl => cases fl <;> exact h
  · rw [List.append_nil] at hl ⊢
    exact hb s us hl
theorem law_sp {K : PySem.W.Frag} {mg : Str → Option Value} {cal : Cal} {nm : String} {ns : List Int} {fin : List Slot} (h : cal nm [.fz (.scr ns)] = some (.ok (.fz (.bl true)) fin)) {H : Hp} {a : Addr} (t : TBs K mg H) (s : SqL K H a (ns.map V.int)) (E : XK) : spL K mg cal nm [.ref a] H (fun v _ => v = .bl true) E := by
  have g : ∀ {p : Addr} {o : HO}, H p = some o → (∀ ps, o ≠ .tbl ps) → gnd [] [] H p = some o := fun {p o} h ht => gnd_at (by simp [ioOf]) h ht
  have s' : SqL K (gnd [] [] H) a (ns.map V.int) := by
    rcases s with (s | ⟨o, s⟩) | s
    · exact .inl (.inl (g s (by nofun)))
    · exact .inl (.inr ⟨o, g s (by nofun)⟩)
    · exact .inr s
  refine ⟨gnd [] [] H, [.fz (.scr ns)], rfl, fun a o h => (gnd_some h).2.1, .cons (Rep.scr s') .nil, by simp [ioOf], ⟨fun a ps h => (gnd_some h).2.2 ps rfl, t⟩, ?_⟩
  rw [h]
  intro F' H' x E' rx
  cases rx
  rfl
end EV
namespace EV
open PySem PySem.Spec PyProof.Rows L2 GH
section
variable {K : PySem.W.Frag} {mg : Str → Option Value} {h base : Heap} {g : Addr → Option Obj}
end
end EV
namespace EV
open PySem PySem.Spec PyProof.Rows L2
section
variable {X : Cx} {W : WX} {k : Nat} {f : Addr} {fd : FuncData} {ps : List Str} {sp : Sp}
end
section
variable {X : Cx} {W : WX} {T : Tab} {cal mkc : Cal} {a b c e o : Expr} {ea eb ec ek : Ex} {pos p p2 : Pos} {k : Nat}
end
end EV
namespace EV
open PySem PySem.Spec PyProof.Rows L2
section
variable {X : Cx} {W : WX} {T : Tab} {cal mkc : Cal} {a b c e o : Expr} {ea eb ec ek : Ex} {pos p p2 : Pos} {k kr : Nat}
def rBmt (K : PySem.W.Frag) (mg : Str → Option Value) (m : Bm) : V → List V → Hp → VK → Prop := fun x ys H Q => ∃ F u vs w, Ex' F H ∧ RepB K mg F H x u ∧ Reps K mg F ys vs ∧ bmtF u m vs = some (.fz w) ∧ ∀ z, Rep K mg F z w → Q z H
theorem lindex_inv {u : Val} {vs : List Val} {w : Slot} (h : bmtF u .lindex vs = some w) : ∃ xs y j, u = .lst xs ∧ vs = [y] ∧ shp y = true ∧ shp (.lst xs) = true ∧ (xs.findIdx? fun z => eqv z y) = some j ∧ w = .fz (.int (j : Nat)) := by
  cases u with
  | lst xs =>
    rcases vs with _ | ⟨y, _ | ⟨z, r⟩⟩
    · exact nomatch (show (none : Option Slot) = some w from h)
    · have h : (if shp y && shp (.lst xs) then (match xs.findIdx? fun z => eqv z y with
        | some j => some (Slot.fz (.int (j : Nat)))
        | none => none) else none) = some w := h
      split at h
      · rename_i hc
        rw [Bool.and_eq_true] at hc
        split at h
        · rename_i j hj
          exact ⟨xs, y, j, rfl, rfl, hc.1, hc.2, hj, (Option.some.inj h).symm⟩
        · cases h
      · cases h
    · exact nomatch (show (none : Option Slot) = some w from h)
  | _ => exact nomatch (show (none : Option Slot) = some w from h)
theorem toDs_get : ∀ {ys : List Val} {ds : List PyData} (j : Nat) {z : PyData}, toDs ys = some ds → ds[j]? = some z → ∃ y, ys[j]? = some y ∧ toD y = some z
  | [], ds, j, z, h, hz => by simp only [toDs] at h; cases h; simp at hz
  | y :: r, ds, j, z, h, hz => by
    simp only [toDs, Option.bind_eq_some_iff, Option.map_eq_some_iff] at h
    obtain ⟨dy, hy, dr, hr, rfl⟩ := h
    cases j with
    | zero => simp at hz; subst hz; exact ⟨y, rfl, hy⟩
    | succ j => exact toDs_get (ys := r) j hr (by simpa using hz)
theorem toDs_len : ∀ {ys : List Val} {ds : List PyData}, toDs ys = some ds → ds.length = ys.length
  | [], ds, h => by simp only [toDs] at h; cases h; rfl
  | y :: r, ds, h => by
    simp only [toDs, Option.bind_eq_some_iff, Option.map_eq_some_iff] at h
    obtain ⟨dy, hy, dr, hr, rfl⟩ := h
    simp [toDs_len hr]
theorem mv_lindex (hr : Room kr X.A) : MtR X "list.index" (rBmt X.K X.mg .lindex) := by
  intro pins s σ H x xs v us Q I rx rs h
  obtain ⟨F, u, vs, w, e, ru, rv, hb, k⟩ := h
  obtain ⟨ys, y, j, rfl, rfl, h1, h2, hj, hw⟩ := lindex_inv hb
  cases hw
  have hu : X.A.units + 65 < cLine := by have := hr.un; omega
  obtain ⟨d1, e1, s1⟩ := shp_D h1
  obtain ⟨d2, e2, s2⟩ := shp_D h2
  have rb := RepB.dp e ru e2
  simp only [toD, Option.map_eq_some_iff] at e2
  obtain ⟨ds, e2, rfl⟩ := e2
  cases ru with
  | lst sa ra =>
    cases rv with
    | cons ry rt =>
      cases rt
      rw [List.findIdx?_eq_some_iff_getElem] at hj
      obtain ⟨hjl, hje, hjn⟩ := hj
      have hdl := toDs_len e2
      have hz : ds[j]? = some ds[j] := List.getElem?_eq_getElem (by omega)
      refine mt_indexD hu pins s σ H _ _ v us Q I rx rs ⟨_, _, d1, ds, j, ds[j], rfl, rfl, rb, ry.dp e e1, s2, s1, hz, ?_, fun m z' hm hz' => ?_, k _ (.int _)⟩
      · obtain ⟨y', hy', ey'⟩ := toDs_get j e2 hz
        rw [List.getElem?_eq_getElem hjl] at hy'
        cases hy'
        rw [eqv_D ey' e1]; exact hje
      · obtain ⟨y', hy', ey'⟩ := toDs_get m e2 hz'
        have hml : m < ys.length := by omega
        rw [List.getElem?_eq_getElem hml] at hy'
        cases hy'
        have := hjn m hm
        rw [eqv_D ey' e1]
        simpa using this
theorem bm_red {TN : String} {m : Bm} {xs : List Ex} {σ : L2.St} {H : Hp} {Q : VK} (hT : ∀ F H x u, Ex' F H → RepB X.K X.mg F H x u → bmtK m u = true → tyV X.K TN x H) (hF : ∀ u vs s, bmtF u m vs = some s → ∃ w, s = .fz w) (h : tE X.K X.mg W T cal mkc (.bmt ea m xs) σ H Q) : tBM X.K TN (rBmt X.K X.mg m) (tO X.K X.mg W T cal mkc ea) (tAs X.K X.mg W T cal mkc xs) σ H Q := by
  obtain ⟨G, Z, F, ρ, A, q⟩ := h
  have e1 : evE T cal mkc (.bmt ea m xs) ρ = EV.bnd (opnd ea (evE T cal mkc ea) ρ) fun x ρ1 => if !((x.val ρ1).map (bmtK m)).getD false then none else EV.bnd (evEs T cal mkc xs ρ1) fun vs ρ2 => EV.lift ((x.val ρ2).bind fun u => bmtF u m vs) ρ2 := by
    simp only [evE]
  rw [e1] at q
  refine ⟨G, Z, F, ρ, A, q.bnd.imp fun F1 H1 ρ1 o A1 e1 q1 x rx => ?_⟩
  split at q1
  · exact q1.elim
  · rename_i hc
    cases hv : o.val ρ1 with
    | none => rw [hv] at hc; simp at hc
    | some u0 =>
      rw [hv] at hc
      have hk : bmtK m u0 = true := by simpa using hc
      refine ⟨hT F1 H1 x u0 A1.sub (OpdR.read A1 rx hv) hk, G, Z, F1, ρ1, A1, q1.bnd.imp fun F2 H2 ρ2 vs A2 e2 q2 ys rys => ?_⟩
      obtain ⟨s, hs, q3⟩ := q2.lift
      obtain ⟨u, hu, hs⟩ := Option.bind_eq_some_iff.mp hs
      obtain ⟨w, rfl⟩ := hF _ _ _ hs
      exact ⟨F2, u, vs, w, A2.sub, OpdR.read A2 (rx.mono e2) hu, rys, hs, fun z rz => q3.pur A2 z rz⟩
theorem ty_lstB {F H : Hp} {x : V} {u : Val} (r : RepB X.K X.mg F H x u) (h : bmtK .lindex u = true) : tyV X.K "list" x H := by
  cases r with
  | lst sa ra => exact .inl ⟨rfl, _, .inl (.inl sa)⟩
  | _ => cases h
section
variable {es : List Expr} {xs : List Ex} {apos cpos : Pos}
theorem sE_lindex (hr : Room kr X.A) (ho : PE X o (tO X.K X.mg W T cal mkc ea)) (ha : PA X (e :: es) (tAs X.K X.mg W T cal mkc xs)) (hbase : attributeBase o "index" X.env (eval o X.env) = eval o X.env := by rfl)
    (hfew : ((backTo cpos (starEach (e :: es) X.env)).all (fun x => !x.1) && (backToKw cpos (keywordEach [] X.env)).all (fun x => x.1.isSome) && decide ((e :: es).length + ([] : List Keyword).length + (if ([] : List Keyword).isEmpty then 0 else 1) < 30)) = true := by rfl)
    (hline : (apos.endLine == cpos.line) = true := by rfl) (hs : starEach (e :: es) X.env = (false, eval e X.env) :: starEach es X.env := by rfl) (hplain : (backTo cpos (starEach es X.env)).any (·.1) = false := by rfl) :
    PE X (.Call (.Attribute o "index" apos) (e :: es) [] cpos) (tE X.K X.mg W T cal mkc (.bmt ea .lindex xs)) :=
  (pe_bm PySem.F.plainAttrs_list PySem.F.slot_list_index PySem.F.type_list_index (mv_lindex hr) ho ha hbase hfew hline hs hplain).imp fun _ _ _ q => bm_red (fun _ _ _ _ _ r h => ty_lstB r h) (fun _ _ _ h => by obtain ⟨_, _, _, _, _, _, _, _, h⟩ := lindex_inv h; exact ⟨_, h⟩) q
end
end
end EV
namespace EZ
open PySem PySem.Spec PyProof.Rows L2 RZ
section
variable {prog : Program} {w : World} {A : Around} {E : Value → Shared → Prop} {s : Shared} {z TI TO T i1 i2 l1 l2 : Addr} {f : Bool} {oT : Obj} {k1 k2 : Nat} {xs ys : Array Value} {x y : Value}
end
structure ZSt (z TI TO i1 i2 l1 l2 : Addr) (xs ys : Array Value) (S : Addr) (i : Nat) (h : Heap) : Prop where
  p : IsPair h TI (.ref i1) (.ref i2)
  a1 : h.IsTupleIter i1 l1 i
  a2 : h.IsTupleIter i2 l2 i
  b1 : h.IsTuple l1 xs
  b2 : h.IsTuple l2 ys
  o : ∃ u, h.get? TO = some u
  z : (IsZip h z TI TO .none ∧ ∃ a b, IsPair h TO a b) ∨ ∃ T f oT, IsZipHeld h z TI TO T f ∧ h.get? T = some oT ∧ T ≠ z ∧ T ≠ i1 ∧ T ≠ i2 ∧ T ≠ S
def Prs (xs ys : Array Value) (bad : List Addr) (N : Nat) (h : Heap) (i : Nat) (acc : Array Value) : Prop :=
  ∃ as : List Addr, acc = (as.map Value.ref).toArray ∧ as.length = i ∧ as.Nodup ∧ ∀ (j : Nat) a, as[j]? = some a → N ≤ a ∧ a ∉ bad ∧ ∃ x y, xs[j]? = some x ∧ ys[j]? = some y ∧ IsPair h a x y
theorem Prs.size {xs ys : Array Value} {bad : List Addr} {N : Nat} {h : Heap} {i : Nat} {acc : Array Value} (p : Prs xs ys bad N h i acc) : acc.size = i := by
  obtain ⟨as, rfl, rfl, _⟩ := p
  simp
theorem Prs.push {xs ys : Array Value} {bad : List Addr} {N : Nat} {h h0 : Heap} {i : Nat} {acc : Array Value} {a : Addr} {x y : Value} (p : Prs xs ys bad N h i acc) (p0 : ∀ as : List Addr, (∀ b ∈ as, ∃ o, h0.get? b = some o) → a ∉ as) (k0 : Prs xs ys bad N h0 i acc)
    (hN : N ≤ a) (n : a ∉ bad) (ex : xs[i]? = some x) (ey : ys[i]? = some y) (q : IsPair h a x y) : Prs xs ys bad N h (i + 1) (acc.push (.ref a)) := by
  obtain ⟨as, rfl, rfl, nd, r⟩ := p
  obtain ⟨as0, e0, l0, _, r0⟩ := k0
  have es : as0 = as := by
    have : (as0.map Value.ref) = as.map Value.ref := by simpa using e0.symm
    exact (List.map_inj_right (f := Value.ref) fun _ _ z => Value.ref.inj z).mp this
  subst es
  refine ⟨as0 ++ [a], by simp, by simp, ?_, fun j b hb => ?_⟩
  · rw [List.nodup_append]
    refine ⟨nd, by simp, fun b hb c hc z => ?_⟩
    have hc : c = a := by simpa using hc
    subst hc; subst z
    refine p0 as0 (fun b hb => ?_) hb
    obtain ⟨j, hj⟩ := List.getElem?_of_mem hb
    obtain ⟨_, _, x, y, _, _, q⟩ := r0 j b hj
    exact ⟨_, q⟩
  · rcases Nat.lt_or_ge j as0.length with hj | hj
    · rw [List.getElem?_append_left hj] at hb
      exact r j b hb
    · rw [List.getElem?_append_right hj] at hb
      have e : j - as0.length = 0 := by
        rcases Nat.eq_zero_or_pos (j - as0.length) with h | h
        · exact h
        · rw [List.getElem?_eq_none (by simp; omega)] at hb; cases hb
      rw [e] at hb
      have ej : j = as0.length := by omega
      subst ej
      cases hb
      exact ⟨hN, n, x, y, ex, ey, q⟩
section
variable {prog : Program} {w : World} {A : Around} {R : Result → Shared → Prop} {z TI TO i1 i2 l1 l2 S : Addr} {xs ys : Array Value}
end
end EZ
namespace EZ
open PySem PySem.Spec PyProof.Rows L2 RZ
section
variable {prog : Program} {w : World} {A : Around} {z TI TO i1 i2 l1 l2 S : Addr} {xs ys : Array Value}
theorem ZSt.up {i : Nat} {h h' : Heap} (st : ZSt z TI TO i1 i2 l1 l2 xs ys S i h) (n : S ∉ [z, TI, TO, i1, i2, l1, l2]) (k : ∀ b o, b ≠ S → h.get? b = some o → h'.get? b = some o) : ZSt z TI TO i1 i2 l1 l2 xs ys S i h' := by
  simp only [List.mem_cons, List.not_mem_nil, or_false, not_or] at n
  obtain ⟨n0, n1, n2, n3, n4, n5, n6⟩ := n
  refine ⟨k _ _ (Ne.symm n1) st.p, st.a1.at fun o e => k _ o (Ne.symm n3) e, st.a2.at fun o e => k _ o (Ne.symm n4) e, st.b1.at fun o e => k _ o (Ne.symm n5) e, st.b2.at fun o e => k _ o (Ne.symm n6) e, let ⟨u, e⟩ := st.o; ⟨u, k _ _ (Ne.symm n2) e⟩, ?_⟩
  rcases st.z with ⟨hz, a, b, hTO⟩ | ⟨T, f, oT, hz, hT, r1, r2, r3, r4⟩
  · exact .inl ⟨k _ _ (Ne.symm n0) hz, a, b, k _ _ (Ne.symm n2) hTO⟩
  · exact .inr ⟨T, f, oT, k _ _ (Ne.symm n0) hz, k _ _ r4 hT, r1, r2, r3, r4⟩
theorem ZSt.ty {i : Nat} {s : Shared} (st : ZSt z TI TO i1 i2 l1 l2 xs ys S i s.heap) : s.TypeIs (.ref z) "zip" := by
  rcases st.z with ⟨hz, _⟩ | ⟨T, f, oT, hz, _⟩
  · exact ⟨_, hz, rfl⟩
  · exact ⟨_, hz, rfl⟩
end
end EZ
namespace EZ
open PySem PySem.Spec PyProof.Rows L2 RZ
section
variable {X : Cx} {e e2 : Expr} {ta : TA} {p p2 p3 pos : Pos}
end
end EZ
namespace EZ
open PySem PySem.Spec PyProof.Rows L2 HT
section
variable {prog : Program} {w : World} {A : Around} {E : Value → Shared → Prop} {s : Shared}
end
end EZ
namespace EV
open PySem PySem.Spec PyProof.Rows L2
section
variable {X : Cx} {W : WX} {T : Tab} {cal mkc : Cal} {a b c d e o : Expr} {ea eb ec ed ek : Ex} {pos p p2 p3 : Pos} {k kr : Nat}
end
end EV
namespace EV
open PySem PySem.Spec PyProof.Rows L2
section
variable {X : Cx} {W : WX} {T : Tab} {cal mkc : Cal} {a b c e o : Expr} {ea eb ec eo : Ex} {pos p p2 p3 : Pos}
theorem toS_back (s : Str) : toS s.cps.toList = s := by unfold toS; simp
theorem es_c {r : List Ex} {ρ : Ro} (hs : ∀ z, ea ≠ .star z) : evEs T cal mkc (ea :: r) ρ = EV.bnd (EV.bnd (evE T cal mkc ea ρ) fixv) fun v ρ1 => EV.bnd (evEs T cal mkc r ρ1) fun vs ρ2 => EV.pur (v :: vs) ρ2 := by
  rw [bnd_assoc]
  cases ea with
  | star z => exact absurd rfl (hs z)
  | _ => rfl
theorem prim_1 {n : String} {g : List Val → Option Slot} {ρ : Ro} (hT : T.prm n = some g) (hs : ∀ z, ea ≠ .star z) : evE T cal mkc (.prim n [ea]) ρ = EV.bnd (EV.bnd (evE T cal mkc ea ρ) fixv) fun v ρ1 => EV.lift (g [v]) ρ1 := by
  have e1 : evE T cal mkc (.prim n [ea]) ρ = EV.bnd (evEs T cal mkc [ea] ρ) fun vs ρ1 => EV.lift (g vs) ρ1 := by simp only [evE, hT]
  rw [e1, es_c hs, bnd_assoc]
  rfl
theorem prim_2 {n : String} {g : List Val → Option Slot} {ρ : Ro} (hT : T.prm n = some g) (hs : ∀ z, ea ≠ .star z) (hs2 : ∀ z, eb ≠ .star z) : evE T cal mkc (.prim n [ea, eb]) ρ = EV.bnd (EV.bnd (evE T cal mkc ea ρ) fixv) fun v ρ1 => EV.bnd (EV.bnd (evE T cal mkc eb ρ1) fixv) fun w ρ2 => EV.lift (g [v, w]) ρ2 := by
  have e1 : evE T cal mkc (.prim n [ea, eb]) ρ = EV.bnd (evEs T cal mkc [ea, eb] ρ) fun vs ρ1 => EV.lift (g vs) ρ1 := by simp only [evE, hT]
  rw [e1, es_c hs, bnd_assoc]
  congr 1
  funext v ρ1
  rw [es_c hs2, bnd_assoc, bnd_assoc]
  rfl
end
end EV
namespace EV
open PySem PySem.Spec PyProof.Rows L2
section
variable {K : PySem.W.Frag} {mg : Str → Option Value} {F H : Hp}
end
section
variable {X : Cx} {kr : Nat}
end
end EV
namespace EV
open PySem PySem.Spec PyProof.Rows L2
section
variable {X : Cx} {W : WX} {T : Tab} {cal mkc : Cal} {pos : Pos}
end
end EV
namespace EV
open PySem PySem.Spec PyProof.Rows L2
section
variable {P : Program} {w : World} {H : Hp} {h : Heap} {D : Addr} {xs : List (NestedKey × Addr × Value)}
end
section
variable {X : Cx} {pins : List (Addr × Obj)} {σ : L2.St} {H : Hp} {s : Shared} {D p : Addr} {xs : List (NestedKey × Addr × Value)} {k : NestedKey} {r : Value}
end
section
variable {X : Cx}
end
section
variable {X : Cx} {a : Expr} {ta : TE} {p pos : Pos}
end
section
variable {K : PySem.W.Frag} {mg : Str → Option Value} {F : Hp}
end
section
variable {X : Cx} {W : WX} {T : Tab} {cal mkc : Cal} {kr : Nat}
end
end EV
namespace EV
open PySem PySem.Spec PyProof.Rows L2
section
variable {prog : Program} {w : World} {A : Around} {E : Value → Shared → Prop} {s : Shared}
end
section
variable {X : Cx} {pins : List (Addr × Obj)} {σ : L2.St} {H : Hp} {s : Shared}
end
section
variable {X : Cx} {W : WX} {T : Tab} {cal mkc : Cal} {a : Expr} {ea : Ex} {pos p lpos kpos p1 p2 p3 : Pos} {kr : Nat}
end
end EV
namespace EV
open PySem PySem.Spec PyProof.Rows L2 LamX
section
variable {X : Cx} {pins : List (Addr × Obj)} {σ : L2.St} {H : Hp} {s : Shared}
end
section
variable {X : Cx}
end
end EV
namespace EV
open PySem PySem.Spec PyProof.Rows L2 LamX
section
variable {Z : Cx} {l : List Cl} {hs : List ExceptHandler} {n : Str} {i : Nat} {np p p1 p2 p3 p4 p5 : Pos} {j : Nat}
end
end EV
namespace EV
open PySem PySem.Spec PyProof.Rows L2 LamX
theorem repF_look {K : PySem.W.Frag} {mg : Str → Option Value} {F : Hp} {f : String} : ∀ {xs : List (Str × V)} {fs : List (String × Val)} {v : Val}, RepF K mg F xs fs → fs.lookup f = some v → ∃ x, xs.lookup (Str.ofString f) = some x ∧ Rep K mg F x v
  | _, _, v, .nil, h => by simp at h
  | _, _, v, .cons (f := g) (x := x) (v := u) a r, h => by
    rw [List.lookup_cons] at h
    rw [List.lookup_cons]
    by_cases e : f = g
    · subst e
      rw [beq_self_eq_true] at h ⊢
      cases h
      exact ⟨x, rfl, a⟩
    · have e1 : (f == g) = false := by simpa using e
      have e2 : (Str.ofString f == Str.ofString g) = false := by
        refine beq_eq_false_iff_ne.mpr fun z => e ?_
        exact ofString_inj z
      rw [e1] at h
      rw [e2]
      exact repF_look r h
section
variable {K : PySem.W.Frag} {mg : Str → Option Value} {G Z F : Hp} {σ : L2.St} {H H' : Hp} {ρ : Ro}
theorem Aft.mono {α : Type} {W W' : WX} {m : Res α} {C C' : Hp → Hp → Ro → α → Prop} (h : Aft K mg W G Z F σ m C) (hW : ∀ c d H, W c d σ H → W' c d σ H) (hC : ∀ F' H' ρ' a, C F' H' ρ' a → C' F' H' ρ' a) : Aft K mg W' G Z F σ m C' := by
  unfold Aft at h ⊢
  split at h
  · exact fun F' H' A e => hC _ _ _ _ (h F' H' A e)
  · exact fun F' H' d A e r => hW _ _ _ (h F' H' d A e r)
  · exact h
end
section
variable {X : Cx} {W : WX} {T : Tab} {cal mkc : Cal} {ea : Ex} {k : Nat} {p pos lpos : Pos}
end
end EV
namespace EV
open PySem PySem.Spec PyProof.Rows L2 GH LamX
structure BE where
  B : String
  nid : String
  iid : String
  tl : List Value
def bVE : BE := ⟨"ValueError", "ValueError.__new__", "ValueError.__init__", [.type "ValueError", .type "Exception", .type "BaseException", .type "object"]⟩
def bLE : BE := ⟨"LookupError", "LookupError.__new__", "LookupError.__init__", [.type "LookupError", .type "Exception", .type "BaseException", .type "object"]⟩
def bAE : BE := ⟨"ArithmeticError", "ArithmeticError.__new__", "ArithmeticError.__init__", [.type "ArithmeticError", .type "Exception", .type "BaseException", .type "object"]⟩
def BE.Is (b : BE) : Prop := BaseE b.B b.nid b.iid b.tl
theorem isVE : bVE.Is := baseVE
theorem isLE : bLE.Is := baseLE
theorem isAE : bAE.Is := baseAE
def ownB (K : PySem.W.Frag) (C : Addr) (nid : String) (tl : List Value) : Bool := (match K.lookup C with
  | some ⟨.type "type", _, .cls cd, sl⟩ => (match cd.mro, sl.toList with
    | .ref C' :: bm, [_, _, _, _, some (.builtin n), _] => C' == C && n == nid && !cd.hasDel && cd.hasDict && refsT tl bm
    | _, _ => false)
  | _ => false) && (He.eqO (PySem.W.findIn K (.ref C) "__setattr__") (some (some (.builtin "object.__setattr__"))) && (decide (PySem.W.subIn K (.ref C) (.type "BaseException") = some true) && (decide (PySem.W.typeIn K (.ref C) = some (.type "type")) && PySem.W.keepIn K (.ref C))))
theorem ownB_ok {K : PySem.W.Frag} {C : Addr} {nid : String} {tl : List Value} (q : ownB K C nid tl = true) : OwnE K C nid tl := by
  obtain ⟨q, q1⟩ := He.ba q
  obtain ⟨q1, q2⟩ := He.ba q1
  obtain ⟨q2, q3⟩ := He.ba q2
  obtain ⟨q3, q4⟩ := He.ba q3
  refine ⟨?_, He.eqO_ok q1, of_decide_eq_true q2, of_decide_eq_true q3, q4⟩
  split at q
  · rename_i dd cd sl ho
    split at q
    · rename_i C' bm k0 k1 k2 k3 n k5 hm hs
      simp only [Bool.and_eq_true, beq_iff_eq, Bool.not_eq_true'] at q
      obtain ⟨⟨⟨⟨rfl, rfl⟩, hdel⟩, hdc⟩, ht⟩ := q
      obtain ⟨nm, bs, mro, ns, qn, hd, sn, sub, ab, col, del⟩ := cd
      dsimp only at hm hdel hdc
      subst hm hdel hdc
      have hsl : sl = #[k0, k1, k2, k3, some (.builtin n), k5] := by
        obtain ⟨l⟩ := sl
        simp only at hs
        rw [hs]
      subst hsl
      exact ⟨nm, qn, ns, bs, bm, sn, sub, ab, col, dd, k0, k1, k2, k3, k5, ho, ht⟩
    · cases q
  · cases q
def initB (c : Str) (K : PySem.W.Frag) : Bool := He.eqO (PySem.W.findIn K (.ref (He.ga K c)) "__init__") (some (some (.ref (mP c "__init__" K)))) && decide (PySem.W.typeIn K (.ref (mP c "__init__" K)) = some (.type "function"))
def errB (b : BE) (c f : Str) (K : PySem.W.Frag) : Bool := ownB K (He.ga K c) b.nid b.tl && (initB c K && He.eqO (PySem.W.findIn K (.ref (He.ga K c)) f) (some none))
def errB0 (b : BE) (c : Str) (K : PySem.W.Frag) : Bool := ownB K (He.ga K c) b.nid b.tl && initB c K
section
variable {K : PySem.W.Frag} {mg : Str → Option Value} {h : Heap} {b : BE} {c f g qual : Str} {st : Stmt}
theorem err_is (X : K.In h) (G : h.Ns mainGlobals mg) (hb : b.Is) (gl : (He.Fa.glo c).ok K = true) (q : errB b c f K = true) (F : ∃ u, Fun K "__init__" qual st (mP c "__init__" K) u) (S : FnScope ["self", g] ["self", g] (defScope st))
    (bd : ∃ p1 p2 p3 p4, defBody st = [.Assign [.Attribute (.Name "self" p1) f p2] (.Name g p3) p4]) (g1 : (g == ("__debug__" : Str)) = false := by decide) (g2 : (g == ("__classdict__" : Str)) = false := by decide) (g3 : ("self" : Str) ≠ g := by decide) : ErrAt K mg c f g qual st := by
  obtain ⟨u, F⟩ := F
  obtain ⟨q1, q⟩ := He.ba q
  obtain ⟨q2, q3⟩ := He.ba q
  obtain ⟨q2, q4⟩ := He.ba q2
  have e : clsA mg c = He.ga K c := clsA_of (He.glo_ok X G gl)
  exact ⟨⟨_, _, _, _, _, u, hb, by rw [e]; exact He.glo_ok X G gl, by rw [e]; exact ownB_ok q1, by rw [e]; exact He.eqO_ok q2, of_decide_eq_true q4, F, by rw [e]; exact He.eqO_ok q3⟩, S, bd, g1, g2, g3⟩
theorem err0_is (X : K.In h) (G : h.Ns mainGlobals mg) (hb : b.Is) (gl : (He.Fa.glo c).ok K = true) (q : errB0 b c K = true) (F : ∃ u, Fun K "__init__" qual st (mP c "__init__" K) u) (S : FnScope ["self"] ["self"] (defScope st)) (bd : ∃ p1, defBody st = [.Pass p1]) : ErrAt0 K mg c qual st := by
  obtain ⟨u, F⟩ := F
  obtain ⟨q1, q2⟩ := He.ba q
  obtain ⟨q2, q4⟩ := He.ba q2
  have e : clsA mg c = He.ga K c := clsA_of (He.glo_ok X G gl)
  exact ⟨⟨_, _, _, _, _, u, hb, by rw [e]; exact He.glo_ok X G gl, by rw [e]; exact ownB_ok q1, by rw [e]; exact He.eqO_ok q2, of_decide_eq_true q4, F⟩, S, bd⟩
abbrev XcL := List (String × List String)
def xcF (l : XcL) (c : String) : List String := (l.lookup c).getD []
def XcK (l : XcL) (K : PySem.W.Frag) (mg : Str → Option Value) (D : String) : Prop := mg (Str.ofString D) = some (.ref (clsA mg (Str.ofString D))) ∧ ∀ p ∈ l, PySem.W.exmOne K (.ref (clsA mg (Str.ofString p.1))) (.ref (clsA mg (Str.ofString D))) = some (p.2.contains D)
theorem look_mem {l : XcL} {c : String} {ns : List String} (h : l.lookup c = some ns) : (c, ns) ∈ l := by
  induction l with
  | nil => cases h
  | cons p r ih =>
    obtain ⟨d, ms⟩ := p
    rw [List.lookup_cons] at h
    by_cases e : c = d
    · subst e
      rw [beq_self_eq_true] at h
      cases h
      exact List.mem_cons_self
    · rw [show (c == d) = false by simpa using e] at h
      exact List.mem_cons_of_mem _ (ih h)
theorem XcK.at_ {l : XcL} {T : Tab} {D : String} (x : XcK l K mg D) (e : T.xc = xcF l) : XcAt T K mg D := by
  refine ⟨x.1, fun c hc => ?_⟩
  rw [e] at hc ⊢
  unfold xcF at hc ⊢
  cases hl : l.lookup c with
  | none => rw [hl] at hc; cases hc
  | some ns => exact x.2 (c, ns) (look_mem hl)
end
section
variable {X : Cx} {W : WX} {T : Tab} {cal mkc : Cal} {ea : Ex} {k : Nat} {p pos lpos : Pos}
end
end EV
namespace EV
open PySem PySem.Spec PyProof.Rows L2
def smB (K : PySem.W.Frag) : Bool := match K.lookup sysModules with
  | some ⟨.type c, _, _, _⟩ => decide (c = "dict")
  | _ => false
theorem smB_ok {K : PySem.W.Frag} {h : Heap} (q : smB K = true) (X : K.In h) : ∃ o, h.get? sysModules = some o ∧ o.cls = .type "dict" := by
  unfold smB at q
  split at q
  · rename_i c d dt sl e
    have := of_decide_eq_true q
    subst this
    exact ⟨_, X _ _ e, rfl⟩
  · cases q
mutual
def toQ : Val → Option PyData
  | .non => some .none
  | .bl b => some (.bool b)
  | .int i => some (.int i)
  | .str l => some (.str (toS l))
  | .lst xs => (toQs xs).map .list
  | .tup xs => (toQs xs).map .tuple
  | .dct [] => some (.dict [])
  | .dct [(.str k, .int i)] => some (.dict [(.str (toS k), .int i)])
  | _ => none
def toQs : List Val → Option (List PyData)
  | [] => some []
  | x :: xs => (toQ x).bind fun d => (toQs xs).map (d :: ·)
end
theorem toQ_dct {kvs : List (Val × Val)} {d : PyData} (h : toQ (.dct kvs) = some d) : (kvs = [] ∧ d = .dict []) ∨ ∃ k i, kvs = [(.str k, .int i)] ∧ d = .dict [(.str (toS k), .int i)] := by
  unfold toQ at h
  split at h
  all_goals first
    | (rename_i e; cases e; done)
    | skip
  all_goals first
    | (cases h; done)
    | (rename_i e; cases e; cases h; exact .inl ⟨rfl, rfl⟩)
    | (rename_i k i e; cases e; cases h; exact .inr ⟨k, i, rfl, rfl⟩)
mutual
inductive Dq (K : PySem.W.Frag) (H : Hp) : V → PyData → Prop
  | non : Dq K H .non .none
  | bl (b : Bool) : Dq K H (.bl b) (.bool b)
  | int (i : Int) : Dq K H (.int i) (.int i)
  | str (x : Str) : Dq K H (.str x) (.str x)
  | lst {a : Addr} {xs : List V} {ds : List PyData} : SqL K H a xs → DqAll K H xs ds → Dq K H (.ref a) (.list ds)
  | tup {a : Addr} {xs : List V} {ds : List PyData} : SqT K H a xs → DqAll K H xs ds → Dq K H (.ref a) (.tuple ds)
  | dk {a : Addr} : L2.Rd H a (.dK []) → Dq K H (.ref a) (.dict [])
  | dt {a : Addr} : L2.Rd H a (.dT []) → Dq K H (.ref a) (.dict [])
  | dk1 {a : Addr} {x : Str} {i : Int} : L2.Rd H a (.dK [(.inr x, .int i)]) → Dq K H (.ref a) (.dict [(.str x, .int i)])
inductive DqAll (K : PySem.W.Frag) (H : Hp) : List V → List PyData → Prop
  | nil : DqAll K H [] []
  | cons {v : V} {vs : List V} {d : PyData} {ds : List PyData} : Dq K H v d → DqAll K H vs ds → DqAll K H (v :: vs) (d :: ds)
end
section
variable {K : PySem.W.Frag} {mg : Str → Option Value} {F H : Hp}
mutual
theorem Rep.dq (e : Ex' F H) : ∀ {x : V} {v : Val} {d : PyData}, Rep K mg F x v → toQ v = some d → Dq K H x d
  | _, _, _, .non, h => by simp only [toQ] at h; cases h; exact .non
  | _, _, _, .bl b, h => by simp only [toQ] at h; cases h; exact .bl b
  | _, _, _, .int i, h => by simp only [toQ] at h; cases h; exact .int i
  | _, _, _, .str l, h => by simp only [toQ] at h; cases h; exact .str _
  | _, .lst vs, d, .lst s r, h => by
    simp only [toQ] at h
    cases q : toQs vs with
    | none => rw [q] at h; cases h
    | some ds => rw [q] at h; cases h; exact .lst (.inl (.inl (e _ _ s))) (Reps.dq e r q)
  | _, .tup vs, d, .tup s r, h => by
    simp only [toQ] at h
    cases q : toQs vs with
    | none => rw [q] at h; cases h
    | some ds => rw [q] at h; cases h; exact .tup (.inl (.inl (e _ _ s))) (Reps.dq e r q)
  | _, .dct [], _, .dk s r, h => by
    simp only [toQ] at h
    cases h
    cases r
    exact .dk (.inr ⟨_, e _ _ s⟩)
  | _, .dct [], _, .dt s r, h => by
    simp only [toQ] at h
    cases h
    cases r
    exact .dt (.inr ⟨_, e _ _ s⟩)
  | _, .dct (p :: q), _, .dk s r, h => by
    rcases toQ_dct h with ⟨z, _⟩ | ⟨k, i, z, rfl⟩
    · cases z
    · cases z
      generalize hk : Val.str k = kv at r
      cases r with
      | cons hv hr =>
        rename_i key x ks
        cases hr
        cases hv
        cases key with
        | inl j => cases hk
        | inr y =>
          have e2 : toS k = y := by
            have hk : Val.str k = .str y.cps.toList := hk
            injection hk with hk
            rw [hk]; exact toS_back _
          rw [e2]
          exact .dk1 (.inr ⟨_, e _ _ s⟩)
  | _, .dct (p :: q), _, .dt s r, h => by
    rcases toQ_dct h with ⟨z, _⟩ | ⟨k, i, z, rfl⟩
    · cases z
    · cases z
      generalize hk : Val.str k = kv at r
      cases r with
      | cons hv hr => cases hk
  | _, _, _, .clo s r, h => by simp only [toQ] at h; cases h
  | _, _, _, .exo _ _ _, h => by simp only [toQ] at h; cases h
  | _, _, _, .exo0 _, h => by simp only [toQ] at h; cases h
  | _, _, _, .obj s r, h => by simp only [toQ] at h; cases h
  | _, _, _, .scr s, h => by simp only [toQ] at h; cases h
  | _, _, _, .wtp s, h => by simp only [toQ] at h; cases h
  | _, _, _, .cls c, h => by simp only [toQ] at h; cases h
theorem Reps.dq (e : Ex' F H) : ∀ {xs : List V} {vs : List Val} {ds : List PyData}, Reps K mg F xs vs → toQs vs = some ds → DqAll K H xs ds
  | _, _, _, .nil, h => by simp only [toQs] at h; cases h; exact .nil
  | _, v :: vs, ds, .cons a r, h => by
    simp only [toQs] at h
    cases q : toQ v with
    | none => rw [q] at h; cases h
    | some d =>
      rw [q] at h
      cases q2 : toQs vs with
      | none => rw [q2] at h; cases h
      | some es => rw [q2] at h; cases h; exact .cons (Rep.dq e a q) (Reps.dq e r q2)
end
end
section
variable {X : Cx} {pins : List (Addr × Obj)} {σ : L2.St} {H : Hp} {s : Shared}
theorem not_sm {a : Addr} {o : Obj} (sm : ∃ o, s.heap.get? sysModules = some o ∧ o.cls = .type "dict") (ho : s.heap.get? a = some o) (hc : o.cls ≠ .type "dict") : a ≠ sysModules := fun z => by
  obtain ⟨o2, h1, h2⟩ := sm
  rw [z, h1] at ho
  cases ho
  exact hc h2
mutual
theorem Dq.reads (I : L2.Inv X pins σ H s) (sm : ∃ o, s.heap.get? sysModules = some o ∧ o.cls = .type "dict") : ∀ (d : PyData) (v : V) (u : Value), Dq X.K H v d → RelV v u → ∃ as, Reads s.heap u d as ∧ sysModules ∉ as
  | .none, _, _, h, r => by
    cases h
    cases r
    exact ⟨_, Reads.none, by simp⟩
  | .bool b, _, _, h, r => by
    cases h
    cases r
    exact ⟨_, Reads.bool b, by simp⟩
  | .int i, _, _, h, r => by
    cases h
    obtain ⟨t, rfl⟩ := r
    exact ⟨_, Reads.int i t, by simp⟩
  | .str x, _, _, h, r => by
    cases h
    obtain ⟨t, rfl⟩ := r
    exact ⟨_, Reads.str x t, by simp⟩
  | .list ds, _, _, h, r => by
    cases h with
    | lst hs ha =>
      cases r
      obtain ⟨its, rv, ⟨o, n, ho, hc, _, hd⟩, _⟩ := I.list hs
      obtain ⟨as, hr, ns⟩ := Dq.readsAll I sm ds _ its ha rv
      exact ⟨_, Reads.list ho hc hd hr, fun z => (List.mem_cons.mp z).elim (fun z => not_sm sm ho (by rw [hc]; decide) z.symm) ns⟩
  | .tuple ds, _, _, h, r => by
    cases h with
    | tup hs ha =>
      cases r
      obtain ⟨its, rv, ⟨o, ho, hc, n, hd⟩, _⟩ := I.tuple hs
      obtain ⟨as, hr, ns⟩ := Dq.readsAll I sm ds _ its ha rv
      exact ⟨_, Reads.tuple ho hc hd hr, ns⟩
  | .dict kvs, _, _, h, r => by
    cases h with
    | @dk a hd =>
      cases r
      obtain ⟨_, lo, vs, kv, o, es, ep, ho, hx, hdt, _, ps, _⟩ := dk_rd I.hok hd
      cases kv
      have he : es.toList = [] := by
        generalize es.toList = l at ps
        cases ps
        rfl
      exact ⟨_, Reads.dict (kvs := []) ho hx.1 hdt (by rw [he]; exact .nil) (by rw [he]; exact .nil), fun z => by
        have z : sysModules = a := by simpa using z
        rw [← z] at lo
        exact absurd lo (by simp)⟩
    | @dt a hd =>
      cases r
      obtain ⟨_, lo, xs, pr, o, es, ep, ho, hx, hdt, hes, _⟩ := dt_rd I.hok hd
      cases pr
      have he : es.toList = [] := hes
      exact ⟨_, Reads.dict (kvs := []) ho hx.1 hdt (by rw [he]; exact .nil) (by rw [he]; exact .nil), fun z => by
        have z : sysModules = a := by simpa using z
        rw [← z] at lo
        exact absurd lo (by simp)⟩
    | @dk1 a x i hd =>
      cases r
      obtain ⟨_, lo, vs, kv, o, es, ep, ho, hx, hdt, _, ps, _⟩ := dk_rd I.hok hd
      have kv : Paired (fun (p : Key × V) (q : Key × Value) => p.1 = q.1 ∧ RelV p.2 q.2) [(.inr x, .int i)] vs := kv
      cases kv with
      | @cons _ q _ qs hq ht =>
        cases ht
        obtain ⟨qk, qv⟩ := q
        obtain ⟨h1, t, h2⟩ := hq
        have h1 : Sum.inr x = qk := h1
        have h2 : qv = Value.int i t := h2
        subst h1
        subst h2
        obtain ⟨en, he, hk, hv⟩ : ∃ en, es.toList = [en] ∧ keyIs (.inr x) en.key = true ∧ en.val = Value.int i t := by
          generalize es.toList = l at ps
          cases ps with
          | cons a b c =>
            cases c
            exact ⟨_, rfl, a, b⟩
        rcases keyIs_shape hk with ⟨_, _, z, _⟩ | ⟨y, u, z, ek⟩
        · cases z
        · cases z
          exact ⟨_, Reads.dict (kvs := [(.str x, .int i)]) ho hx.1 hdt (by rw [he, List.map_singleton, ek]; exact .cons (Reads.str x u) .nil) (by rw [he, List.map_singleton, hv]; exact .cons (Reads.int i t) .nil), fun z => by
            have z : sysModules = a := by simpa using z
            rw [← z] at lo
            exact absurd lo (by simp)⟩
theorem Dq.readsAll (I : L2.Inv X pins σ H s) (sm : ∃ o, s.heap.get? sysModules = some o ∧ o.cls = .type "dict") : ∀ (ds : List PyData) (vs : List V) (us : List Value), DqAll X.K H vs ds → Vals vs us → ∃ as, ReadsAll s.heap us ds as ∧ sysModules ∉ as
  | [], _, _, h, r => by
    cases h
    cases r
    exact ⟨_, ReadsAll.nil, by simp⟩
  | d :: ds, _, _, h, r => by
    cases h with
    | cons h1 h2 =>
      cases r with
      | cons r1 r2 =>
        obtain ⟨as, q1, n1⟩ := Dq.reads I sm d _ _ h1 r1
        obtain ⟨bs, q2, n2⟩ := Dq.readsAll I sm ds _ _ h2 r2
        exact ⟨_, ReadsAll.cons q1 q2, fun z => (List.mem_append.mp z).elim n1 n2⟩
end
end
mutual
def okQ : PyData → Bool
  | .none => true
  | .bool _ => true
  | .int i => decide (i.natAbs.log2 < 1920)
  | .str x => x.cps.toList.all fun c => decide (c < 16 ^ 8)
  | .list xs => okQs xs
  | .tuple xs => okQs xs
  | .dict [] => true
  | .dict [(.str x, .int i)] => (x.cps.toList.all fun c => decide (c < 16 ^ 8)) && decide (i.natAbs.log2 < 1920)
  | .dict _ => false
def okQs : List PyData → Bool
  | [] => true
  | x :: xs => okQ x && okQs xs
end
mutual
def costQ : PyData → Nat
  | .none | .bool _ => 5
  | .int _ => 1930
  | .str x => 10 * x.cps.size + 2
  | .list xs | .tuple xs => costQs xs + 3
  | .dict [(.str x, .int _)] => 10 * x.cps.size + 2000
  | .dict _ => 2
def costQs : List PyData → Nat
  | [] => 0
  | x :: xs => costQ x + 2 + costQs xs
end
theorem okQ_dct {kvs : List (PyData × PyData)} (h : okQ (.dict kvs) = true) : kvs = [] ∨ ∃ x i, kvs = [(.str x, .int i)] ∧ (∀ c ∈ x.cps.toList, c < 16 ^ 8) ∧ i.natAbs.log2 < 1920 := by
  unfold okQ at h
  split at h
  all_goals first
    | (rename_i e; cases e; done)
    | skip
  all_goals first
    | (cases h; done)
    | (rename_i e; cases e; exact .inl rfl)
    | (rename_i x i e; cases e; rw [Bool.and_eq_true, List.all_eq_true] at h; exact .inr ⟨x, i, rfl, fun c hc => of_decide_eq_true (h.1 c hc), of_decide_eq_true h.2⟩)
mutual
theorem okQ_showable : ∀ d : PyData, okQ d = true → d.showable = true
  | .none, _ => rfl
  | .bool _, _ => rfl
  | .int i, h => by simpa only [okQ, PyData.showable] using h
  | .str _, _ => rfl
  | .list xs, h => by
    have := okQs_showable xs (by simpa only [okQ] using h)
    simpa only [PyData.showable] using this
  | .tuple xs, h => by
    have := okQs_showable xs (by simpa only [okQ] using h)
    simpa only [PyData.showable] using this
  | .dict kvs, h => by
    rcases okQ_dct h with rfl | ⟨x, i, rfl, _, h2⟩
    · rfl
    · simp only [PyData.showable, PyData.showableKv, h2, decide_true, Bool.and_self]
theorem okQs_showable : ∀ xs : List PyData, okQs xs = true → PyData.showableAll xs = true
  | [], _ => rfl
  | x :: xs, h => by
    simp only [okQs, Bool.and_eq_true] at h
    simp only [PyData.showableAll, okQ_showable x h.1, okQs_showable xs h.2, Bool.and_self]
end
mutual
theorem shownQ : ∀ d : PyData, okQ d = true → d.shown.length ≤ costQ d
  | .none, _ => by
    have e : (PyData.shown .none).length = 4 := rfl
    simp only [costQ]; omega
  | .bool b, _ => by
    have e : (PyData.shown (.bool b)).length ≤ 5 := by cases b <;> decide
    simp only [costQ]; omega
  | .int i, h => by
    have h' : i.natAbs.log2 < 1920 := by simpa [okQ] using h
    have e := int_text_length_le (by decide) h'
    have e2 : (PyData.shown (.int i)).length = (toString i).length := by
      simp only [PyData.shown]
      exact PySem.ofString_length _
    simp only [costQ]; omega
  | .str x, h => by
    have h' : ∀ c ∈ x.cps.toList, c < 16 ^ 8 := by
      simp only [okQ, List.all_eq_true, decide_eq_true_eq] at h
      exact h
    have e := StrLaws.reprText_len x h'
    have e2 : x.length = x.cps.size := rfl
    simp only [PyData.shown, costQ]; omega
  | .list xs, h => by
    have h1 := shownQs xs (by simpa only [okQ] using h)
    have h2 := listText_len_le (PyData.shownAll xs)
    have h3 := PyData.shownAll_length xs
    simp only [PyData.shown, costQ]; omega
  | .tuple xs, h => by
    have h1 := shownQs xs (by simpa only [okQ] using h)
    have h2 := tupleText_len_le (PyData.shownAll xs)
    have h3 := PyData.shownAll_length xs
    simp only [PyData.shown, costQ]; omega
  | .dict kvs, h => by
    rcases okQ_dct h with rfl | ⟨x, i, rfl, h1, h2⟩
    · have e : (PyData.shown (.dict [])).length = 2 := rfl
      simp only [costQ]; omega
    · have e := StrLaws.reprText_len x h1
      have e2 : x.length = x.cps.size := rfl
      have e3 := int_text_length_le (by decide) h2
      have e4 : (PyData.shown (.int i)).length = (toString i).length := by
        simp only [PyData.shown]
        exact PySem.ofString_length _
      have e5 : (PyData.shown (.str x)).length = (reprText x).length := by simp only [PyData.shown]
      have e6 : (PyData.shown (.dict [(.str x, .int i)])).length = 1 + ((PyData.shown (.str x)).length + 2 + (PyData.shown (.int i)).length) + 1 := by
        simp only [PyData.shown, PyData.shownKv, dictText, Str.join, strLen_append]
        rfl
      simp only [costQ]; omega
theorem shownQs : ∀ xs : List PyData, okQs xs = true → ((PyData.shownAll xs).map (·.length)).sum + 2 * xs.length ≤ costQs xs
  | [], _ => by simp [PyData.shownAll, costQs]
  | x :: xs, h => by
    simp only [okQs, Bool.and_eq_true] at h
    have h1 := shownQ x h.1
    have h2 := shownQs xs h.2
    simp only [PyData.shownAll, costQs, List.map_cons, List.sum_cons, List.length_cons]
    omega
end
def reprQ (d : PyData) : Bool := okQ d && (decide (d.depth ≤ 60) && decide (costQ d ≤ 10000000))
def prmRd (vs : List Val) : Option Slot := match vs with
  | [v] => (match toQ v with
    | some d => if reprQ d then some (.fz (.str d.shown.cps.toList)) else none
    | none => none)
  | _ => none
def rReprQ (K : PySem.W.Frag) : List V → Hp → VK → Prop := fun xs H Q => ∃ x d, xs = [x] ∧ Dq K H x d ∧ reprQ d = true ∧ Q (.str d.shown) H
theorem call_reprQ {X : Cx} {k : Nat} (sm : smB X.K = true) (hg : X.A.guards = some []) (hr : Room k X.A) : CallR X (.builtin "repr") (rReprQ X.K) := by
  intro pins s σ H xs us Q I r h
  obtain ⟨x, d, rfl, hd, ok, q⟩ := h
  obtain ⟨u, rfl, ru⟩ := vals1 r
  simp only [reprQ, Bool.and_eq_true, decide_eq_true_eq] at ok
  obtain ⟨ok, dp, cs⟩ := ok
  have hz : d.shown.length ≤ sizeLine := by
    have := shownQ d ok
    rw [sizeLine_eq]; omega
  obtain ⟨as, rd, ns⟩ := Dq.reads I (smB_ok sm I.kIn) _ _ _ hd ru
  have o := okQ_showable _ ok
  have hu := hr.units
  cases hd with
  | non => cases ru; exact PySem.P.repr_of_none ⟨.str _, H, I.tok _, ⟨_, rfl⟩, q⟩
  | bl b => cases ru; exact PySem.P.repr_of_bool ⟨.str _, H, I.tok _, ⟨_, rfl⟩, by cases b <;> exact q⟩
  | int i =>
    obtain ⟨t, rfl⟩ := ru
    exact PySem.P.repr_of_int (by simpa [okQ] using ok) ⟨.str _, H, I.tok _, ⟨_, rfl⟩, q⟩
  | str y =>
    obtain ⟨t, rfl⟩ := ru
    exact PySem.P.repr_of_str ⟨.str _, H, I.tok _, ⟨_, rfl⟩, q⟩ hz
  | lst hs ha =>
    cases ru
    exact repr_of_reads' rd o (fun _ => ns) hg (by omega) (fun _ _ e => e) (fun h' u tk hk => ⟨.str _, H, I.kept hk, ⟨_, rfl⟩, q⟩) hz
  | tup hs ha =>
    cases ru
    exact repr_of_reads' rd o (fun _ => ns) hg (by omega) (fun _ _ e => e) (fun h' u tk hk => ⟨.str _, H, I.kept hk, ⟨_, rfl⟩, q⟩) hz
  | dk hs =>
    cases ru
    exact repr_of_reads' rd o (fun _ => ns) hg (by omega) (fun _ _ e => e) (fun h' u tk hk => ⟨.str _, H, I.kept hk, ⟨_, rfl⟩, q⟩) hz
  | dk1 hs =>
    cases ru
    exact repr_of_reads' rd o (fun _ => ns) hg (by omega) (fun _ _ e => e) (fun h' u tk hk => ⟨.str _, H, I.kept hk, ⟨_, rfl⟩, q⟩) hz
  | dt hs =>
    cases ru
    exact repr_of_reads' rd o (fun _ => ns) hg (by omega) (fun _ _ e => e) (fun h' u tk hk => ⟨.str _, H, I.kept hk, ⟨_, rfl⟩, q⟩) hz
section
variable {X : Cx} {W : WX} {T : Tab} {cal mkc : Cal} {e : Expr} {ea : Ex} {pos p : Pos} {k : Nat}
theorem sE_reprQ {n : String} (hT : T.prm n = some prmRd) (hs : ∀ z, ea ≠ .star z) (sm : smB X.K = true) (gd : X.A.guards = some []) (hr : Room k X.A) (hm : X.mg "repr" = none) (ha : PE X e (tE X.K X.mg W T cal mkc ea)) (hg : Gl X "repr" := by rfl)
    (he : starEach [e] X.env = (false, eval e X.env) :: starEach [] X.env := by rfl) (hpl : (backTo pos (starEach [] X.env)).any (·.1) = false := by rfl) :
    PE X (.Call (.Name "repr" p) [e] [] pos) (tE X.K X.mg W T cal mkc (.prim n [ea])) := by
  refine (pe_callB (call_reprQ sm gd hr) hg hm (by decide +kernel) (pa_cons (pe_fix ha) pa_nil he) (by decide) (by decide) he hpl).imp fun σ H Q q => ?_
  obtain ⟨G, Z, F, ρ, A, q⟩ := q
  rw [prim_1 hT hs] at q
  refine ⟨G, Z, F, ρ, A, (Aft.bnd q).imp fun F1 H1 ρ1 v A1 e1 q1 x rx => ?_⟩
  obtain ⟨r, hr, q2⟩ := q1.lift
  unfold prmRd at hr
  simp only at hr
  split at hr
  · rename_i d hd
    split at hr
    · rename_i hc
      cases hr
      refine ⟨x, d, rfl, rx.dq A1.sub hd, hc, ?_⟩
      have z := q2 F1 H1 A1 (Ex'.refl F1) (.str d.shown) (by
        have := Rep.str (K := X.K) (mg := X.mg) (F := F1) d.shown.cps.toList
        rw [toS_back] at this
        exact this)
      exact z
    · cases hr
  · cases hr
end
end EV
namespace EV
open PySem PySem.Spec PyProof.Rows L2 LamX GH
def rCntF (K : PySem.W.Frag) : V → List V → Hp → VK → Prop := fun x xs H Q => ∃ (p : Addr) (ys : List V) (y : V), x = .ref p ∧ xs = [y] ∧ SqL K H p ys ∧ flatV y = true ∧ ys.all flatV = true ∧ Q (.int (ys.countP fun z => eqV z y : Nat)) H
theorem count_flat {x : V} : ∀ {ys : List V} {us : List Value}, Vals ys us → ys.all flatV = true → us.countP (eqU x) = ys.countP fun z => eqV z x
  | _, _, .nil, _ => rfl
  | y :: ys, u :: us, .cons r t, f => by
    rw [List.all_cons, Bool.and_eq_true] at f
    rw [List.countP_cons, List.countP_cons, count_flat t f.2, eqU_of r f.1]
theorem mt_fcount {X : Cx} : MtR X "list.count" (rCntF X.K) := by
  intro pins s σ H x xs v us Q I rx rxs h
  obtain ⟨p, ys, y, rfl, rfl, hs, fy, fys, q⟩ := h
  cases rx
  cases rxs with
  | cons ry rt =>
    rename_i uy ut
    cases rt
    obtain ⟨its, rv, ⟨⟨cls, dd, data, sl⟩, n, ho, hc, hdn, hd⟩, hlen⟩ := I.list hs
    simp only at hc hd
    subst hc hd
    refine call_meets PySem.F.slot_list_count ⟨_, ho, rfl⟩ PySem.F.entry_list_count (PySem.F.args_list_count_2 _ _)
      (SeqAt.list_countAt p its.toArray n dd sl uy (eqU y)) ⟨ho, fun u' hu' => mem_eqAt ry fy rv fys u' (by simpa using hu'), ?_⟩
    have ec : its.toArray.toList.countP (eqU y) = ys.countP fun z => eqV z y := count_flat rv fys
    refine ⟨.int (ys.countP fun z => eqV z y : Nat), H, I.tok _, ⟨s.toks, ?_⟩, q⟩
    show Value.int ((its.toArray.toList.countP (eqU y) : Nat) : Int) s.toks = Value.int ((ys.countP fun z => eqV z y : Nat) : Int) s.toks
    rw [ec]
theorem mt_fcountK {X : Cx} {K : PySem.W.Frag} (h : X.K = K := by rfl) : MtR X "list.count" (rCntF K) := by subst h; exact mt_fcount
def excCB (K : PySem.W.Frag) (D : Addr) : Bool := He.eqO (PySem.W.findIn K (.ref D) "__getattribute__") (some (some (.builtin "BaseException.__getattribute__"))) && (He.eqO (PySem.W.findIn K (.ref D) "__getattr__") (some none) && (decide (PySem.W.subIn K (.ref D) (.type "BaseException") = some true) && (PySem.W.hasDictIn K D &&
  (He.eqO (PySem.W.findIn K (.ref D) "__class__") (some (some (.builtin "object.__class__"))) && (He.eqO (PySem.W.specialIn K (.builtin "object.__class__") "__get__") (some (some (.builtin "getset_descriptor.__get__"))) && (decide (PySem.W.takesIn K (.builtin "object.__class__") = some true) && decide (PySem.W.mroIn K D (.type "object") = some true)))))))
theorem excCB_ok {K : PySem.W.Frag} {D : Addr} (q : excCB K D = true) : ExcC K D := by
  obtain ⟨q1, q⟩ := He.ba q
  obtain ⟨q2, q⟩ := He.ba q
  obtain ⟨q3, q⟩ := He.ba q
  obtain ⟨q4, q⟩ := He.ba q
  obtain ⟨q5, q⟩ := He.ba q
  obtain ⟨q6, q⟩ := He.ba q
  obtain ⟨q7, q8⟩ := He.ba q
  exact ⟨He.eqO_ok q1, He.eqO_ok q2, of_decide_eq_true q3, q4, He.eqO_ok q5, He.eqO_ok q6, of_decide_eq_true q7, of_decide_eq_true q8⟩
end EV
namespace EV
open PySem PySem.Spec PyProof.Rows L2 HandSPX
section
variable {M : Model} {A : Around} {E : Value → Shared → Prop} {h : Heap} {g : Array GenState} {d : Drawn} {t : Nat} {os : OsState}
variable {nm q : Str} {C N : Addr} {bs bm bmB : List Value} {hdct : Bool} {sn : List Str} {sub : List Value} {ab : Bool} {col : Option Bool} {dd : Option Addr} {k0 k1 k2 k3 k5 : Option Value} {B newId initId : String} {kw : Str × Value}
theorem check_new_kw (F : ExcBaseFacts B newId initId bmB) (hT : ∀ X : String, bm.contains (.type X) = bmB.contains (.type X)) {Q : Unit → Shared → Prop}
    (hC : h.get? C = some (excClassObj nm q C N bs bm hdct sn sub ab col dd k0 k1 k2 k3 k5 newId)) (hq : Q () ⟨h, g, d, t, os⟩) : wpAny M A (checkBuiltinCall newId ⟨[.ref C], [kw]⟩) Q E ⟨h, g, d, t, os⟩ := by
  have hcont : (Value.ref C :: bm).contains (.type B) = true := by rw [List.contains_cons, hT, F.hasB, Bool.or_true]
  have hstar := F.noStar
  simp only [checkBuiltinCall, F.newKind, F.newSplit, F.newRow]
  repeat (first | refine wpAny_loadPart_at hC ?_ | (refine wpAny_isSubtype_exc hC ?_; rw [hcont]) | refine wpAny_staticBase_exc hC ?_ | refine wpAny_madeBy_exc hC ?_ | simp only [bne_self_eq_false, Bool.false_eq_true, if_false] | wp_step)
  exact hq
end
section
variable {prog : Program} {w : World} {A : Around} {E : Value → Shared → Prop} {R : Result → Shared → Prop} {h : Heap} {g : Array GenState} {d : Drawn} {t : Nat} {os : OsState}
variable {nm q : Str} {C N : Addr} {bs bm bmB : List Value} {hdct : Bool} {sn : List Str} {sub : List Value} {ab : Bool} {col : Option Bool} {dd : Option Addr} {k0 k1 k2 k3 k5 : Option Value} {B newId initId : String} {kw : Str × Value}
theorem new_kw (F : ExcBaseFacts B newId initId bmB) (hT : ∀ X : String, bm.contains (.type X) = bmB.contains (.type X))
    (hC : h.get? C = some (excClassObj nm q C N bs bm hdct sn sub ab col dd k0 k1 k2 k3 k5 newId))
    (hq : R (.ok (.ret (.ref (h.objs.size + 1)))) ⟨(h.push { cls := .type "tuple", data := .seq ([] : List Value).toArray }).push
      { cls := .ref C, data := .fields #[.ref h.objs.size, .none, .none, .none, .bool false, .none] }, g, d, t, os⟩) :
    codeAny (model prog w) A (.builtin newId ⟨[.ref C], [kw]⟩) R ⟨h, g, d, t, os⟩ := by
  have hends := F.ends
  have hrest : ([] : List Value).length ≤ sizeLine := by rw [sizeLine_eq]; simp
  have hcB : (Value.ref C :: bm).contains (.type B) = true := by rw [List.contains_cons, hT, F.hasB, Bool.or_true]
  have hcA : (Value.ref C :: bm).contains (.type "AttributeError") = false := by rw [List.contains_cons, hT, F.noAttr]; rfl
  have hcN : (Value.ref C :: bm).contains (.type "NameError") = false := by rw [List.contains_cons, hT, F.noName]; rfl
  refine codeAny_builtinAt F.entry ?_
  unfold Builtin.«BaseException.__new__»
  refine _root_.PySem.wpAt_bind ?_
  show _root_.PySem.wpAt _ _ _ (stack >>= _) _ _ _
  refine _root_.PySem.wpAt_bind (_root_.PySem.wpAt_stack fun p below => _root_.PySem.wpAt_of_wpAny ?_)
  wp_walk
  refine _root_.PySem.wpAt_of_wpAny ?_
  rw [F.owner]
  repeat (first | with_reducible refine wpAny_madeHere_exc F.canon hC ?_ | with_reducible refine wpAny_loadPart_at hC ?_ | (with_reducible refine wpAny_isSubtype_exc hC ?_; first | rw [hcB] | rw [hcA] | rw [hcN]) | wp_step)
  show R _ _
  rw [Heap.size_push]
  exact hq
theorem type_call_kw (F : ExcBaseFacts B newId initId bmB) (hT : ∀ X : String, bm.contains (.type X) = bmB.contains (.type X)) {fI : Addr} {Q : Fin → Shared → Prop}
    (hC : h.get? C = some (excClassObj nm q C N bs bm hdct sn sub ab col dd k0 k1 k2 k3 k5 newId))
    (hi : W.Looks (model prog w) h (typeLookup (.ref C) "__init__") (some (.ref fI))) (hb : ∀ self, W.Looks (model prog w) h (bindSpecial (.ref fI) self) (.ref fI, [self]))
    (hq : codeAny (model prog w) A (.call (.ref fI) ⟨[.ref (h.objs.size + 1)], [kw]⟩)
      (fun r s' => match r with | .ok (.ret v) => v = .none ∧ Q (.done (.ret (.ref (h.objs.size + 1)))) s' | .ok _ => False | .error e => E e s')
      ⟨(h.push (W.kdv_tup [])).push (excO C h.objs.size), g, d, t, os⟩) :
    wpAny (model prog w) A (Builtin.«type.__call__» ⟨[.ref C], [kw]⟩) Q E ⟨h, g, d, t, os⟩ := by
  repeat (first | with_reducible refine wpAny_loadPart_at hC ?_ | with_reducible refine wpAny_madeBy_exc hC ?_ | wp_step)
  refine codeAny_call_builtin_code (Code.quiet_builtin _ F.quiet) (check_new_kw F hT hC ?_)
  refine new_kw F hT hC ?_
  show wpAny _ _ _ _ _ _
  have k : ∀ b o, h.get? b = some o → ((h.push (W.kdv_tup [])).push (excO C h.objs.size)).get? b = some o := fun b o e => Heap.get?_push_of_some _ (Heap.get?_push_of_some _ e)
  have hC₁ := k _ _ hC
  have hget : ((h.push (W.kdv_tup [])).push (excO C h.objs.size)).get? (h.objs.size + 1) = some (excO C h.objs.size) := by heap_get
  have hcC : (Value.ref C :: bm).contains (.ref C) = true := by simp
  have i1 := hi.keeps k
  have b1 := (hb (.ref (h.objs.size + 1))).keeps k
  unfold isInstance
  repeat (first | with_reducible refine wpAny_loadPart_at hget ?_ | (with_reducible refine wpAny_isSubtype_exc hC₁ ?_; rw [hcC]) | wp_step)
  show wpAny _ _ (typeLookup (.ref C) _) _ _ _
  refine i1.at ?_
  refine wpAny_holding (wpAny_bind (b1.at ?_))
  refine wpAny_bind (wpAny_call (codeAny_mono hq fun r s' z => ?_))
  rcases r with e | (v | _ | _ | _) <;> first | exact z | exact z.elim | skip
  obtain ⟨rfl, z⟩ := z
  first
    | exact wpAny_pure (wpAny_pure z)
    | (wp_walk; exact z)
theorem check_call_kw {M : Model} {Q : Unit → Shared → Prop} (hC : h.get? C = some (excClassObj nm q C N bs bm hdct sn sub ab col dd k0 k1 k2 k3 k5 newId))
    (hq : Q () ⟨h, g, d, t, os⟩) : wpAny M A (checkBuiltinCall "type.__call__" ⟨[.ref C], [kw]⟩) Q E ⟨h, g, d, t, os⟩ := by
  have f3 := tc_sub
  have hT : (⟨h, g, d, t, os⟩ : Shared).TypeIs (.ref C) "type" := ⟨_, hC, rfl⟩
  simp only [checkBuiltinCall, tc_kind, tc_split]
  repeat (any_goals (first | assumption | with_reducible refine wpAny_loadPart_at hC ?_ | with_reducible refine wpAny_onRaise ?_ | with_reducible refine wpAny_map ?_ | wp_step))
theorem call_own_kw (F : ExcBaseFacts B newId initId bmB) (hT : ∀ X : String, bm.contains (.type X) = bmB.contains (.type X)) {fI : Addr}
    (hC : h.get? C = some (excClassObj nm q C N bs bm hdct sn sub ab col dd k0 k1 k2 k3 k5 newId))
    (hi : W.Looks (model prog w) h (typeLookup (.ref C) "__init__") (some (.ref fI))) (hb : ∀ self, W.Looks (model prog w) h (bindSpecial (.ref fI) self) (.ref fI, [self]))
    (hq : codeAny (model prog w) (A.under (.builtin "type.__call__" ⟨[.ref C], [kw]⟩)) (.call (.ref fI) ⟨[.ref (h.objs.size + 1)], [kw]⟩) (W.InitBack (h.objs.size + 1) R)
      ⟨(h.push (W.kdv_tup [])).push (excO C h.objs.size), g, d, t, os⟩) :
    codeAny (model prog w) A (.call (.ref C) ⟨[], [kw]⟩) R ⟨h, g, d, t, os⟩ := by
  have f1 := tc_lookup
  have f2 := tc_bind (.ref C)
  have hTy : (⟨h, g, d, t, os⟩ : Shared).TypeIs (.ref C) "type" := ⟨_, hC, rfl⟩
  refine codeAny_of_tree ?_
  show wpAny _ _ (callAny (.ref C) _) _ _ _
  repeat (any_goals (first | assumption | with_reducible refine wpAny_loadPart_at hC ?_ | wp_step))
  refine ⟨rfl, ?_⟩
  refine codeAny_call_builtin_at (Code.quiet_builtin _ (by decide +kernel)) entry_typeCall (check_call_kw hC (type_call_kw F hT hC hi hb ?_))
  refine codeAny_mono hq fun r s' z => ?_
  rcases r with e | (v | _ | _ | _) <;> exact z
end
end EV
namespace EV
open PySem PySem.Spec PyProof.Rows L2
def tMkX (C : Addr) (f : Str) (te : TE) : TE := fun σ H Q => te σ H fun y H1 => ∀ a dx, H1 a = none → H1 dx = none → dx ≠ a → Q (.ref a) (upd (upd H1 dx (exd dx [(f, y)])) a (exo a C (some dx)))
def tMk0 (C : Addr) : TE := fun σ H Q => ∀ a, H a = none → Q (.ref a) (upd H a (exo a C none))
def tMkK (C : Addr) (f : Str) (tk : TA) : TE := fun σ H Q => tk σ H fun ys H1 => ∃ y, ys = [y] ∧ ∀ a dx, H1 a = none → H1 dx = none → dx ≠ a → Q (.ref a) (upd (upd H1 dx (exd dx [(f, y)])) a (exo a C (some dx)))
theorem upd_swap {H1 : Hp} {a dx : Addr} {o o' d : HO} (ne : dx ≠ a) : upd (upd (upd H1 a o) dx d) a o' = upd (upd H1 dx d) a o' := by
  funext c
  by_cases c1 : c = a
  · rw [c1, upd_same, upd_same]
  · rw [upd_ne c1, upd_ne c1]
    by_cases c2 : c = dx
    · rw [c2, upd_same, upd_same]
    · rw [upd_ne c2, upd_ne c1, upd_ne c2]
section
variable {X : Cx} {C fI : Addr} {f : Str} {B newId initId : String} {tl : List Value}
theorem mkx1 {x : Str} {e : Expr} {te : TE} {p pos : Pos} (b : BaseE B newId initId tl) (T : OwnE X.K C newId tl) (iC : PySem.W.findIn X.K (.ref C) "__init__" = some (some (.ref fI))) (tI : PySem.W.typeIn X.K (.ref fI) = some (.type "function"))
    (run : InitRuns X C fI f) (hg : Gl X x) (hm : X.mg x = some (.ref C)) (he : PE X e te) (hdb : (x == ("__debug__" : Str)) = false := by decide)
    (hs : starEach [e] X.env = (false, eval e X.env) :: starEach [] X.env := by rfl) (hpl : (backTo pos (starEach [] X.env)).any (·.1) = false := by rfl) :
    PE X (.Call (.Name x p) [e] [] pos) (tMkX C f te) := by
  refine ⟨fun pins s σ H Q I h => ?_⟩
  obtain ⟨n1, q1, N1, bs1, bm1, sn1, su1, ab1, co1, dd1, k0, k1, k2, k3, k5, hC, hbm⟩ := T.at_
  refine wpAny_Call_Name_kw (ld_glob I hg hm ?_ hdb)
  refine PySem.W.callWith_K (h₀ := X.base) I.ok.mod.kin T.kp ?_ hs hpl
  rw [hs]
  show wpAny _ _ (spliced ((false, eval e X.env) :: backTo pos (starEach [] X.env))) _ _ s
  refine Calls.spliced_cons (thn (he.run pins s σ H _ I h) fun u s1 ⟨y, H1, I1, ru, q1⟩ => ?_)
  refine Calls.spliced_nil ⟨I1.kIn, ?_⟩
  show wpAny _ _ (call (.ref C) [u]) _ _ _
  obtain ⟨hp, g, dr, tk, os⟩ := s1
  have le : hp.objs.size ≤ hp.objs.size + 1 := Nat.le_succ _
  have n0 : H1 (hp.objs.size + 1) = none := I1.hok.fresh le
  have kk : ∀ c o, hp.get? c = some o → ((hp.push (PySem.W.kdv_tup [u])).push (PySem.HandSPX.excO C hp.objs.size)).get? c = some o := fun c o e => Heap.get?_push_of_some _ (Heap.get?_push_of_some _ e)
  have at1 : ((hp.push (PySem.W.kdv_tup [u])).push (PySem.HandSPX.excO C hp.objs.size)).get? (hp.objs.size + 1) = some (PySem.HandSPX.excO C hp.objs.size) := by heap_get
  have I2 := I1.laid (t' := tk) (a := hp.objs.size + 1) (o := exo (hp.objs.size + 1) C none) (h' := (hp.push (PySem.W.kdv_tup [u])).push (PySem.HandSPX.excO C hp.objs.size)) kk le (exo_ok at1)
  have hl : [u].length ≤ sizeLine := by
    rw [sizeLine_eq]
    simp
  refine wpAny_call (PySem.HandSPX.call_own b.bf (fun T => refsT_has T bm1 hbm) (I1.kIn _ _ hC) (PySem.W.looks_findIn I1.kIn iC) (fun self => PySem.W.bind_fn I1.kIn self tI) hl (codeAny_mono (run pins σ _ _ (hp.objs.size + 1) y u I2 upd_same ru) fun r s' z => ?_))
  cases r with
  | error er => exact z.elim
  | ok fl =>
    cases fl with
    | next => exact z.elim
    | brk => exact z.elim
    | cont => exact z.elim
    | ret w =>
      obtain ⟨v, H3, os3, ba3, un3, ok3, rv, ev, dx, nd, dne, eH⟩ := z
      subst ev
      subst eH
      have J := I2.call' (ch := []) os3 un3 ok3 ba3 (fun c z => absurd z (by simp))
      have nd1 : H1 dx = none := by rw [upd_ne dne] at nd; exact nd
      rw [upd_swap dne] at J
      exact ⟨rv, .ref _, _, J, rfl, q1 _ dx n0 nd1 dne⟩
def InitRunsK (X : Cx) (C fI : Addr) (f g : Str) : Prop := ∀ (pins : List (Addr × Obj)) (σ : L2.St) (s2 : Shared) (H2 : Hp) (a : Addr) (y : V) (u : Value), Inv X pins σ H2 s2 → H2 a = some (exo a C none) → RelV y u →
  codeAny (model X.prog X.w) (X.A.under (.builtin "type.__call__" ⟨[.ref C], [(g, u)]⟩)) (.call (.ref fI) ⟨[.ref a], [(g, u)]⟩) (CR C8.CX0 X.stack X.prog X.w H2 s2 (InitQ H2 a C f y) fun _ _ _ => False) s2
theorem runsK {g : Str} {fd : FuncData} {k : Nat} (F : FnOk X.prog X.w X.K X.mg X.base C8.CX0 k fI fd ["self", g] (spI C f)) (hb : ∀ (s : Shared) (a u : Value), BindsTo s fd ⟨[a], [(g, u)]⟩ ([("self" : Str), g].zip [a, u])) (hr : Room (k + 1) X.A) : InitRunsK X C fI f g := fun pins σ s2 H2 a y u I e ru =>
  F.run _ X.stack _ _ ⟨[.ref a], [(g, u)]⟩ [.ref a, u] [.ref a, y] _ _ (hr.make C [] [(g, u)]) (I.env0.make C [] [(g, u)]) (hb _ (.ref a) u) (.cons rfl (.cons ru .nil)) (spI_q e)
theorem mkxK {x g : Str} {kws : List Keyword} {tk : TA} {p pos : Pos} (b : BaseE B newId initId tl) (T : OwnE X.K C newId tl) (iC : PySem.W.findIn X.K (.ref C) "__init__" = some (some (.ref fI))) (tI : PySem.W.typeIn X.K (.ref fI) = some (.type "function"))
    (run : InitRunsK X C fI f g) (hg : Gl X x) (hm : X.mg x = some (.ref C)) (hkw : PK X kws tk) (hdb : (x == ("__debug__" : Str)) = false := by decide)
    (hall : (backToKw pos (keywordEach kws X.env)).all (·.1.isSome) = true := by rfl) (hks : (backToKw pos (keywordEach kws X.env)).filterMap (·.1) = [g] := by rfl)
    (hpl : ((backTo pos (starEach [] X.env)).any (·.1) || (backToKw pos (keywordEach kws X.env)).any (·.1.isNone)) = false := by rfl) :
    PE X (.Call (.Name x p) [] kws pos) (tMkK C f tk) := by
  refine ⟨fun pins s σ H Q I h => ?_⟩
  obtain ⟨n1, q1, N1, bs1, bm1, sn1, su1, ab1, co1, dd1, k0, k1, k2, k3, k5, hC, hbm⟩ := T.at_
  refine wpAny_Call_Name_kw (ld_glob I hg hm ?_ hdb)
  refine PySem.W.callWith_KW0 (h₀ := X.base) I.ok.mod.kin T.kp hall (thn (hkw.run pos pins s σ H _ I h) fun ws s1 ⟨zs, H1, I1, rz, y, ez, q1⟩ => ⟨I1.kIn, ?_⟩) hpl
  rw [hks]
  subst ez
  obtain ⟨u, rfl, ru⟩ := vals1 rz
  show wpAny _ _ (call (.ref C) [] [(g, u)]) _ _ _
  obtain ⟨hp, gg, dr, tk, os⟩ := s1
  have le : hp.objs.size ≤ hp.objs.size + 1 := Nat.le_succ _
  have n0 : H1 (hp.objs.size + 1) = none := I1.hok.fresh le
  have kk : ∀ c o, hp.get? c = some o → ((hp.push (PySem.W.kdv_tup [])).push (PySem.HandSPX.excO C hp.objs.size)).get? c = some o := fun c o e => Heap.get?_push_of_some _ (Heap.get?_push_of_some _ e)
  have at1 : ((hp.push (PySem.W.kdv_tup [])).push (PySem.HandSPX.excO C hp.objs.size)).get? (hp.objs.size + 1) = some (PySem.HandSPX.excO C hp.objs.size) := by heap_get
  have I2 := I1.laid (t' := tk) (a := hp.objs.size + 1) (o := exo (hp.objs.size + 1) C none) (h' := (hp.push (PySem.W.kdv_tup [])).push (PySem.HandSPX.excO C hp.objs.size)) kk le (exo_ok at1)
  refine wpAny_call (call_own_kw b.bf (fun T => refsT_has T bm1 hbm) (I1.kIn _ _ hC) (PySem.W.looks_findIn I1.kIn iC) (fun self => PySem.W.bind_fn I1.kIn self tI) (codeAny_mono (run pins σ _ _ (hp.objs.size + 1) y u I2 upd_same ru) fun r s' z => ?_))
  cases r with
  | error er => exact z.elim
  | ok fl =>
    cases fl with
    | next => exact z.elim
    | brk => exact z.elim
    | cont => exact z.elim
    | ret w =>
      obtain ⟨v, H3, os3, ba3, un3, ok3, rv, ev, dx, nd, dne, eH⟩ := z
      subst ev
      subst eH
      have J := I2.call' (ch := []) os3 un3 ok3 ba3 (fun c z => absurd z (by simp))
      have nd1 : H1 dx = none := by rw [upd_ne dne] at nd; exact nd
      rw [upd_swap dne] at J
      exact ⟨rv, .ref _, _, J, rfl, q1 _ dx n0 nd1 dne⟩
theorem mkx0 {x : Str} {p pos : Pos} (b : BaseE B newId initId tl) (T : OwnE X.K C newId tl) (iC : PySem.W.findIn X.K (.ref C) "__init__" = some (some (.ref fI))) (tI : PySem.W.typeIn X.K (.ref fI) = some (.type "function"))
    (run : InitRuns0 X C fI) (hg : Gl X x) (hm : X.mg x = some (.ref C)) (hdb : (x == ("__debug__" : Str)) = false := by decide) : PE X (.Call (.Name x p) [] [] pos) (tMk0 C) := by
  refine ⟨fun pins s σ H1 Q I1 q1 => ?_⟩
  obtain ⟨n1, m1, N1, bs1, bm1, sn1, su1, ab1, co1, dd1, k0, k1, k2, k3, k5, hC, hbm⟩ := T.at_
  refine wpAny_Call_Name_kw (ld_glob I1 hg hm ?_ hdb)
  refine PySem.W.callWith_K0 I1.kIn T.kp ?_
  show wpAny _ _ (call (.ref C) []) _ _ _
  obtain ⟨hp, g, dr, tk, os⟩ := s
  have le : hp.objs.size ≤ hp.objs.size + 1 := Nat.le_succ _
  have n0 : H1 (hp.objs.size + 1) = none := I1.hok.fresh le
  have kk : ∀ c o, hp.get? c = some o → ((hp.push (PySem.W.kdv_tup [])).push (PySem.HandSPX.excO C hp.objs.size)).get? c = some o := fun c o e => Heap.get?_push_of_some _ (Heap.get?_push_of_some _ e)
  have at1 : ((hp.push (PySem.W.kdv_tup [])).push (PySem.HandSPX.excO C hp.objs.size)).get? (hp.objs.size + 1) = some (PySem.HandSPX.excO C hp.objs.size) := by heap_get
  have I2 := I1.laid (t' := tk) (a := hp.objs.size + 1) (o := exo (hp.objs.size + 1) C none) (h' := (hp.push (PySem.W.kdv_tup [])).push (PySem.HandSPX.excO C hp.objs.size)) kk le (exo_ok at1)
  refine wpAny_call (PySem.HandSPX.call_own b.bf (fun T => refsT_has T bm1 hbm) (I1.kIn _ _ hC) (PySem.W.looks_findIn I1.kIn iC) (fun self => PySem.W.bind_fn I1.kIn self tI) (rest := []) (by rw [sizeLine_eq]; simp) (codeAny_mono (run pins σ _ _ (hp.objs.size + 1) I2 upd_same) fun r s' z => ?_))
  cases r with
  | error er => exact z.elim
  | ok fl =>
    cases fl with
    | next => exact z.elim
    | brk => exact z.elim
    | cont => exact z.elim
    | ret w =>
      obtain ⟨v, H3, os3, ba3, un3, ok3, rv, ev, eH⟩ := z
      subst ev
      subst eH
      have J := I2.call' (ch := []) os3 un3 ok3 ba3 (fun c z => absurd z (by simp))
      exact ⟨rv, .ref _, _, J, rfl, q1 _ n0⟩
end
theorem exo_inst {P : Program} {w : World} {H : Hp} {h : Heap} {a C : Addr} {d : Option Addr} (ok : HOk P w H h) (e : H a = some (exo a C d)) (hd : ∀ dx, d = some dx → ∃ fs, H dx = some (exd dx fs)) : ∃ oe od, PySem.W.InstAt h a oe C od := by
  obtain ⟨t1, ho⟩ := exo_at ok e
  cases d with
  | none => exact ⟨_, none, ho, rfl, rfl, trivial⟩
  | some dx =>
    obtain ⟨fs, hx⟩ := hd dx rfl
    obtain ⟨⟨mA, hns, hr⟩, _⟩ := ok dx _ hx
    obtain ⟨od, h1, _⟩ := lookIn_ns hns
    exact ⟨_, some od, ho, rfl, rfl, h1⟩
def rIsO (K : PySem.W.Frag) : List V → Hp → VK → Prop := fun xs H Q => ∃ (a C : Addr) (d : Option Addr) (c : V) (cv : Value) (b : Bool), xs = [.ref a, c] ∧ H a = some (exo a C d) ∧ (∀ dx, d = some dx → ∃ fs, H dx = some (exd dx fs)) ∧ ExcC K C ∧ (∀ u, RelV c u → u = cv) ∧ PySem.W.kitOne K (.ref C) cv = some b ∧ Q (.bl b) H
theorem call_isO {X : Cx} : CallR X (.builtin "isinstance") (rIsO X.K) := by
  intro pins s σ H xs us Q I r h
  obtain ⟨a, D, d, c, cv, b, rfl, ea, hd, C, hcv, e, q⟩ := h
  cases r with
  | cons rx rr =>
    cases rr with
    | cons rt rr =>
      cases rr
      cases rx
      have ec := hcv _ rt
      subst ec
      obtain ⟨oe, od, J⟩ := exo_inst I.hok ea hd
      exact PySem.W.kia_one (PySem.W.kitx_exc (od := od) (by obtain ⟨cd, hc, _⟩ := PySem.W.any_some C.hd; rw [hc]; rfl) C.hg C.hk C.hs C.ha C.hn C.ht C.hm) I.kIn J e (fun z => nomatch z) fun tk => ⟨.bl b, H, I.kept (t' := tk) fun _ _ z => z, rfl, q⟩
def tXo (K : PySem.W.Frag) (n : Str) (te : TE) : TE := fun σ H Q => te σ H fun x H1 => ∃ (a C dx : Addr) (fs : List (Str × V)) (v : V), x = .ref a ∧ H1 a = some (exo a C (some dx)) ∧ H1 dx = some (exd dx fs) ∧ XfC K C ∧ PySem.W.findIn K (.ref C) n = some none ∧ fs.lookup n = some v ∧ Q v H1
theorem pe_xo {X : Cx} {e : Expr} {te : TE} {pos : Pos} {n : Str} (he : PE X e te) (hb : attributeBase e n X.env (eval e X.env) = eval e X.env := by rfl) : PE X (.Attribute e n pos) (tXo X.K n te) := by
  refine ⟨fun pins s σ H Q I h => ?_⟩
  refine attr_of hb (thn (he.run pins s σ H _ I h) fun u s1 hh => ?_)
  obtain ⟨x, H1, I1, rx, a, C, dx, fs, v, rfl, ea, ed, T, hno, l, q⟩ := hh
  obtain rfl : u = Value.ref a := rx
  obtain ⟨t1, ha⟩ := exo_at I1.hok ea
  obtain ⟨⟨mA, hns, hr⟩, _⟩ := I1.hok dx _ ed
  obtain ⟨od, ho, hl⟩ := lookIn_ns hns
  obtain ⟨u, hu, ru⟩ := RelO.some_of (v := v) (o := mA n) (by rw [← l]; exact hr n)
  have J : PySem.W.InstAt s1.heap a _ C (some od) := ⟨ha, rfl, rfl, ho⟩
  exact HandSPX.exc_get I1.kIn J T.ga T.gg T.exC (PySem.W.findObj_own T.hdC hno rfl (by rw [hl, hu])) (handed_of ru) ⟨v, H1, I1.tok _, ru, q⟩
def prmMk (c f : String) (vs : List Val) : Option Slot := match vs with
  | [v] => some (.fz (.exo c [(f, v)]))
  | _ => none
def prmM0 (c : String) (vs : List Val) : Option Slot := match vs with
  | [] => some (.fz (.exo c []))
  | _ => none
def prmIs (l : XcL) (D : String) (vs : List Val) : Option Slot := match vs with
  | [.exo c _] => if (xcF l c).isEmpty then none else some (.fz (.bl ((xcF l c).contains D)))
  | _ => none
def prmFd (l : XcL) (f : String) (vs : List Val) : Option Slot := match vs with
  | [.exo c fs] => if (xcF l c).isEmpty then none else (fs.lookup f).map .fz
  | _ => none
theorem prim_0 {T : Tab} {cal mkc : Cal} {n : String} {g : List Val → Option Slot} {ρ : Ro} (hT : T.prm n = some g) : evE T cal mkc (.prim n []) ρ = EV.lift (g []) ρ := by
  simp only [evE, evEs, hT, bnd_pur]
section
variable {X : Cx} {W : WX} {T : Tab} {cal mkc : Cal} {e : Expr} {ea eb : Ex} {p pos apos : Pos} {n : String}
theorem Abs.newX {K : PySem.W.Frag} {mg : Str → Option Value} {G Z F : Hp} {σ : L2.St} {H : Hp} {ρ : Ro} {c f : String} {y : V} {v : Val} {a dx : Addr} (A : Abs K mg G Z F σ H ρ) (ry : Rep K mg F y v) (ha : H a = none) (hd : H dx = none) (ne : dx ≠ a) :
    ∃ F', Abs K mg G Z F' σ (upd (upd H dx (exd dx [(Str.ofString f, y)])) a (exo a (GH.clsA mg (Str.ofString c)) (some dx))) ρ ∧ Ex' F F' ∧ Rep K mg F' (.ref a) (.exo c [(f, v)]) := by
  obtain ⟨A1, e1⟩ := A.newF (o := exd dx [(Str.ofString f, y)]) hd (fun ps z => by unfold exd at z; cases z)
  obtain ⟨A2, e2⟩ := A1.newF (p := a) (o := exo a (GH.clsA mg (Str.ofString c)) (some dx)) (by rw [upd_ne (Ne.symm ne)]; exact ha) (fun ps z => by unfold exo at z; cases z)
  exact ⟨_, A2, e1.trans e2, .exo upd_same (by rw [upd_ne ne, upd_same]) (.cons (ry.mono (e1.trans e2)) .nil)⟩
theorem sE_mkx {c f : String} {g qual : Str} {st : Stmt} (hT : T.prm n = some (prmMk c f)) (hs0 : ∀ z, ea ≠ .star z) (R : ErrAt X.K X.mg (Str.ofString c) (Str.ofString f) g qual st) (hr : Room 2 X.A)
    (hb : ∀ (kV doc pm : Value) (an : Option Addr) (cdv ct : Value) (us : List Value), us.length = 2 → bindArgs (PySem.W.fnOf "__init__" qual (defArgs st) (defBody st) (defScope st) .none kV doc pm an cdv ct) ⟨us, []⟩ = pure ([("self" : Str), g].zip us))
    (he : PE X e (tE X.K X.mg W T cal mkc ea)) (hg : Gl X (Str.ofString c) := by rfl) (hdb : (Str.ofString c == ("__debug__" : Str)) = false := by decide +kernel)
    (hs : starEach [e] X.env = (false, eval e X.env) :: starEach [] X.env := by rfl) (hpl : (backTo pos (starEach [] X.env)).any (·.1) = false := by rfl) :
    PE X (.Call (.Name (Str.ofString c) p) [e] [] pos) (tE X.K X.mg W T cal mkc (.prim n [ea])) := by
  obtain ⟨B, newId, initId, tl, fI, fd, b, hm, Ow, iC, tI, F1, hno⟩ := R.ex
  have FO : FnOk X.prog X.w X.K X.mg X.base C8.CX0 1 fI fd ["self", g] (spI (GH.clsA X.mg (Str.ofString c)) (Str.ofString f)) := init_ok F1 b Ow hno R.S R.bd R.g1 R.g2
  have run : InitRuns X (GH.clsA X.mg (Str.ofString c)) fI (Str.ofString f) := by
    obtain ⟨oc, od, kV, doc, pm, an, cdv, ct, osl, rfl, lk, hcd⟩ := F1.ex
    exact runs_calm FO (fun s us hl => .of_eq (hb kV doc pm an cdv ct us hl)) hr
  refine (mkx1 b Ow iC tI run hg hm (pe_fix he) hdb hs hpl).imp fun σ H Q q => ?_
  obtain ⟨G, Z, F, ρ, A, q⟩ := q
  rw [prim_1 hT hs0] at q
  refine ⟨G, Z, F, ρ, A, (Aft.bnd q).imp fun F1 H1 ρ1 v A1 e1 q1 x rx a dx ha hd ne => ?_⟩
  have q2 := q1.lift
  obtain ⟨r, hr, q2⟩ := q2
  cases hr
  obtain ⟨F', A', e', r'⟩ := A1.newX (c := c) (f := f) rx ha hd ne
  exact q2 F' _ A' e' _ r'
theorem sE_mkk {c f : String} {g qual : Str} {st : Stmt} {kpos : Pos} (hT : T.prm n = some (prmMk c f)) (hs0 : ∀ z, ea ≠ .star z) (R : ErrAt X.K X.mg (Str.ofString c) (Str.ofString f) g qual st) (hr : Room 2 X.A)
    (hb : ∀ (kV doc pm : Value) (an : Option Addr) (cdv ct : Value) (a u : Value), bindArgs (PySem.W.fnOf "__init__" qual (defArgs st) (defBody st) (defScope st) .none kV doc pm an cdv ct) ⟨[a], [(g, u)]⟩ = pure ([("self" : Str), g].zip [a, u]))
    (he : PE X e (tE X.K X.mg W T cal mkc ea)) (hg : Gl X (Str.ofString c) := by rfl) (hdb : (Str.ofString c == ("__debug__" : Str)) = false := by decide +kernel)
    (hall : (backToKw pos (keywordEach [⟨some g, e, kpos⟩] X.env)).all (·.1.isSome) = true := by rfl) (hks : (backToKw pos (keywordEach [⟨some g, e, kpos⟩] X.env)).filterMap (·.1) = [g] := by rfl)
    (hpl : ((backTo pos (starEach [] X.env)).any (·.1) || (backToKw pos (keywordEach [⟨some g, e, kpos⟩] X.env)).any (·.1.isNone)) = false := by rfl) :
    PE X (.Call (.Name (Str.ofString c) p) [] [⟨some g, e, kpos⟩] pos) (tE X.K X.mg W T cal mkc (.prim n [ea])) := by
  obtain ⟨B, newId, initId, tl, fI, fd, b, hm, Ow, iC, tI, F1, hno⟩ := R.ex
  have FO : FnOk X.prog X.w X.K X.mg X.base C8.CX0 1 fI fd ["self", g] (spI (GH.clsA X.mg (Str.ofString c)) (Str.ofString f)) := init_ok F1 b Ow hno R.S R.bd R.g1 R.g2
  have run : InitRunsK X (GH.clsA X.mg (Str.ofString c)) fI (Str.ofString f) g := by
    obtain ⟨oc, od, kV, doc, pm, an, cdv, ct, osl, rfl, lk, hcd⟩ := F1.ex
    exact runsK FO (fun s a u => .of_eq (hb kV doc pm an cdv ct a u)) hr
  refine (mkxK b Ow iC tI run hg hm (pk_cons (pe_fix he) pk_nil) hdb hall hks hpl).imp fun σ H Q q => ?_
  obtain ⟨G, Z, F, ρ, A, q⟩ := q
  rw [prim_1 hT hs0] at q
  refine ⟨G, Z, F, ρ, A, (Aft.bnd q).imp fun F1 H1 ρ1 v A1 e1 q1 x rx => ⟨x, rfl, fun a dx ha hd ne => ?_⟩⟩
  have q2 := q1.lift
  obtain ⟨r, hr, q2⟩ := q2
  cases hr
  obtain ⟨F', A', e', r'⟩ := A1.newX (c := c) (f := f) rx ha hd ne
  exact q2 F' _ A' e' _ r'
theorem sE_mk0 {c : String} {qual : Str} {st : Stmt} (hT : T.prm n = some (prmM0 c)) (R : ErrAt0 X.K X.mg (Str.ofString c) qual st) (hr : Room 2 X.A)
    (hb : ∀ (kV doc pm : Value) (an : Option Addr) (cdv ct : Value) (us : List Value), us.length = 1 → bindArgs (PySem.W.fnOf "__init__" qual (defArgs st) (defBody st) (defScope st) .none kV doc pm an cdv ct) ⟨us, []⟩ = pure ([("self" : Str)].zip us))
    (hg : Gl X (Str.ofString c) := by rfl) (hdb : (Str.ofString c == ("__debug__" : Str)) = false := by decide +kernel) : PE X (.Call (.Name (Str.ofString c) p) [] [] pos) (tE X.K X.mg W T cal mkc (.prim n [])) := by
  obtain ⟨B, newId, initId, tl, fI, fd, b, hm, Ow, iC, tI, F1⟩ := R.ex
  have FO : FnOk X.prog X.w X.K X.mg X.base C8.CX0 1 fI fd ["self"] spI0 := init_ok0 F1 R.S R.bd
  have run : InitRuns0 X (GH.clsA X.mg (Str.ofString c)) fI := by
    obtain ⟨oc, od, kV, doc, pm, an, cdv, ct, osl, rfl, lk, hcd⟩ := F1.ex
    exact fun pins σ s2 H2 a I e => FO.run _ X.stack _ _ ⟨[.ref a], []⟩ [.ref a] [.ref a] _ _ (hr.make _ [] []) (I.env0.make _ [] []) (.of_eq (hb kV doc pm an cdv ct [.ref a] rfl)) (.cons rfl .nil) ⟨a, rfl, rfl, rfl⟩
  refine (mkx0 b Ow iC tI run hg hm hdb).imp fun σ H Q q => ?_
  obtain ⟨G, Z, F, ρ, A, q⟩ := q
  rw [prim_0 hT] at q
  intro a ha
  have q2 := Aft.lift q
  obtain ⟨r, hr, q2⟩ := q2
  cases hr
  obtain ⟨A1, e1⟩ := A.newF (o := exo a (GH.clsA X.mg (Str.ofString c)) none) ha (fun ps z => by unfold exo at z; cases z)
  exact q2 _ _ A1 e1 _ (.exo0 upd_same)
end
end EV
namespace EV
open PySem PySem.Spec PyProof.Rows L2 GH
theorem xcF_mem {l : XcL} {c : String} (h : (xcF l c).isEmpty = false) : (c, xcF l c) ∈ l := by
  unfold xcF at h ⊢
  cases q : l.lookup c with
  | none => rw [q] at h; cases h
  | some ns => exact look_mem q
section
variable {X : Cx} {W : WX} {T : Tab} {cal mkc : Cal} {e b : Expr} {ea eb : Ex} {p pos apos : Pos} {n : String} {l : XcL}
theorem rep_exo {K : PySem.W.Frag} {mg : Str → Option Value} {F H : Hp} {x : V} {c : String} {fs : List (String × Val)} (e : Ex' F H) (r : Rep K mg F x (.exo c fs)) : ∃ a d, x = .ref a ∧ H a = some (exo a (clsA mg (Str.ofString c)) d) ∧ ∀ dx, d = some dx → ∃ fs, H dx = some (exd dx fs) := by
  cases r with
  | exo s d r => exact ⟨_, _, rfl, e _ _ s, fun dx z => by cases z; exact ⟨_, e _ _ d⟩⟩
  | exo0 s => exact ⟨_, _, rfl, e _ _ s, fun dx z => nomatch z⟩
theorem sE_isx {D : String} {cv : V} {ct : Value} (hT : T.prm n = some (prmIs l D)) (hs0 : ∀ z, ea ≠ .star z) (hk : ∀ p ∈ l, ExcC X.K (clsA X.mg (Str.ofString p.1)) ∧ PySem.W.kitOne X.K (.ref (clsA X.mg (Str.ofString p.1))) ct = some (p.2.contains D)) (hcv : ∀ u, RelV cv u → u = ct)
    (hb : PE X b (tC cv)) (hm : X.mg "isinstance" = none) (ha : PE X e (tE X.K X.mg W T cal mkc ea))
    (hg : Gl X "isinstance" := by rfl) (he : starEach [e, b] X.env = (false, eval e X.env) :: starEach [b] X.env := by rfl) (he2 : starEach [b] X.env = (false, eval b X.env) :: starEach [] X.env := by rfl) (hpl : (backTo pos (starEach [b] X.env)).any (·.1) = false := by rfl) :
    PE X (.Call (.Name "isinstance" p) [e, b] [] pos) (tE X.K X.mg W T cal mkc (.prim n [ea])) := by
  refine (pe_callB call_isO hg hm PyProof.Rows.boot_isinstance (pa_cons (pe_fix ha) (pa_cons hb pa_nil he2) he) (by decide) (by decide) he hpl).imp fun σ H Q q => ?_
  obtain ⟨G, Z, F, ρ, A, q⟩ := q
  rw [prim_1 hT hs0] at q
  refine ⟨G, Z, F, ρ, A, (Aft.bnd q).imp fun F1 H1 ρ1 v A1 e1 q1 x rx => ?_⟩
  obtain ⟨r, hr, q2⟩ := q1.lift
  unfold prmIs at hr
  split at hr
  · rename_i c fs hv
    cases hv
    split at hr
    · cases hr
    · rename_i hc
      cases hr
      have hc : (xcF l c).isEmpty = false := by simpa using hc
      obtain ⟨k1, k2⟩ := hk _ (xcF_mem hc)
      obtain ⟨a, d, rfl, h1, h2⟩ := rep_exo A1.sub rx
      exact ⟨a, _, d, cv, ct, _, rfl, h1, h2, k1, hcv, k2, q2 F1 H1 A1 (Ex'.refl F1) _ (.bl _)⟩
  · cases hr
theorem sE_xfl {f : String} (hT : T.prm n = some (prmFd l f)) (hs0 : ∀ z, ea ≠ .star z) (hk : ∀ p ∈ l, XfC X.K (clsA X.mg (Str.ofString p.1)) ∧ PySem.W.findIn X.K (.ref (clsA X.mg (Str.ofString p.1))) (Str.ofString f) = some none) (ha : PE X e (tE X.K X.mg W T cal mkc ea))
    (hb : attributeBase e (Str.ofString f) X.env (eval e X.env) = eval e X.env := by rfl) : PE X (.Attribute e (Str.ofString f) pos) (tE X.K X.mg W T cal mkc (.prim n [ea])) := by
  refine (pe_xo (pe_fix ha) hb).imp fun σ H Q q => ?_
  obtain ⟨G, Z, F, ρ, A, q⟩ := q
  rw [prim_1 hT hs0] at q
  refine ⟨G, Z, F, ρ, A, (Aft.bnd q).imp fun F1 H1 ρ1 v A1 e1 q1 x rx => ?_⟩
  obtain ⟨r, hr, q2⟩ := q1.lift
  unfold prmFd at hr
  split at hr
  · rename_i c fs hv
    cases hv
    split at hr
    · cases hr
    · rename_i hc
      obtain ⟨z, hz, rfl⟩ := Option.map_eq_some_iff.mp hr
      have hc : (xcF l c).isEmpty = false := by simpa using hc
      obtain ⟨k1, k2⟩ := hk _ (xcF_mem hc)
      cases rx with
      | exo s d r =>
        obtain ⟨y, hy, ry⟩ := repF_look r hz
        exact ⟨_, _, _, _, y, rfl, A1.sub _ _ s, A1.sub _ _ d, k1, k2, hy, q2 F1 H1 A1 (Ex'.refl F1) _ ry⟩
      | exo0 s => cases hz
  · cases hr
theorem reps_bl {K : PySem.W.Frag} {mg : Str → Option Value} {F : Hp} : ∀ {xs : List V} {vs : List Val} {bs : List Bool}, Reps K mg F xs vs → allB vs = some bs → xs = bs.map V.bl
  | _, _, _, .nil, h => by cases h; rfl
  | _, _, bs, .cons (x := x) (v := v) a r, h => by
    cases a with
    | bl b =>
      simp only [allB] at h
      obtain ⟨cs, h1, rfl⟩ := Option.map_eq_some_iff.mp h
      rw [List.map_cons, reps_bl r h1]
    | _ => simp only [allB] at h; cases h
def prmCb (vs : List Val) : Option Slot := match vs with
  | [.lst xs, .bl y] => (allB xs).map fun bs => .fz (.int (bs.countP (fun z => z == y) : Nat))
  | _ => none
theorem cnt_bl (bs : List Bool) (y : Bool) : ((bs.map V.bl).countP fun z => eqV z (.bl y)) = bs.countP fun z => z == y := by
  rw [List.countP_map]
  rfl
theorem sE_cnt {o : Expr} {eo : Ex} {y : Bool} (hT : T.prm n = some prmCb) (hs0 : ∀ z, eo ≠ .star z) (ho : PE X o (tE X.K X.mg W T cal mkc eo)) (ha : PE X e (tC (.bl y))) (hbase : attributeBase o ("count" : String) X.env (eval o X.env) = eval o X.env := by rfl)
    (hfew : ((backTo pos (starEach [e] X.env)).all (fun x => !x.1) && (backToKw pos (keywordEach [] X.env)).all (fun x => x.1.isSome) && decide ([e].length + ([] : List Keyword).length + (if ([] : List Keyword).isEmpty then 0 else 1) < 30)) = true := by rfl)
    (hline : (apos.endLine == pos.line) = true := by rfl) (hs : starEach [e] X.env = (false, eval e X.env) :: starEach [] X.env := by rfl) (hplain : (backTo pos (starEach [] X.env)).any (·.1) = false := by rfl) :
    PE X (.Call (.Attribute o ("count" : String) apos) [e] [] pos) (tE X.K X.mg W T cal mkc (.prim n [eo, .bl y])) := by
  refine (GH.pe_bmK (K := X.K) PySem.F.plainAttrs_list PySem.F.slot_list_count PySem.F.type_list_count (mt_fcountK (K := X.K)) (pe_fix ho) (pa_cons ha pa_nil hs) rfl hbase hfew hline hs hplain).imp fun σ H Q q => ?_
  obtain ⟨G, Z, F, ρ, A, q⟩ := q
  rw [prim_2 hT hs0 (fun z h => by cases h)] at q
  refine ⟨G, Z, F, ρ, A, (Aft.bnd q).imp fun F1 H1 ρ1 v A1 e1 q1 x rx => ?_⟩
  have e2 : EV.bnd (EV.bnd (evE T cal mkc (.bl y) ρ1) fixv) (fun w ρ2 => EV.lift (prmCb [v, w]) ρ2) = EV.lift (prmCb [v, .bl y]) ρ1 := by simp only [evE, bnd_pur, fixv]
  rw [e2] at q1
  obtain ⟨r2, hr, q3⟩ := q1.lift
  unfold prmCb at hr
  split at hr
  · rename_i xs y' hv
    cases hv
    obtain ⟨bs, h1, rfl⟩ := Option.map_eq_some_iff.mp hr
    cases rx with
    | lst h r =>
      have := reps_bl r h1
      subst this
      refine ⟨.inl ⟨rfl, _, .inl (.inl (A1.sub _ _ h))⟩, _, _, .bl y, rfl, rfl, .inl (.inl (A1.sub _ _ h)), rfl, by rw [List.all_eq_true]; intro z hz; obtain ⟨b, _, rfl⟩ := List.mem_map.mp hz; rfl, ?_⟩
      rw [cnt_bl]
      exact q3 F1 H1 A1 (Ex'.refl F1) _ (.int _)
  · cases hr
end
structure BaseX (K : PySem.W.Frag) (mg : Str → Option Value) (c : String) : Prop where
  nm : mg (Str.ofString c) = some (.ref (clsA mg (Str.ofString c)))
  ex : ∃ B newId initId tl, ExcBaseFacts B newId initId tl ∧ PySem.W.excIn K (clsA mg (Str.ofString c)) tl newId = true
  kp : PySem.W.keepIn K (.ref (clsA mg (Str.ofString c))) = true
def bxB (c newId : String) (tl : List Value) (K : PySem.W.Frag) : Bool := (He.Fa.glo (Str.ofString c)).ok K && (PySem.W.excIn K (He.ga K (Str.ofString c)) tl newId && PySem.W.keepIn K (.ref (He.ga K (Str.ofString c))))
theorem bxB_ok {K : PySem.W.Frag} {mg : Str → Option Value} {h : Heap} {c B newId initId : String} {tl : List Value} (b : BaseE B newId initId tl) (X : K.In h) (G : h.Ns mainGlobals mg) (q : bxB c newId tl K = true) : BaseX K mg c := by
  obtain ⟨q0, q⟩ := He.ba q
  obtain ⟨q1, q2⟩ := He.ba q
  have e := clsA_of (He.glo_ok X G q0)
  refine ⟨?_, ⟨B, newId, initId, tl, b.bf, ?_⟩, ?_⟩
  · rw [e]; exact He.glo_ok X G q0
  · rw [e]; exact q1
  · rw [e]; exact q2
section
variable {X : Cx} {W : WX} {T : Tab} {cal mkc : Cal} {p pos : Pos} {n : String}
theorem laid_none {pins : List (Addr × Obj)} {σ : L2.St} {H : Hp} {s : Shared} {h' : Heap} {a : Addr} {o : HO} {t' : Nat} (I : Inv X pins σ H s) (k : ∀ b u, s.heap.get? b = some u → h'.get? b = some u) (hp : s.heap.get? a = none) (new : ObjOk X.prog X.w (upd H a o) h' a o) :
    Inv X pins σ (upd H a o) { s with heap := h', toks := t' } := by
  have hn : H a = none := I.hok.gone hp
  have ne : ∀ {b : Addr} {u : Obj}, s.heap.get? b = some u → b ≠ a := fun {b u} q z => by rw [z, hp] at q; cases q
  refine I.un ⟨fun b u q _ _ _ => k b u q, fun b u q _ _ _ => ⟨u.slots, k b u q⟩, fun b u q n _ => by rw [upd_ne (ne q)]; exact n, fun b u q _ => ⟨u, k b u q⟩, fun b xs q => by rw [upd_ne (ne_of_none q hn)]; exact q, fun b u xs q => by rw [upd_ne (ne_of_none q hn)]; exact q, fun b ps q => ⟨#[], by rw [upd_ne (ne_of_none q hn), q]; simp⟩⟩ fun b u e => ?_
  by_cases hb : b = a
  · subst hb; rw [upd_same] at e; cases e; exact new
  · rw [upd_ne hb] at e
    exact (I.hok b u e).stay (fun c v _ q => k c v q) (fun c q => by rw [upd_ne (ne_of_none q hn)]; exact q) fun c xs q => by rw [upd_ne (ne_of_none q hn)]; exact q
theorem sE_mkb {c : String} (hT : T.prm n = some (prmM0 c)) (B : BaseX X.K X.mg c) (hg : Gl X (Str.ofString c) := by rfl) (hdb : (Str.ofString c == ("__debug__" : Str)) = false := by decide +kernel) : PE X (.Call (.Name (Str.ofString c) p) [] [] pos) (tE X.K X.mg W T cal mkc (.prim n [])) := by
  have h0 : PE X (.Call (.Name (Str.ofString c) p) [] [] pos) (tMk0 (clsA X.mg (Str.ofString c))) := by
    refine ⟨fun pins s σ H Q I h => ?_⟩
    obtain ⟨B1, newId, initId, tl, bf, q⟩ := B.ex
    refine wpAny_Call_Name_kw (ld_glob I hg B.nm ?_ hdb)
    refine PySem.W.callWith_K0 I.kIn B.kp ?_
    show wpAny _ _ (call (.ref (clsA X.mg (Str.ofString c))) []) _ _ _
    obtain ⟨bm, N, nm, qn, bs, hdct, sn, sub, ab, col, dd, k0, k1, k2, k3, k5, mN, hC, hN, hni, T⟩ := exc_obj I.kIn q
    refine wpAny_call_exc_subT bf T hC hN hni (fun h' a hm => ?_) (by show 0 ≤ sizeLine; rw [sizeLine_eq]; omega)
    obtain ⟨t, ht, _⟩ := hm.there
    exact ⟨.ref a, _, laid_none (t' := s.toks) I hm.keeps hm.new (exo_ok ht), rfl, h a (I.hok.gone hm.new)⟩
  refine h0.imp fun σ H Q q => ?_
  obtain ⟨G, Z, F, ρ, A, q⟩ := q
  rw [prim_0 hT] at q
  intro a ha
  have q2 := Aft.lift q
  obtain ⟨r, hr, q2⟩ := q2
  cases hr
  obtain ⟨A1, e1⟩ := A.newF (o := exo a (GH.clsA X.mg (Str.ofString c)) none) ha (fun ps z => by unfold exo at z; cases z)
  exact q2 _ _ A1 e1 _ (.exo0 upd_same)
end
structure XoF (K : PySem.W.Frag) (mg : Str → Option Value) (l : XcL) (ds py fl : List String) : Prop where
  nm : ∀ D ∈ ds, mg (Str.ofString D) = some (.ref (clsA mg (Str.ofString D)))
  vn : ∀ t ∈ py, mg (Str.ofString t) = none
  is : ∀ D ∈ ds, ∀ p ∈ l, ExcC K (clsA mg (Str.ofString p.1)) ∧ PySem.W.kitOne K (.ref (clsA mg (Str.ofString p.1))) (.ref (clsA mg (Str.ofString D))) = some (p.2.contains D)
  ib : ∀ t ∈ py, ∀ p ∈ l, ExcC K (clsA mg (Str.ofString p.1)) ∧ PySem.W.kitOne K (.ref (clsA mg (Str.ofString p.1))) (.type t) = some (p.2.contains t)
  fd : ∀ f ∈ fl, ∀ p ∈ l, XfC K (clsA mg (Str.ofString p.1)) ∧ PySem.W.findIn K (.ref (clsA mg (Str.ofString p.1))) (Str.ofString f) = some none
def xoB (l : XcL) (ds py fl : List String) (K : PySem.W.Frag) : Bool := ds.all (fun D => (He.Fa.glo (Str.ofString D)).ok K) && (py.all (fun t => (He.Fa.free (Str.ofString t)).ok K) && l.all fun p => (He.Fa.glo (Str.ofString p.1)).ok K && (excCB K (He.ga K (Str.ofString p.1)) && (xfB K (He.ga K (Str.ofString p.1)) &&
  (ds.all (fun D => decide (PySem.W.kitOne K (.ref (He.ga K (Str.ofString p.1))) (.ref (He.ga K (Str.ofString D))) = some (p.2.contains D))) && (py.all (fun t => decide (PySem.W.kitOne K (.ref (He.ga K (Str.ofString p.1))) (.type t) = some (p.2.contains t))) && fl.all (fun f => He.eqO (PySem.W.findIn K (.ref (He.ga K (Str.ofString p.1))) (Str.ofString f)) (some none)))))))
theorem xoB_ok {K : PySem.W.Frag} {mg : Str → Option Value} {h : Heap} {l : XcL} {ds py fl : List String} (X : K.In h) (G : h.Ns mainGlobals mg) (q : xoB l ds py fl K = true) : XoF K mg l ds py fl := by
  obtain ⟨q0, q⟩ := He.ba q
  obtain ⟨qv, q⟩ := He.ba q
  have q0 := List.all_eq_true.mp q0
  have qv := List.all_eq_true.mp qv
  have q := List.all_eq_true.mp q
  have e0 : ∀ D ∈ ds, clsA mg (Str.ofString D) = He.ga K (Str.ofString D) := fun D hD => clsA_of (He.glo_ok X G (q0 D hD))
  have at_ : ∀ p ∈ l, clsA mg (Str.ofString p.1) = He.ga K (Str.ofString p.1) ∧ ExcC K (He.ga K (Str.ofString p.1)) ∧ XfC K (He.ga K (Str.ofString p.1)) ∧ (∀ D ∈ ds, PySem.W.kitOne K (.ref (He.ga K (Str.ofString p.1))) (.ref (He.ga K (Str.ofString D))) = some (p.2.contains D)) ∧
      (∀ t ∈ py, PySem.W.kitOne K (.ref (He.ga K (Str.ofString p.1))) (.type t) = some (p.2.contains t)) ∧ ∀ f ∈ fl, PySem.W.findIn K (.ref (He.ga K (Str.ofString p.1))) (Str.ofString f) = some none := fun p hp => by
    obtain ⟨r0, r⟩ := He.ba (q p hp)
    obtain ⟨r1, r⟩ := He.ba r
    obtain ⟨r2, r⟩ := He.ba r
    obtain ⟨r3, r⟩ := He.ba r
    obtain ⟨r4, r5⟩ := He.ba r
    exact ⟨clsA_of (He.glo_ok X G r0), excCB_ok r1, xfB_ok r2, fun D hD => of_decide_eq_true (List.all_eq_true.mp r3 D hD), fun t ht => of_decide_eq_true (List.all_eq_true.mp r4 t ht), fun f hf => He.eqO_ok (List.all_eq_true.mp r5 f hf)⟩
  refine ⟨fun D hD => by rw [e0 D hD]; exact He.glo_ok X G (q0 D hD), fun t ht => He.free_ok X G (qv t ht), fun D hD p hp => ?_, fun t ht p hp => ?_, fun f hf p hp => ?_⟩
  · obtain ⟨a0, a1, a2, a3, a4, a5⟩ := at_ p hp
    rw [a0, e0 D hD]
    exact ⟨a1, a3 D hD⟩
  · obtain ⟨a0, a1, a2, a3, a4, a5⟩ := at_ p hp
    rw [a0]
    exact ⟨a1, a4 t ht⟩
  · obtain ⟨a0, a1, a2, a3, a4, a5⟩ := at_ p hp
    rw [a0]
    exact ⟨a2, a5 f hf⟩
end EV
namespace GH
open PySem PySem.Spec PyProof.Rows L2
def top (i : Nat) : Stmt := PySem.Challenge.pw_guardhopes_k01_limits_and_errors.main.body.getD i (.Pass ⟨0, 0, 0, 0⟩)
abbrev s_InvalidText___init__ : Stmt := inClass (top 4) 0
theorem sc_InvalidText___init__ : FnScope ["self", "given"] ["self", "given"] (defScope s_InvalidText___init__) := ⟨rfl, rfl, rfl, by decide +kernel, rfl, by decide +kernel, by decide +kernel⟩
abbrev s_InvalidLetters___init__ : Stmt := inClass (top 5) 0
theorem sc_InvalidLetters___init__ : FnScope ["self", "given"] ["self", "given"] (defScope s_InvalidLetters___init__) := ⟨rfl, rfl, rfl, by decide +kernel, rfl, by decide +kernel, by decide +kernel⟩
abbrev s_InvalidWord___init__ : Stmt := inClass (top 6) 0
theorem sc_InvalidWord___init__ : FnScope ["self", "given"] ["self", "given"] (defScope s_InvalidWord___init__) := ⟨rfl, rfl, rfl, by decide +kernel, rfl, by decide +kernel, by decide +kernel⟩
abbrev s_InvalidLasso___init__ : Stmt := inClass (top 7) 0
theorem sc_InvalidLasso___init__ : FnScope ["self", "given"] ["self", "given"] (defScope s_InvalidLasso___init__) := ⟨rfl, rfl, rfl, by decide +kernel, rfl, by decide +kernel, by decide +kernel⟩
abbrev s_InvalidVerdict___init__ : Stmt := inClass (top 8) 0
theorem sc_InvalidVerdict___init__ : FnScope ["self", "given"] ["self", "given"] (defScope s_InvalidVerdict___init__) := ⟨rfl, rfl, rfl, by decide +kernel, rfl, by decide +kernel, by decide +kernel⟩
abbrev s_InvalidName___init__ : Stmt := inClass (top 9) 0
theorem sc_InvalidName___init__ : FnScope ["self", "given"] ["self", "given"] (defScope s_InvalidName___init__) := ⟨rfl, rfl, rfl, by decide +kernel, rfl, by decide +kernel, by decide +kernel⟩
abbrev s_InvalidChange___init__ : Stmt := inClass (top 10) 0
theorem sc_InvalidChange___init__ : FnScope ["self", "given"] ["self", "given"] (defScope s_InvalidChange___init__) := ⟨rfl, rfl, rfl, by decide +kernel, rfl, by decide +kernel, by decide +kernel⟩
abbrev s_InvalidDemand___init__ : Stmt := inClass (top 11) 0
theorem sc_InvalidDemand___init__ : FnScope ["self", "given"] ["self", "given"] (defScope s_InvalidDemand___init__) := ⟨rfl, rfl, rfl, by decide +kernel, rfl, by decide +kernel, by decide +kernel⟩
abbrev s_InvalidIndex___init__ : Stmt := inClass (top 12) 0
theorem sc_InvalidIndex___init__ : FnScope ["self", "given"] ["self", "given"] (defScope s_InvalidIndex___init__) := ⟨rfl, rfl, rfl, by decide +kernel, rfl, by decide +kernel, by decide +kernel⟩
abbrev s_NotAMachine___init__ : Stmt := inClass (top 13) 0
theorem sc_NotAMachine___init__ : FnScope ["self", "given"] ["self", "given"] (defScope s_NotAMachine___init__) := ⟨rfl, rfl, rfl, by decide +kernel, rfl, by decide +kernel, by decide +kernel⟩
abbrev s_OtherLetters___init__ : Stmt := inClass (top 14) 0
theorem sc_OtherLetters___init__ : FnScope ["self", "given"] ["self", "given"] (defScope s_OtherLetters___init__) := ⟨rfl, rfl, rfl, by decide +kernel, rfl, by decide +kernel, by decide +kernel⟩
abbrev s_InvalidStates___init__ : Stmt := inClass (top 15) 0
theorem sc_InvalidStates___init__ : FnScope ["self", "index"] ["self", "index"] (defScope s_InvalidStates___init__) := ⟨rfl, rfl, rfl, by decide +kernel, rfl, by decide +kernel, by decide +kernel⟩
abbrev s_InvalidChanges___init__ : Stmt := inClass (top 16) 0
theorem sc_InvalidChanges___init__ : FnScope ["self", "index"] ["self", "index"] (defScope s_InvalidChanges___init__) := ⟨rfl, rfl, rfl, by decide +kernel, rfl, by decide +kernel, by decide +kernel⟩
abbrev s_InvalidDemands___init__ : Stmt := inClass (top 17) 0
theorem sc_InvalidDemands___init__ : FnScope ["self", "index"] ["self", "index"] (defScope s_InvalidDemands___init__) := ⟨rfl, rfl, rfl, by decide +kernel, rfl, by decide +kernel, by decide +kernel⟩
abbrev s_UnknownName___init__ : Stmt := inClass (top 18) 0
theorem sc_UnknownName___init__ : FnScope ["self", "given"] ["self", "given"] (defScope s_UnknownName___init__) := ⟨rfl, rfl, rfl, by decide +kernel, rfl, by decide +kernel, by decide +kernel⟩
abbrev s_InUse___init__ : Stmt := inClass (top 19) 0
theorem sc_InUse___init__ : FnScope ["self", "index"] ["self", "index"] (defScope s_InUse___init__) := ⟨rfl, rfl, rfl, by decide +kernel, rfl, by decide +kernel, by decide +kernel⟩
abbrev s_NothingToUndo___init__ : Stmt := inClass (top 20) 0
theorem sc_NothingToUndo___init__ : FnScope ["self"] ["self"] (defScope s_NothingToUndo___init__) := ⟨rfl, rfl, rfl, by decide +kernel, rfl, by decide +kernel, by decide +kernel⟩
abbrev s_TooLong___init__ : Stmt := inClass (top 21) 0
theorem sc_TooLong___init__ : FnScope ["self", "most"] ["self", "most"] (defScope s_TooLong___init__) := ⟨rfl, rfl, rfl, by decide +kernel, rfl, by decide +kernel, by decide +kernel⟩
abbrev s_Broken___init__ : Stmt := inClass (top 22) 0
theorem sc_Broken___init__ : FnScope ["self", "index"] ["self", "index"] (defScope s_Broken___init__) := ⟨rfl, rfl, rfl, by decide +kernel, rfl, by decide +kernel, by decide +kernel⟩
abbrev s__law_bag : Stmt := top 30
theorem sc__law_bag : FnScope ["_law_script", "_law_turn", "_law_figure", "_law_seed", "_law_each"] ["_law_script", "_law_turn"] (defScope s__law_bag) := ⟨rfl, rfl, rfl, by decide +kernel, rfl, by decide +kernel, by decide +kernel⟩
abbrev s__law_take : Stmt := top 31
theorem sc__law_take : FnScope ["_law_bag_here", "_law_many", "_law_digit"] ["_law_bag_here", "_law_many"] (defScope s__law_take) := ⟨rfl, rfl, rfl, by decide +kernel, rfl, by decide +kernel, by decide +kernel⟩
abbrev s__law_sorts : Stmt := top 32
theorem sc__law_sorts : FnScope ["_law_e", "_law_found"] ["_law_e"] (defScope s__law_sorts) := ⟨rfl, rfl, rfl, by decide +kernel, rfl, by decide +kernel, by decide +kernel⟩
abbrev s__law_bases : Stmt := top 33
theorem sc__law_bases : FnScope ["_law_e", "_law_found"] ["_law_e"] (defScope s__law_bases) := ⟨rfl, rfl, rfl, by decide +kernel, rfl, by decide +kernel, by decide +kernel⟩
abbrev s__law_kind : Stmt := top 34
theorem sc__law_kind : FnScope ["_law_e", "_law_sorts_here", "_law_at", "_law_base", "_law_k"] ["_law_e"] (defScope s__law_kind) := ⟨rfl, rfl, rfl, by decide +kernel, rfl, by decide +kernel, by decide +kernel⟩
abbrev s__law_made : Stmt := top 35
theorem sc__law_made : FnScope ["_law_thing", "_law_found", "_law_some"] ["_law_thing"] (defScope s__law_made) := ⟨rfl, rfl, rfl, by decide +kernel, rfl, by decide +kernel, by decide +kernel⟩
abbrev s__law_kept : Stmt := top 36
theorem sc__law_kept : FnScope ["_law_e", "_law_at"] ["_law_e", "_law_at"] (defScope s__law_kept) := ⟨rfl, rfl, rfl, by decide +kernel, rfl, by decide +kernel, by decide +kernel⟩
abbrev s__law_right : Stmt := top 37
theorem sc__law_right : FnScope ["_law_bag_here", "_law_turn", "_law_menu", "_law_thing", "_law_some", "_law_at", "_law_e"] ["_law_bag_here"] (defScope s__law_right) := ⟨rfl, rfl, rfl, by decide +kernel, rfl, by decide +kernel, by decide +kernel⟩
abbrev s__law_quiet : Stmt := top 38
theorem sc__law_quiet : FnScope ["_law_bag_here", "_law_is_right"] ["_law_bag_here"] (defScope s__law_quiet) := ⟨rfl, rfl, rfl, by decide +kernel, rfl, by decide +kernel, by decide +kernel⟩
abbrev s_law : Stmt := top 39
theorem sc_law : FnScope ["_law_script", "_law_limits_here", "_law_roots", "_law_at", "_law_k", "_law_turn"] ["_law_script"] (defScope s_law) := ⟨rfl, rfl, rfl, by decide +kernel, rfl, by decide +kernel, by decide +kernel⟩
def xcl : EV.XcL := [("InvalidText", ["InvalidText", "BadValue", "ValueError"]), ("InvalidLetters", ["InvalidLetters", "BadValue", "ValueError"]), ("InvalidWord", ["InvalidWord", "BadValue", "ValueError"]), ("InvalidLasso", ["InvalidLasso", "BadValue", "ValueError"]), ("InvalidVerdict", ["InvalidVerdict", "BadValue", "ValueError"]), ("InvalidName", ["InvalidName", "BadValue", "ValueError"]), ("InvalidChange", ["InvalidChange", "BadValue", "ValueError"]), ("InvalidDemand", ["InvalidDemand", "BadValue", "ValueError"]), ("InvalidIndex", ["InvalidIndex", "BadValue", "ValueError"]), ("NotAMachine", ["NotAMachine", "BadValue", "ValueError"]), ("OtherLetters", ["OtherLetters", "BadValue", "ValueError"]), ("InvalidStates", ["InvalidStates", "BadValue", "ValueError"]), ("InvalidChanges", ["InvalidChanges", "BadValue", "ValueError"]), ("InvalidDemands", ["InvalidDemands", "BadValue", "ValueError"]), ("UnknownName", ["UnknownName", "BadName", "LookupError"]), ("InUse", ["InUse", "BadName", "LookupError"]), ("NothingToUndo", ["NothingToUndo", "NoAnswer", "ArithmeticError"]), ("TooLong", ["TooLong", "NoAnswer", "ArithmeticError"]), ("Broken", ["Broken", "NoAnswer", "ArithmeticError"]), ("BadValue", ["BadValue", "ValueError"]), ("BadName", ["BadName", "LookupError"]), ("NoAnswer", ["NoAnswer", "ArithmeticError"])]
structure Txt (K : PySem.W.Frag) (mg : Str → Option Value) : Prop where
  B : Blt mg
  d__law_bag : Def K mg "_law_bag" s__law_bag
  d__law_take : Def K mg "_law_take" s__law_take
  d__law_sorts : Def K mg "_law_sorts" s__law_sorts
  d__law_bases : Def K mg "_law_bases" s__law_bases
  d__law_kind : Def K mg "_law_kind" s__law_kind
  d__law_made : Def K mg "_law_made" s__law_made
  d__law_kept : Def K mg "_law_kept" s__law_kept
  d__law_right : Def K mg "_law_right" s__law_right
  d__law_quiet : Def K mg "_law_quiet" s__law_quiet
  d_law : Def K mg "law" s_law
  c_MOST_LETTERS : Cst mg "MOST_LETTERS" (.int 3)
  c_MOST_STATES : Cst mg "MOST_STATES" (.int 6)
  c_MOST_COLOUR : Cst mg "MOST_COLOUR" (.int 6)
  c_MOST_WORD : Cst mg "MOST_WORD" (.int 200)
  c_MOST_CHANGES : Cst mg "MOST_CHANGES" (.int 5)
  c_MOST_DEMANDS : Cst mg "MOST_DEMANDS" (.int 5)
  sm : EV.smB K = true
  e_InvalidText : EV.ErrAt K mg "InvalidText" "given" "given" "InvalidText.__init__" s_InvalidText___init__
  e_InvalidLetters : EV.ErrAt K mg "InvalidLetters" "given" "given" "InvalidLetters.__init__" s_InvalidLetters___init__
  e_InvalidWord : EV.ErrAt K mg "InvalidWord" "given" "given" "InvalidWord.__init__" s_InvalidWord___init__
  e_InvalidLasso : EV.ErrAt K mg "InvalidLasso" "given" "given" "InvalidLasso.__init__" s_InvalidLasso___init__
  e_InvalidVerdict : EV.ErrAt K mg "InvalidVerdict" "given" "given" "InvalidVerdict.__init__" s_InvalidVerdict___init__
  e_InvalidName : EV.ErrAt K mg "InvalidName" "given" "given" "InvalidName.__init__" s_InvalidName___init__
  e_InvalidChange : EV.ErrAt K mg "InvalidChange" "given" "given" "InvalidChange.__init__" s_InvalidChange___init__
  e_InvalidDemand : EV.ErrAt K mg "InvalidDemand" "given" "given" "InvalidDemand.__init__" s_InvalidDemand___init__
  e_InvalidIndex : EV.ErrAt K mg "InvalidIndex" "given" "given" "InvalidIndex.__init__" s_InvalidIndex___init__
  e_NotAMachine : EV.ErrAt K mg "NotAMachine" "given" "given" "NotAMachine.__init__" s_NotAMachine___init__
  e_OtherLetters : EV.ErrAt K mg "OtherLetters" "given" "given" "OtherLetters.__init__" s_OtherLetters___init__
  e_InvalidStates : EV.ErrAt K mg "InvalidStates" "index" "index" "InvalidStates.__init__" s_InvalidStates___init__
  e_InvalidChanges : EV.ErrAt K mg "InvalidChanges" "index" "index" "InvalidChanges.__init__" s_InvalidChanges___init__
  e_InvalidDemands : EV.ErrAt K mg "InvalidDemands" "index" "index" "InvalidDemands.__init__" s_InvalidDemands___init__
  e_UnknownName : EV.ErrAt K mg "UnknownName" "given" "given" "UnknownName.__init__" s_UnknownName___init__
  e_InUse : EV.ErrAt K mg "InUse" "index" "index" "InUse.__init__" s_InUse___init__
  e_NothingToUndo : EV.ErrAt0 K mg "NothingToUndo" "NothingToUndo.__init__" s_NothingToUndo___init__
  e_TooLong : EV.ErrAt K mg "TooLong" "most" "most" "TooLong.__init__" s_TooLong___init__
  e_Broken : EV.ErrAt K mg "Broken" "index" "index" "Broken.__init__" s_Broken___init__
  xo : EV.XoF K mg xcl ["InvalidText", "InvalidLetters", "InvalidWord", "InvalidLasso", "InvalidVerdict", "InvalidName", "InvalidChange", "InvalidDemand", "InvalidIndex", "NotAMachine", "OtherLetters", "InvalidStates", "InvalidChanges", "InvalidDemands", "UnknownName", "InUse", "NothingToUndo", "TooLong", "Broken", "BadValue", "BadName", "NoAnswer"] ["ValueError", "LookupError", "ArithmeticError"] ["given", "index", "most"]
  bx_BadValue : EV.BaseX K mg "BadValue"
  bx_BadName : EV.BaseX K mg "BadName"
  bx_NoAnswer : EV.BaseX K mg "NoAnswer"
end GH
namespace GH
open PySem PySem.Spec PyProof.Rows L2
def lawFa0 : List He.Fa := [.free "len", .free "all", .free "isinstance", .free "zip", .free "enumerate", .free "range", .free "max", .free "min", .free "abs", .free "divmod", .free "int", .free "str", .free "bool", .free "tuple", .free "list", .free "repr", .free "any", .free "sorted", .free "dict", .free "set"]
def lawFa1 : List He.Fa := [.glo "_law_bag", .glo "_law_take", .glo "_law_sorts", .glo "_law_bases", .glo "_law_kind", .glo "_law_made", .glo "_law_kept", .glo "_law_right", .glo "_law_quiet", .glo "law", .int "MOST_LETTERS" 3, .int "MOST_STATES" 6, .int "MOST_COLOUR" 6, .int "MOST_WORD" 200, .int "MOST_CHANGES" 5, .int "MOST_DEMANDS" 5, .glo "InvalidText", .glo "InvalidLetters", .glo "InvalidWord", .glo "InvalidLasso"]
def lawFa2 : List He.Fa := [.glo "InvalidVerdict", .glo "InvalidName", .glo "InvalidChange", .glo "InvalidDemand", .glo "InvalidIndex", .glo "NotAMachine", .glo "OtherLetters", .glo "InvalidStates", .glo "InvalidChanges", .glo "InvalidDemands", .glo "UnknownName", .glo "InUse", .glo "NothingToUndo", .glo "TooLong", .glo "Broken"]
def lawFa : List He.Fa := lawFa0 ++ lawFa1 ++ lawFa2
def lawDn0 : List Dn := [dnG "_law_bag" s__law_bag, dnG "_law_take" s__law_take, dnG "_law_sorts" s__law_sorts, dnG "_law_bases" s__law_bases, dnG "_law_kind" s__law_kind, dnG "_law_made" s__law_made, dnG "_law_kept" s__law_kept, dnG "_law_right" s__law_right, dnG "_law_quiet" s__law_quiet, dnG "law" s_law, dnM "InvalidText" "__init__" "InvalidText.__init__" s_InvalidText___init__, dnM "InvalidLetters" "__init__" "InvalidLetters.__init__" s_InvalidLetters___init__, dnM "InvalidWord" "__init__" "InvalidWord.__init__" s_InvalidWord___init__, dnM "InvalidLasso" "__init__" "InvalidLasso.__init__" s_InvalidLasso___init__, dnM "InvalidVerdict" "__init__" "InvalidVerdict.__init__" s_InvalidVerdict___init__, dnM "InvalidName" "__init__" "InvalidName.__init__" s_InvalidName___init__, dnM "InvalidChange" "__init__" "InvalidChange.__init__" s_InvalidChange___init__, dnM "InvalidDemand" "__init__" "InvalidDemand.__init__" s_InvalidDemand___init__, dnM "InvalidIndex" "__init__" "InvalidIndex.__init__" s_InvalidIndex___init__, dnM "NotAMachine" "__init__" "NotAMachine.__init__" s_NotAMachine___init__]
def lawDn1 : List Dn := [dnM "OtherLetters" "__init__" "OtherLetters.__init__" s_OtherLetters___init__, dnM "InvalidStates" "__init__" "InvalidStates.__init__" s_InvalidStates___init__, dnM "InvalidChanges" "__init__" "InvalidChanges.__init__" s_InvalidChanges___init__, dnM "InvalidDemands" "__init__" "InvalidDemands.__init__" s_InvalidDemands___init__, dnM "UnknownName" "__init__" "UnknownName.__init__" s_UnknownName___init__, dnM "InUse" "__init__" "InUse.__init__" s_InUse___init__, dnM "NothingToUndo" "__init__" "NothingToUndo.__init__" s_NothingToUndo___init__, dnM "TooLong" "__init__" "TooLong.__init__" s_TooLong___init__, dnM "Broken" "__init__" "Broken.__init__" s_Broken___init__]
def lawDn : List Dn := lawDn0 ++ lawDn1
def lawOut0 : List Str := ["BadValue", "BadName", "NoAnswer", "InvalidText", "InvalidLetters", "InvalidWord", "InvalidLasso", "InvalidVerdict", "InvalidName", "InvalidChange", "InvalidDemand", "InvalidIndex", "NotAMachine", "OtherLetters", "InvalidStates", "InvalidChanges", "InvalidDemands", "UnknownName", "InUse", "NothingToUndo"]
def lawOut1 : List Str := ["TooLong", "Broken", "MOST_LETTERS", "MOST_STATES", "MOST_COLOUR", "MOST_WORD", "MOST_CHANGES", "MOST_DEMANDS", "_law_bag", "_law_take", "_law_sorts", "_law_bases", "_law_kind", "_law_made", "_law_kept", "_law_right", "_law_quiet"]
def lawOut : List Str := lawOut0 ++ lawOut1
def lawEx (K : PySem.W.Frag) : Bool := facts lawFa K && EV.errB EV.bVE "InvalidText" "given" K && EV.errB EV.bVE "InvalidLetters" "given" K && EV.errB EV.bVE "InvalidWord" "given" K && EV.errB EV.bVE "InvalidLasso" "given" K && EV.errB EV.bVE "InvalidVerdict" "given" K && EV.errB EV.bVE "InvalidName" "given" K && EV.errB EV.bVE "InvalidChange" "given" K && EV.errB EV.bVE "InvalidDemand" "given" K && EV.errB EV.bVE "InvalidIndex" "given" K && EV.errB EV.bVE "NotAMachine" "given" K && EV.errB EV.bVE "OtherLetters" "given" K && EV.errB EV.bVE "InvalidStates" "index" K && EV.errB EV.bVE "InvalidChanges" "index" K && EV.errB EV.bVE "InvalidDemands" "index" K && EV.errB EV.bLE "UnknownName" "given" K && EV.errB EV.bLE "InUse" "index" K && EV.errB0 EV.bAE "NothingToUndo" K && EV.errB EV.bAE "TooLong" "most" K && EV.errB EV.bAE "Broken" "index" K && EV.xoB xcl ["InvalidText", "InvalidLetters", "InvalidWord", "InvalidLasso", "InvalidVerdict", "InvalidName", "InvalidChange", "InvalidDemand", "InvalidIndex", "NotAMachine", "OtherLetters", "InvalidStates", "InvalidChanges", "InvalidDemands", "UnknownName", "InUse", "NothingToUndo", "TooLong", "Broken", "BadValue", "BadName", "NoAnswer"] ["ValueError", "LookupError", "ArithmeticError"] ["given", "index", "most"] K && EV.bxB "BadValue" "ValueError.__new__" [.type "ValueError", .type "Exception", .type "BaseException", .type "object"] K && EV.bxB "BadName" "LookupError.__new__" [.type "LookupError", .type "Exception", .type "BaseException", .type "object"] K && EV.bxB "NoAnswer" "ArithmeticError.__new__" [.type "ArithmeticError", .type "Exception", .type "BaseException", .type "object"] K && EV.smB K
abbrev lawRow : PySem.W.OpenRow := PySem.W.OpenLaw.row PySem.Challenge.rw_guardhopes_k01_limits_and_errors
abbrev lawHook : PySem.W.Hook := hookR 1500 lawDn lawEx
def lawOb (s : PySem.W.SharedT) : He.Al := lookR 1500 lawDn lawEx (HandSHeadRun.getT s)
theorem lawOb_eq (s : PySem.W.SharedT) : lawOb s = lawHook.obs s.abs := lookR_eq (HandSHeadRun.getT_eq s)
section
open PySem.W PySem.Calls
theorem lawKe : opening lawRow.prog = plainProg lawRow.prog.main.scope.names := by kernel_rfl
theorem lawKd : defOf (PySem.W.view lawRow.prog [39]) lawRow.name = some (HandSHeadRun.topDef lawRow.prog 39, []) := by kernel_rfl
theorem lawKp : lawRow.prog.theDef lawRow.name = some ((HandSHeadRun.topDef lawRow.prog 39).params, (HandSHeadRun.topDef lawRow.prog 39).body, (HandSHeadRun.topDef lawRow.prog 39).scope) := by kernel_rfl
theorem lawKs : lawRow.wellSaid = true := by decide +kernel
theorem lawKok : (chainsOk (PySem.W.view lawRow.prog [39]) && opensWell lawRow.prog && (frees lawRow.toRowW && lawRow.within.isEmpty)) = true := by decide +kernel
theorem lawKb : lawRow.prog.bare := ⟨rfl, rfl, rfl, rfl, rfl, by decide +kernel⟩
theorem lawKw : lawRow.toRowW.promised := by w_witness2
end
theorem lawRun (w : World) : HandSHeadRun.RunEq lawRow (PySem.W.view lawRow.prog [39]) lawHook lawOb 9000 lawOut w := by
  intro os
  kernel_rfl
end GH
namespace EZ
open PySem PySem.Spec PyProof.Rows L2 RZ
section
variable {prog : Program} {w : World} {A : Around} {z TI TO i1 i2 l1 l2 : Addr} {xs ys : Array Value}
end
section
variable {X : Cx} {e e2 : Expr} {ta : TA} {p p2 p3 pos : Pos}
end
end EZ
namespace EV
open PySem PySem.Spec PyProof.Rows L2
section
variable {X : Cx} {p pos : Pos} {a : Expr} {te : TE}
inductive PrK (H : Hp) : List Addr → List (Key × V) → Prop
  | nil : PrK H [] []
  | cons {t : Addr} {k : Key} {v : V} {ts : List Addr} {r : List (Key × V)} : H t = some (.tup [kV k, v]) → PrK H ts r → PrK H (t :: ts) ((k, v) :: r)
inductive PrT (H : Hp) : List Addr → List (List Key × V) → Prop
  | nil : PrT H [] []
  | cons {t b : Addr} {k : List Key} {v : V} {ts : List Addr} {r : List (List Key × V)} : H t = some (.tup [.ref b, v]) → H b = some (.tup (k.map kV)) → PrT H ts r → PrT H (t :: ts) ((k, v) :: r)
theorem PrK.length {H : Hp} : ∀ {ts : List Addr} {r : List (Key × V)}, PrK H ts r → ts.length = r.length
  | _, _, .nil => rfl
  | _, _, .cons _ h => by rw [List.length_cons, List.length_cons, h.length]
theorem PrT.length {H : Hp} : ∀ {ts : List Addr} {r : List (List Key × V)}, PrT H ts r → ts.length = r.length
  | _, _, .nil => rfl
  | _, _, .cons _ _ h => by rw [List.length_cons, List.length_cons, h.length]
end
end EV
namespace EZ
open PySem L2
end EZ
namespace EV
open PySem PySem.Spec PyProof.Rows L2
section
variable {X : Cx} {W : WX} {T : Tab} {cal mkc : Cal} {a b c d e o : Expr} {ea eb ec ed ek : Ex} {pos p p2 p3 : Pos} {k kr : Nat}
end
end EV
namespace EV
open PySem PySem.Spec PyProof.Rows L2
section
variable {X : Cx} {pins : List (Addr × Obj)} {σ : L2.St} {H : Hp} {s : Shared} {d : Addr} {o : Obj}
end
section
variable {P : Program} {w : World} {K : PySem.W.Frag} {d : Addr} {o : Obj} {es : Array DictEntry} {ep : Nat}
end
section
variable {X : Cx} {e : Expr} {td : TE} {apos cpos : Pos}
end
section
variable {K : PySem.W.Frag} {mg : Str → Option Value} {F : Hp}
end
section
variable {X : Cx} {W : WX} {T : Tab} {cal mkc : Cal} {a b c e tg : Expr} {ea eb ec : Ex} {pos p : Pos} {kr : Nat}
end
end EV
namespace EV
open PySem PySem.Spec PyProof.Rows L2
section
variable {pr : List Nat} {X : Cx} {W : WX} {T : Tab} {cal mkc : Cal} {a b c e tg : Expr} {ea eb ec ek : Ex} {pos p : Pos} {kr : Nat}
end
end EV
namespace EV
open PySem PySem.Spec PyProof.Rows L2 GH
def ir__law_bag : EV.Def := ⟨["_law_script", "_law_turn"], 5, [false, false], [(.asg (.nm 2) (.ite (.cmp .lt (.v 1) (.blt .len [(.v 0)])) (.idx (.v 0) (.v 1)) (.bin .add (.bin .mul (.int 29) (.v 1)) (.int 8)))), (.asg (.nm 3) (.bin .add (.int 86028121) (.bin .mul (.int 34019) (.v 1)))), (.for_ (.nm 4) (.seq (.bin .add (.lst [(.v 2)]) (.slc (.v 0) none (some (.int 6))))) [(.asg (.nm 3) (.bin .mod (.blt .int [(.bin .add (.bin .mul (.v 3) (.int 43051)) (.v 4))]) (.int 2147483489)))]), (.ret (.lst [(.ite (.cmp .ge (.blt .abs [(.v 2)]) (.bin .pow (.int 10) (.int 18))) (.blt .abs [(.v 2)]) (.int 0)), (.v 3), (.int 0)]))]⟩
def ir__law_take : EV.Def := ⟨["_law_bag_here", "_law_many"], 3, [true, false], [(.ife (.cmp .gt (.idx (.v 0) (.int 0)) (.int 0)) [(.subp 0 (.int 0) 2 (.blt .divmod [(.idx (.v 0) (.int 0)), (.v 1)])), (.ret (.v 2))] []), (.sub 0 (.int 2) (.bin .add (.idx (.v 0) (.int 2)) (.int 1))), (.sub 0 (.int 1) (.bin .mod (.blt .int [(.bin .add (.bin .mul (.idx (.v 0) (.int 1)) (.int 40099)) (.bin .mul (.int 22003) (.idx (.v 0) (.int 2))))]) (.int 2147483489))), (.ret (.bin .mod (.blt .int [(.bin .fdiv (.idx (.v 0) (.int 1)) (.int 1024))]) (.v 1)))]⟩
def ir__law_sorts : EV.Def := ⟨["_law_e"], 2, [false], [(.asg (.nm 1) (.lst [(.prim "is_InvalidText" [(.v 0)]), (.prim "is_InvalidLetters" [(.v 0)]), (.prim "is_InvalidWord" [(.v 0)])])), (.asg (.nm 1) (.bin .add (.v 1) (.lst [(.prim "is_InvalidLasso" [(.v 0)]), (.prim "is_InvalidVerdict" [(.v 0)]), (.prim "is_InvalidName" [(.v 0)])]))), (.asg (.nm 1) (.bin .add (.v 1) (.lst [(.prim "is_InvalidChange" [(.v 0)]), (.prim "is_InvalidDemand" [(.v 0)]), (.prim "is_InvalidIndex" [(.v 0)])]))), (.asg (.nm 1) (.bin .add (.v 1) (.lst [(.prim "is_NotAMachine" [(.v 0)]), (.prim "is_OtherLetters" [(.v 0)]), (.prim "is_InvalidStates" [(.v 0)])]))), (.asg (.nm 1) (.bin .add (.v 1) (.lst [(.prim "is_InvalidChanges" [(.v 0)]), (.prim "is_InvalidDemands" [(.v 0)]), (.prim "is_UnknownName" [(.v 0)])]))), (.asg (.nm 1) (.bin .add (.v 1) (.lst [(.prim "is_InUse" [(.v 0)]), (.prim "is_NothingToUndo" [(.v 0)]), (.prim "is_TooLong" [(.v 0)])]))), (.ret (.bin .add (.v 1) (.lst [(.prim "is_Broken" [(.v 0)])])))]⟩
def ir__law_bases : EV.Def := ⟨["_law_e"], 2, [false], [(.asg (.nm 1) (.lst [(.prim "is_BadValue" [(.v 0)]), (.prim "is_BadName" [(.v 0)]), (.prim "is_NoAnswer" [(.v 0)])])), (.ret (.bin .add (.v 1) (.lst [(.prim "is_ValueError" [(.v 0)]), (.prim "is_LookupError" [(.v 0)]), (.prim "is_ArithmeticError" [(.v 0)])])))]⟩
def ir__law_kind : EV.Def := ⟨["_law_e"], 5, [false], [(.asg (.nm 1) (.call "_law_sorts" [(.v 0)] [])), (.ife (.cmp .ne (.prim "countb" [(.v 1), (.bl true)]) (.int 1)) [(.ret (.neg (.int 1)))] []), (.asg (.nm 2) (.bmt (.v 1) .lindex [(.bl true)])), (.asg (.nm 3) (.ite (.cmp .lt (.v 2) (.int 14)) (.int 0) (.ite (.cmp .lt (.v 2) (.int 16)) (.int 1) (.int 2)))), (.ret (.ite (.cmp .eq (.call "_law_bases" [(.v 0)] []) (.bin .mul (.lc [4] (.nm 4) (.rng (.int 3)) none (.cmp .eq (.v 4) (.v 3))) (.int 2))) (.v 2) (.neg (.int 1))))]⟩
def ir__law_made : EV.Def := ⟨["_law_thing"], 3, [false], [(.asg (.nm 1) (.lst [(.prim "mk_InvalidText" [(.v 0)]), (.prim "mk_InvalidLetters" [(.v 0)]), (.prim "mk_InvalidWord" [(.v 0)]), (.prim "mk_InvalidLasso" [(.v 0)]), (.prim "mk_InvalidVerdict" [(.v 0)])])), (.asg (.nm 1) (.bin .add (.v 1) (.lst [(.prim "mk_InvalidName" [(.v 0)]), (.prim "mk_InvalidChange" [(.v 0)]), (.prim "mk_InvalidDemand" [(.v 0)]), (.prim "mk_InvalidIndex" [(.v 0)])]))), (.asg (.nm 1) (.bin .add (.v 1) (.lst [(.prim "mk_NotAMachine" [(.v 0)]), (.prim "mk_OtherLetters" [(.v 0)]), (.prim "mk_InvalidStates" [(.v 0)]), (.prim "mk_InvalidChanges" [(.v 0)])]))), (.asg (.nm 1) (.bin .add (.v 1) (.lst [(.prim "mk_InvalidDemands" [(.v 0)]), (.prim "mk_UnknownName" [(.v 0)]), (.prim "mk_InUse" [(.v 0)]), (.prim "m0_NothingToUndo" []), (.prim "mk_TooLong" [(.v 0)])]))), (.asg (.nm 2) (.lst [(.prim "mk_InvalidText" [(.v 0)]), (.prim "mk_InvalidLetters" [(.v 0)]), (.prim "mk_InvalidWord" [(.v 0)]), (.prim "mk_InvalidLasso" [(.v 0)])])), (.asg (.nm 2) (.bin .add (.v 2) (.lst [(.prim "mk_InvalidVerdict" [(.v 0)]), (.prim "mk_InvalidName" [(.v 0)]), (.prim "mk_InvalidChange" [(.v 0)])]))), (.asg (.nm 2) (.bin .add (.v 2) (.lst [(.prim "mk_InvalidDemand" [(.v 0)]), (.prim "mk_InvalidIndex" [(.v 0)]), (.prim "mk_NotAMachine" [(.v 0)])]))), (.asg (.nm 2) (.bin .add (.v 2) (.lst [(.prim "mk_OtherLetters" [(.v 0)]), (.prim "mk_InvalidStates" [(.v 0)]), (.prim "mk_InvalidChanges" [(.v 0)])]))), (.asg (.nm 2) (.bin .add (.v 2) (.lst [(.prim "mk_InvalidDemands" [(.v 0)]), (.prim "mk_UnknownName" [(.v 0)]), (.prim "mk_InUse" [(.v 0)]), (.prim "m0_NothingToUndo" [])]))), (.ret (.lst [(.bin .add (.v 1) (.lst [(.prim "mk_Broken" [(.v 0)])])), (.bin .add (.v 2) (.lst [(.prim "mk_TooLong" [(.v 0)]), (.prim "mk_Broken" [(.v 0)])]))]))]⟩
def ir__law_kept : EV.Def := ⟨["_law_e", "_law_at"], 2, [false, false], [(.ife (.cmp .eq (.v 1) (.int 16)) [(.ret .non)] []), (.ife (.cmp .eq (.v 1) (.int 17)) [(.ret (.prim "xf_most" [(.v 0)]))] []), (.ret (.ite (.cmp .isin (.v 1) (.lst [(.int 11), (.int 12), (.int 13), (.int 15), (.int 18)])) (.prim "xf_index" [(.v 0)]) (.prim "xf_given" [(.v 0)])))]⟩
def ir__law_right : EV.Def := ⟨["_law_bag_here"], 7, [true], [(.for_ (.nm 1) (.rng (.int 3)) [(.asg (.nm 2) (.lst [.non, (.bl true), (.int 0), (.neg (.int 7)), (.bin .pow (.int 10) (.int 30)), (.str ""), (.str "a b"), (.tup []), (.tup [(.int 1), (.str "x")]), (.lst []), (.lst [.non]), (.dct [] []), (.dct [(.str "a")] [(.int 1)]), (.tup [(.str "b"), (.str "a")]), (.bl false)])), (.asg (.nm 3) (.idx (.v 2) (.call "_law_take" [(.v 0), (.int 15)] []))), (.for_ (.nm 4) (.seq (.call "_law_made" [(.v 3)] [])) [(.ife (.or (.cmp .ne (.blt .len [(.v 4)]) (.int 19)) (.cmp .ne (.lc [6] (.nm 6) (.seq (.v 4)) none (.call "_law_kind" [(.v 6)] [])) (.lrg (.int 19)))) [(.ret (.bl false))] []), (.for_ (.nm 5) (.rng (.int 19)) [(.ife (.cmp .ne (.prim "reprq" [(.call "_law_kept" [(.idx (.v 4) (.v 5)), (.v 5)] [])]) (.prim "reprq" [(.ite (.cmp .eq (.v 5) (.int 16)) .non (.v 3))])) [(.ret (.bl false))] [])])])]), (.ret (.bl true))]⟩
def ir__law_quiet : EV.Def := ⟨["_law_bag_here"], 2, [true], [(.tri [(.asg (.nm 1) (.call "_law_right" [(.v 0)] []))] [] none []), (.ret (.v 1))]⟩
def ir_law : EV.Def := ⟨["_law_script"], 6, [false], [(.asg (.nm 1) (.lst [(.g "MOST_LETTERS"), (.g "MOST_STATES"), (.g "MOST_COLOUR"), (.g "MOST_WORD"), (.g "MOST_CHANGES"), (.g "MOST_DEMANDS")])), (.ife (.cmp .ne (.prim "reprq" [(.v 1)]) (.prim "reprq" [(.lst [(.int 3), (.int 6), (.int 6), (.int 200), (.int 5), (.int 5)])])) [(.ret (.bl false))] []), (.asg (.nm 2) (.lst [(.prim "m0_BadValue" []), (.prim "m0_BadName" []), (.prim "m0_NoAnswer" [])])), (.for_ (.nm 3) (.rng (.int 3)) [(.ife (.or (.cmp .ne (.call "_law_bases" [(.idx (.v 2) (.v 3))] []) (.bin .mul (.lc [4] (.nm 4) (.rng (.int 3)) none (.cmp .eq (.v 4) (.v 3))) (.int 2))) (.cmp .isin (.bl true) (.call "_law_sorts" [(.idx (.v 2) (.v 3))] []))) [(.ret (.bl false))] [])]), (.ret (.blt .all [(.lc [5] (.nm 5) (.rng (.blt .max [(.int 2), (.blt .min [(.blt .len [(.v 0)]), (.int 4)])])) none (.call "_law_quiet" [(.call "_law_bag" [(.v 0), (.v 5)] [])] []))]))]⟩
def irs : List (String × EV.Def) := [("_law_bag", ir__law_bag), ("_law_take", ir__law_take), ("_law_sorts", ir__law_sorts), ("_law_bases", ir__law_bases), ("_law_kind", ir__law_kind), ("_law_made", ir__law_made), ("_law_kept", ir__law_kept), ("_law_right", ir__law_right), ("_law_quiet", ir__law_quiet), ("law", ir_law)]
def irc : List (String × Val) := [("MOST_LETTERS", .int 3), ("MOST_STATES", .int 6), ("MOST_COLOUR", .int 6), ("MOST_WORD", .int 200), ("MOST_CHANGES", .int 5), ("MOST_DEMANDS", .int 5)]
def irf : List (String × String) := []
def irp : List (String × (List Val → Option Slot)) := [("is_Broken", (prmIs xcl "Broken")), ("is_TooLong", (prmIs xcl "TooLong")), ("is_NothingToUndo", (prmIs xcl "NothingToUndo")), ("is_InUse", (prmIs xcl "InUse")), ("is_UnknownName", (prmIs xcl "UnknownName")), ("is_InvalidDemands", (prmIs xcl "InvalidDemands")), ("is_InvalidChanges", (prmIs xcl "InvalidChanges")), ("is_InvalidStates", (prmIs xcl "InvalidStates")), ("is_OtherLetters", (prmIs xcl "OtherLetters")), ("is_NotAMachine", (prmIs xcl "NotAMachine")), ("is_InvalidIndex", (prmIs xcl "InvalidIndex")), ("is_InvalidDemand", (prmIs xcl "InvalidDemand")), ("is_InvalidChange", (prmIs xcl "InvalidChange")), ("is_InvalidName", (prmIs xcl "InvalidName")), ("is_InvalidVerdict", (prmIs xcl "InvalidVerdict")), ("is_InvalidLasso", (prmIs xcl "InvalidLasso")), ("is_InvalidWord", (prmIs xcl "InvalidWord")), ("is_InvalidLetters", (prmIs xcl "InvalidLetters")), ("is_InvalidText", (prmIs xcl "InvalidText")), ("is_ArithmeticError", (prmIs xcl "ArithmeticError")), ("is_LookupError", (prmIs xcl "LookupError")), ("is_ValueError", (prmIs xcl "ValueError")), ("is_NoAnswer", (prmIs xcl "NoAnswer")), ("is_BadName", (prmIs xcl "BadName")), ("is_BadValue", (prmIs xcl "BadValue")), ("countb", prmCb), ("mk_Broken", (prmMk "Broken" "index")), ("mk_TooLong", (prmMk "TooLong" "most")), ("m0_NothingToUndo", (prmM0 "NothingToUndo")), ("mk_InUse", (prmMk "InUse" "index")), ("mk_UnknownName", (prmMk "UnknownName" "given")), ("mk_InvalidDemands", (prmMk "InvalidDemands" "index")), ("mk_InvalidChanges", (prmMk "InvalidChanges" "index")), ("mk_InvalidStates", (prmMk "InvalidStates" "index")), ("mk_OtherLetters", (prmMk "OtherLetters" "given")), ("mk_NotAMachine", (prmMk "NotAMachine" "given")), ("mk_InvalidIndex", (prmMk "InvalidIndex" "given")), ("mk_InvalidDemand", (prmMk "InvalidDemand" "given")), ("mk_InvalidChange", (prmMk "InvalidChange" "given")), ("mk_InvalidName", (prmMk "InvalidName" "given")), ("mk_InvalidVerdict", (prmMk "InvalidVerdict" "given")), ("mk_InvalidLasso", (prmMk "InvalidLasso" "given")), ("mk_InvalidWord", (prmMk "InvalidWord" "given")), ("mk_InvalidLetters", (prmMk "InvalidLetters" "given")), ("mk_InvalidText", (prmMk "InvalidText" "given")), ("xf_index", (prmFd xcl "index")), ("xf_given", (prmFd xcl "given")), ("xf_most", (prmFd xcl "most")), ("reprq", prmRd), ("m0_NoAnswer", (prmM0 "NoAnswer")), ("m0_BadName", (prmM0 "BadName")), ("m0_BadValue", (prmM0 "BadValue"))]
def irk : List (String × (Sum Val Exc → Option Slot)) := []
def tab : Tab := ⟨fun f => irs.lookup f, fun x => irc.lookup x, fun _ => none, fun c f => irf.contains (c, f), fun c p f => c == "Machine" && ((p == "letters" && f == "held_letters") || (p == "states" && f == "held_states")), fun c => c == "Machine", fun p => irp.lookup p, fun g => irk.lookup g, xcF xcl⟩
theorem tab_ext (f : String) : tab.ext f = none := rfl
theorem tp_is_Broken : tab.prm "is_Broken" = some (prmIs xcl "Broken") := by kernel_rfl
theorem tp_is_TooLong : tab.prm "is_TooLong" = some (prmIs xcl "TooLong") := by kernel_rfl
theorem tp_is_NothingToUndo : tab.prm "is_NothingToUndo" = some (prmIs xcl "NothingToUndo") := by kernel_rfl
theorem tp_is_InUse : tab.prm "is_InUse" = some (prmIs xcl "InUse") := by kernel_rfl
theorem tp_is_UnknownName : tab.prm "is_UnknownName" = some (prmIs xcl "UnknownName") := by kernel_rfl
theorem tp_is_InvalidDemands : tab.prm "is_InvalidDemands" = some (prmIs xcl "InvalidDemands") := by kernel_rfl
theorem tp_is_InvalidChanges : tab.prm "is_InvalidChanges" = some (prmIs xcl "InvalidChanges") := by kernel_rfl
theorem tp_is_InvalidStates : tab.prm "is_InvalidStates" = some (prmIs xcl "InvalidStates") := by kernel_rfl
theorem tp_is_OtherLetters : tab.prm "is_OtherLetters" = some (prmIs xcl "OtherLetters") := by kernel_rfl
theorem tp_is_NotAMachine : tab.prm "is_NotAMachine" = some (prmIs xcl "NotAMachine") := by kernel_rfl
theorem tp_is_InvalidIndex : tab.prm "is_InvalidIndex" = some (prmIs xcl "InvalidIndex") := by kernel_rfl
theorem tp_is_InvalidDemand : tab.prm "is_InvalidDemand" = some (prmIs xcl "InvalidDemand") := by kernel_rfl
theorem tp_is_InvalidChange : tab.prm "is_InvalidChange" = some (prmIs xcl "InvalidChange") := by kernel_rfl
theorem tp_is_InvalidName : tab.prm "is_InvalidName" = some (prmIs xcl "InvalidName") := by kernel_rfl
theorem tp_is_InvalidVerdict : tab.prm "is_InvalidVerdict" = some (prmIs xcl "InvalidVerdict") := by kernel_rfl
theorem tp_is_InvalidLasso : tab.prm "is_InvalidLasso" = some (prmIs xcl "InvalidLasso") := by kernel_rfl
theorem tp_is_InvalidWord : tab.prm "is_InvalidWord" = some (prmIs xcl "InvalidWord") := by kernel_rfl
theorem tp_is_InvalidLetters : tab.prm "is_InvalidLetters" = some (prmIs xcl "InvalidLetters") := by kernel_rfl
theorem tp_is_InvalidText : tab.prm "is_InvalidText" = some (prmIs xcl "InvalidText") := by kernel_rfl
theorem tp_is_ArithmeticError : tab.prm "is_ArithmeticError" = some (prmIs xcl "ArithmeticError") := by kernel_rfl
theorem tp_is_LookupError : tab.prm "is_LookupError" = some (prmIs xcl "LookupError") := by kernel_rfl
theorem tp_is_ValueError : tab.prm "is_ValueError" = some (prmIs xcl "ValueError") := by kernel_rfl
theorem tp_is_NoAnswer : tab.prm "is_NoAnswer" = some (prmIs xcl "NoAnswer") := by kernel_rfl
theorem tp_is_BadName : tab.prm "is_BadName" = some (prmIs xcl "BadName") := by kernel_rfl
theorem tp_is_BadValue : tab.prm "is_BadValue" = some (prmIs xcl "BadValue") := by kernel_rfl
theorem tp_countb : tab.prm "countb" = some prmCb := by kernel_rfl
theorem tp_mk_Broken : tab.prm "mk_Broken" = some (prmMk "Broken" "index") := by kernel_rfl
theorem tp_mk_TooLong : tab.prm "mk_TooLong" = some (prmMk "TooLong" "most") := by kernel_rfl
theorem tp_m0_NothingToUndo : tab.prm "m0_NothingToUndo" = some (prmM0 "NothingToUndo") := by kernel_rfl
theorem tp_mk_InUse : tab.prm "mk_InUse" = some (prmMk "InUse" "index") := by kernel_rfl
theorem tp_mk_UnknownName : tab.prm "mk_UnknownName" = some (prmMk "UnknownName" "given") := by kernel_rfl
theorem tp_mk_InvalidDemands : tab.prm "mk_InvalidDemands" = some (prmMk "InvalidDemands" "index") := by kernel_rfl
theorem tp_mk_InvalidChanges : tab.prm "mk_InvalidChanges" = some (prmMk "InvalidChanges" "index") := by kernel_rfl
theorem tp_mk_InvalidStates : tab.prm "mk_InvalidStates" = some (prmMk "InvalidStates" "index") := by kernel_rfl
theorem tp_mk_OtherLetters : tab.prm "mk_OtherLetters" = some (prmMk "OtherLetters" "given") := by kernel_rfl
theorem tp_mk_NotAMachine : tab.prm "mk_NotAMachine" = some (prmMk "NotAMachine" "given") := by kernel_rfl
theorem tp_mk_InvalidIndex : tab.prm "mk_InvalidIndex" = some (prmMk "InvalidIndex" "given") := by kernel_rfl
theorem tp_mk_InvalidDemand : tab.prm "mk_InvalidDemand" = some (prmMk "InvalidDemand" "given") := by kernel_rfl
theorem tp_mk_InvalidChange : tab.prm "mk_InvalidChange" = some (prmMk "InvalidChange" "given") := by kernel_rfl
theorem tp_mk_InvalidName : tab.prm "mk_InvalidName" = some (prmMk "InvalidName" "given") := by kernel_rfl
theorem tp_mk_InvalidVerdict : tab.prm "mk_InvalidVerdict" = some (prmMk "InvalidVerdict" "given") := by kernel_rfl
theorem tp_mk_InvalidLasso : tab.prm "mk_InvalidLasso" = some (prmMk "InvalidLasso" "given") := by kernel_rfl
theorem tp_mk_InvalidWord : tab.prm "mk_InvalidWord" = some (prmMk "InvalidWord" "given") := by kernel_rfl
theorem tp_mk_InvalidLetters : tab.prm "mk_InvalidLetters" = some (prmMk "InvalidLetters" "given") := by kernel_rfl
theorem tp_mk_InvalidText : tab.prm "mk_InvalidText" = some (prmMk "InvalidText" "given") := by kernel_rfl
theorem tp_xf_index : tab.prm "xf_index" = some (prmFd xcl "index") := by kernel_rfl
theorem tp_xf_given : tab.prm "xf_given" = some (prmFd xcl "given") := by kernel_rfl
theorem tp_xf_most : tab.prm "xf_most" = some (prmFd xcl "most") := by kernel_rfl
theorem tp_reprq : tab.prm "reprq" = some prmRd := by kernel_rfl
theorem tp_m0_NoAnswer : tab.prm "m0_NoAnswer" = some (prmM0 "NoAnswer") := by kernel_rfl
theorem tp_m0_BadName : tab.prm "m0_BadName" = some (prmM0 "BadName") := by kernel_rfl
theorem tp_m0_BadValue : tab.prm "m0_BadValue" = some (prmM0 "BadValue") := by kernel_rfl
theorem fn__law_bag : tab.fn "_law_bag" = some ir__law_bag := by kernel_rfl
theorem fn__law_take : tab.fn "_law_take" = some ir__law_take := by kernel_rfl
theorem fn__law_sorts : tab.fn "_law_sorts" = some ir__law_sorts := by kernel_rfl
theorem fn__law_bases : tab.fn "_law_bases" = some ir__law_bases := by kernel_rfl
theorem fn__law_kind : tab.fn "_law_kind" = some ir__law_kind := by kernel_rfl
theorem fn__law_made : tab.fn "_law_made" = some ir__law_made := by kernel_rfl
theorem fn__law_kept : tab.fn "_law_kept" = some ir__law_kept := by kernel_rfl
theorem fn__law_right : tab.fn "_law_right" = some ir__law_right := by kernel_rfl
theorem fn__law_quiet : tab.fn "_law_quiet" = some ir__law_quiet := by kernel_rfl
theorem fn_law : tab.fn "law" = some ir_law := by kernel_rfl
theorem tc_MOST_LETTERS : tab.cst "MOST_LETTERS" = some (.int 3) := by kernel_rfl
theorem tc_MOST_STATES : tab.cst "MOST_STATES" = some (.int 6) := by kernel_rfl
theorem tc_MOST_COLOUR : tab.cst "MOST_COLOUR" = some (.int 6) := by kernel_rfl
theorem tc_MOST_WORD : tab.cst "MOST_WORD" = some (.int 200) := by kernel_rfl
theorem tc_MOST_CHANGES : tab.cst "MOST_CHANGES" = some (.int 5) := by kernel_rfl
theorem tc_MOST_DEMANDS : tab.cst "MOST_DEMANDS" = some (.int 5) := by kernel_rfl
section
variable {P : Program} {w : World} {K : PySem.W.Frag} {mg : Str → Option Value} {base : Heap} {cal mkc : Cal} {k : Nat}
structure Good (P : Program) (w : World) (K : PySem.W.Frag) (mg : Str → Option Value) (base : Heap) (k : Nat) (cal : Cal) : Prop where
  f__law_bag : OkE P w K mg base k "_law_bag" "_law_bag" ["_law_script", "_law_turn"] cal
  f__law_take : OkE P w K mg base k "_law_take" "_law_take" ["_law_bag_here", "_law_many"] cal
  f__law_sorts : OkE P w K mg base k "_law_sorts" "_law_sorts" ["_law_e"] cal
  f__law_bases : OkE P w K mg base k "_law_bases" "_law_bases" ["_law_e"] cal
  f__law_kind : OkE P w K mg base k "_law_kind" "_law_kind" ["_law_e"] cal
  f__law_made : OkE P w K mg base k "_law_made" "_law_made" ["_law_thing"] cal
  f__law_kept : OkE P w K mg base k "_law_kept" "_law_kept" ["_law_e", "_law_at"] cal
  f__law_right : OkE P w K mg base k "_law_right" "_law_right" ["_law_bag_here"] cal
  f__law_quiet : OkE P w K mg base k "_law_quiet" "_law_quiet" ["_law_bag_here"] cal
  f_law : OkE P w K mg base k "law" "law" ["_law_script"] cal
theorem b__law_bag (T : Txt K mg) (C : Good P w K mg base (k + 2) cal) (M : Good P w K mg base (k + 1) mkc) (f : Addr) (cdv : Value) (lkx : LkX K mg "_law_bag" f cdv) (A : Around) (outer : List Env) (s : Shared) (H : Hp) (E : XK) (gd : A.guards = some []) (hr : Room (k + 2) (A.deeper (envOfC "_law_bag" (defScope s__law_bag) s.heap.objs.size f cdv))) :
    PSs (cxOf (EV.CXt P w) P w K mg base ["_law_script", "_law_turn", "_law_figure", "_law_seed", "_law_each"] "_law_bag" (defScope s__law_bag) f cdv A outer s H E) (defBody s__law_bag) (tSs (cxOf (EV.CXt P w) P w K mg base ["_law_script", "_law_turn", "_law_figure", "_law_seed", "_law_each"] "_law_bag" (defScope s__law_bag) f cdv A outer s H E) (fun c d _ H' => E c d H') tab cal mkc [] ir__law_bag.body) := by
  have tk : Takes (cxOf (EV.CXt P w) P w K mg base ["_law_script", "_law_turn", "_law_figure", "_law_seed", "_law_each"] "_law_bag" (defScope s__law_bag) f cdv A outer s H E) (fun c d _ H' => E c d H') := takes_of rfl rfl rfl rfl
  have po : PassesOwn (model P w) (cxOf (EV.CXt P w) P w K mg base ["_law_script", "_law_turn", "_law_figure", "_law_seed", "_law_each"] "_law_bag" (defScope s__law_bag) f cdv A outer s H E).A (cxOf (EV.CXt P w) P w K mg base ["_law_script", "_law_turn", "_law_figure", "_law_seed", "_law_each"] "_law_bag" (defScope s__law_bag) f cdv A outer s H E).env (cxOf (EV.CXt P w) P w K mg base ["_law_script", "_law_turn", "_law_figure", "_law_seed", "_law_each"] "_law_bag" (defScope s__law_bag) f cdv A outer s H E).xe := passes_of rfl
  exact (sSs_cons (sS_set (i := 2) (by decide) sc__law_bag.nd rfl (by first | exact .inl rfl | exact .inr rfl) (sE_ite (sT_cmp (o := .lt) hr (pe_place (pv 1)) (oE (b1 cr_len T.B.len_ PySem.boot_len (pe_place (pv 0)))) (nomark _)) (sE_idx hr (pe_place (pv 0)) (pe_place (pv 1)) (fun _ _ => rfl)) (sE_bin (o := .add) (oE (sE_bin (o := .mul) (oE cI) (pe_place (pv 1)))) (oE cI))))
      (sSs_cons (sS_set (i := 3) (by decide) sc__law_bag.nd rfl (by first | exact .inl rfl | exact .inr rfl) (sE_bin (o := .add) (oE cI) (oE (sE_bin (o := .mul) (oE cI) (pe_place (pv 1))))))
      (sSs_cons (sS_for (by decide) po rfl (sI_seq (sE_bin (o := .add) (oE (sE_lst (sA_cons (pe_name (pv 2)) sA_nil rfl nofun))) (oE (sE_slc (pe_place (pv 0)) sO_none (sO_some cI))))) (sG_name (i := 4) sc__law_bag.nd rfl (by first | exact .inl rfl | exact .inr rfl))
      (sSs_cons (sS_set (i := 3) (by decide) sc__law_bag.nd rfl (by first | exact .inl rfl | exact .inr rfl) (sE_bin (o := .mod) (oE (t1 cr_intF T.B.int_ PyProof.Rows.boot_int (oE (sE_bin (o := .add) (oE (sE_bin (o := .mul) (pe_place (pv 3)) (oE cI))) (pe_place (pv 4)))))) (oE cI)))
      sSs_nil))
      (sSs_cons (sS_ret (sE_lst (sA_cons (sE_ite (sT_cmp (o := .ge) hr (oE (b1 cr_absF T.B.abs_ PyProof.Rows.boot_abs (pe_place (pv 2)))) (oE (sE_bin (o := .pow) (oE cI) (oE cI))) (nomark _)) (b1 cr_absF T.B.abs_ PyProof.Rows.boot_abs (pe_place (pv 2))) cI) (sA_cons (pe_name (pv 3)) (sA_cons cI sA_nil rfl nofun) rfl nofun) rfl nofun)) nofun)
      sSs_nil))))
theorem b__law_take (T : Txt K mg) (C : Good P w K mg base (k + 2) cal) (M : Good P w K mg base (k + 1) mkc) (f : Addr) (cdv : Value) (lkx : LkX K mg "_law_take" f cdv) (A : Around) (outer : List Env) (s : Shared) (H : Hp) (E : XK) (gd : A.guards = some []) (hr : Room (k + 2) (A.deeper (envOfC "_law_take" (defScope s__law_take) s.heap.objs.size f cdv))) :
    PSs (cxOf (EV.CXt P w) P w K mg base ["_law_bag_here", "_law_many", "_law_digit"] "_law_take" (defScope s__law_take) f cdv A outer s H E) (defBody s__law_take) (tSs (cxOf (EV.CXt P w) P w K mg base ["_law_bag_here", "_law_many", "_law_digit"] "_law_take" (defScope s__law_take) f cdv A outer s H E) (fun c d _ H' => E c d H') tab cal mkc [0] ir__law_take.body) := by
  have tk : Takes (cxOf (EV.CXt P w) P w K mg base ["_law_bag_here", "_law_many", "_law_digit"] "_law_take" (defScope s__law_take) f cdv A outer s H E) (fun c d _ H' => E c d H') := takes_of rfl rfl rfl rfl
  have po : PassesOwn (model P w) (cxOf (EV.CXt P w) P w K mg base ["_law_bag_here", "_law_many", "_law_digit"] "_law_take" (defScope s__law_take) f cdv A outer s H E).A (cxOf (EV.CXt P w) P w K mg base ["_law_bag_here", "_law_many", "_law_digit"] "_law_take" (defScope s__law_take) f cdv A outer s H E).env (cxOf (EV.CXt P w) P w K mg base ["_law_bag_here", "_law_many", "_law_digit"] "_law_take" (defScope s__law_take) f cdv A outer s H E).xe := passes_of rfl
  exact (sSs_cons (sS_if (sT_cmp (o := .gt) hr (oE (sE_idx hr (pe_place (pv 0)) (oE cI) (fun _ _ => rfl))) (oE cI) (nomark _))
      (sSs_cons (sS_subp (l := 2) (by decide) rfl sc__law_take.nd rfl (by first | exact .inl rfl | exact .inr rfl) hr (pv 0) (oE cI) (b2 cr_divmodF T.B.divmod_ PyProof.Rows.boot_divmod (sA_cons (sE_idx hr (pe_place (pv 0)) (oE cI) (fun _ _ => rfl)) (sA_cons (pe_name (pv 1)) sA_nil rfl nofun) rfl nofun)))
      (sSs_cons (sS_retV (pv 2))
      sSs_nil))
      sSs_nil)
      (sSs_cons (sS_sub hr (pv 0) (oE cI) (sE_bin (o := .add) (oE (sE_idx hr (pe_place (pv 0)) (oE cI) (fun _ _ => rfl))) (oE cI)))
      (sSs_cons (sS_sub hr (pv 0) (oE cI) (sE_bin (o := .mod) (oE (t1 cr_intF T.B.int_ PyProof.Rows.boot_int (oE (sE_bin (o := .add) (oE (sE_bin (o := .mul) (oE (sE_idx hr (pe_place (pv 0)) (oE cI) (fun _ _ => rfl))) (oE cI))) (oE (sE_bin (o := .mul) (oE cI) (oE (sE_idx hr (pe_place (pv 0)) (oE cI) (fun _ _ => rfl))))))))) (oE cI)))
      (sSs_cons (sS_ret (sE_bin (o := .mod) (oE (t1 cr_intF T.B.int_ PyProof.Rows.boot_int (oE (sE_bin (o := .fdiv) (oE (sE_idx hr (pe_place (pv 0)) (oE cI) (fun _ _ => rfl))) (oE cI))))) (pe_place (pv 1))) nofun)
      sSs_nil))))
theorem b__law_sorts (T : Txt K mg) (C : Good P w K mg base (k + 2) cal) (M : Good P w K mg base (k + 1) mkc) (f : Addr) (cdv : Value) (lkx : LkX K mg "_law_sorts" f cdv) (A : Around) (outer : List Env) (s : Shared) (H : Hp) (E : XK) (gd : A.guards = some []) (hr : Room (k + 2) (A.deeper (envOfC "_law_sorts" (defScope s__law_sorts) s.heap.objs.size f cdv))) :
    PSs (cxOf (EV.CXt P w) P w K mg base ["_law_e", "_law_found"] "_law_sorts" (defScope s__law_sorts) f cdv A outer s H E) (defBody s__law_sorts) (tSs (cxOf (EV.CXt P w) P w K mg base ["_law_e", "_law_found"] "_law_sorts" (defScope s__law_sorts) f cdv A outer s H E) (fun c d _ H' => E c d H') tab cal mkc [] ir__law_sorts.body) := by
  have tk : Takes (cxOf (EV.CXt P w) P w K mg base ["_law_e", "_law_found"] "_law_sorts" (defScope s__law_sorts) f cdv A outer s H E) (fun c d _ H' => E c d H') := takes_of rfl rfl rfl rfl
  have po : PassesOwn (model P w) (cxOf (EV.CXt P w) P w K mg base ["_law_e", "_law_found"] "_law_sorts" (defScope s__law_sorts) f cdv A outer s H E).A (cxOf (EV.CXt P w) P w K mg base ["_law_e", "_law_found"] "_law_sorts" (defScope s__law_sorts) f cdv A outer s H E).env (cxOf (EV.CXt P w) P w K mg base ["_law_e", "_law_found"] "_law_sorts" (defScope s__law_sorts) f cdv A outer s H E).xe := passes_of rfl
  exact (sSs_cons (sS_set (i := 1) (by decide) sc__law_sorts.nd rfl (by first | exact .inl rfl | exact .inr rfl) (sE_lst (sA_cons (sE_isx (D := "InvalidText") (cv := .ref (clsA mg (Str.ofString "InvalidText"))) tp_is_InvalidText nofun (T.xo.is "InvalidText" (by decide)) (fun u e => e) (pe_glob (by rfl) (T.xo.nm "InvalidText" (by decide)) rfl) T.B.isinstance_ (pe_name (pv 0))) (sA_cons (sE_isx (D := "InvalidLetters") (cv := .ref (clsA mg (Str.ofString "InvalidLetters"))) tp_is_InvalidLetters nofun (T.xo.is "InvalidLetters" (by decide)) (fun u e => e) (pe_glob (by rfl) (T.xo.nm "InvalidLetters" (by decide)) rfl) T.B.isinstance_ (pe_name (pv 0))) (sA_cons (sE_isx (D := "InvalidWord") (cv := .ref (clsA mg (Str.ofString "InvalidWord"))) tp_is_InvalidWord nofun (T.xo.is "InvalidWord" (by decide)) (fun u e => e) (pe_glob (by rfl) (T.xo.nm "InvalidWord" (by decide)) rfl) T.B.isinstance_ (pe_name (pv 0))) sA_nil rfl nofun) rfl nofun) rfl nofun)))
      (sSs_cons (sS_set (i := 1) (by decide) sc__law_sorts.nd rfl (by first | exact .inl rfl | exact .inr rfl) (sE_bin (o := .add) (pe_place (pv 1)) (oE (sE_lst (sA_cons (sE_isx (D := "InvalidLasso") (cv := .ref (clsA mg (Str.ofString "InvalidLasso"))) tp_is_InvalidLasso nofun (T.xo.is "InvalidLasso" (by decide)) (fun u e => e) (pe_glob (by rfl) (T.xo.nm "InvalidLasso" (by decide)) rfl) T.B.isinstance_ (pe_name (pv 0))) (sA_cons (sE_isx (D := "InvalidVerdict") (cv := .ref (clsA mg (Str.ofString "InvalidVerdict"))) tp_is_InvalidVerdict nofun (T.xo.is "InvalidVerdict" (by decide)) (fun u e => e) (pe_glob (by rfl) (T.xo.nm "InvalidVerdict" (by decide)) rfl) T.B.isinstance_ (pe_name (pv 0))) (sA_cons (sE_isx (D := "InvalidName") (cv := .ref (clsA mg (Str.ofString "InvalidName"))) tp_is_InvalidName nofun (T.xo.is "InvalidName" (by decide)) (fun u e => e) (pe_glob (by rfl) (T.xo.nm "InvalidName" (by decide)) rfl) T.B.isinstance_ (pe_name (pv 0))) sA_nil rfl nofun) rfl nofun) rfl nofun)))))
      (sSs_cons (sS_set (i := 1) (by decide) sc__law_sorts.nd rfl (by first | exact .inl rfl | exact .inr rfl) (sE_bin (o := .add) (pe_place (pv 1)) (oE (sE_lst (sA_cons (sE_isx (D := "InvalidChange") (cv := .ref (clsA mg (Str.ofString "InvalidChange"))) tp_is_InvalidChange nofun (T.xo.is "InvalidChange" (by decide)) (fun u e => e) (pe_glob (by rfl) (T.xo.nm "InvalidChange" (by decide)) rfl) T.B.isinstance_ (pe_name (pv 0))) (sA_cons (sE_isx (D := "InvalidDemand") (cv := .ref (clsA mg (Str.ofString "InvalidDemand"))) tp_is_InvalidDemand nofun (T.xo.is "InvalidDemand" (by decide)) (fun u e => e) (pe_glob (by rfl) (T.xo.nm "InvalidDemand" (by decide)) rfl) T.B.isinstance_ (pe_name (pv 0))) (sA_cons (sE_isx (D := "InvalidIndex") (cv := .ref (clsA mg (Str.ofString "InvalidIndex"))) tp_is_InvalidIndex nofun (T.xo.is "InvalidIndex" (by decide)) (fun u e => e) (pe_glob (by rfl) (T.xo.nm "InvalidIndex" (by decide)) rfl) T.B.isinstance_ (pe_name (pv 0))) sA_nil rfl nofun) rfl nofun) rfl nofun)))))
      (sSs_cons (sS_set (i := 1) (by decide) sc__law_sorts.nd rfl (by first | exact .inl rfl | exact .inr rfl) (sE_bin (o := .add) (pe_place (pv 1)) (oE (sE_lst (sA_cons (sE_isx (D := "NotAMachine") (cv := .ref (clsA mg (Str.ofString "NotAMachine"))) tp_is_NotAMachine nofun (T.xo.is "NotAMachine" (by decide)) (fun u e => e) (pe_glob (by rfl) (T.xo.nm "NotAMachine" (by decide)) rfl) T.B.isinstance_ (pe_name (pv 0))) (sA_cons (sE_isx (D := "OtherLetters") (cv := .ref (clsA mg (Str.ofString "OtherLetters"))) tp_is_OtherLetters nofun (T.xo.is "OtherLetters" (by decide)) (fun u e => e) (pe_glob (by rfl) (T.xo.nm "OtherLetters" (by decide)) rfl) T.B.isinstance_ (pe_name (pv 0))) (sA_cons (sE_isx (D := "InvalidStates") (cv := .ref (clsA mg (Str.ofString "InvalidStates"))) tp_is_InvalidStates nofun (T.xo.is "InvalidStates" (by decide)) (fun u e => e) (pe_glob (by rfl) (T.xo.nm "InvalidStates" (by decide)) rfl) T.B.isinstance_ (pe_name (pv 0))) sA_nil rfl nofun) rfl nofun) rfl nofun)))))
      (sSs_cons (sS_set (i := 1) (by decide) sc__law_sorts.nd rfl (by first | exact .inl rfl | exact .inr rfl) (sE_bin (o := .add) (pe_place (pv 1)) (oE (sE_lst (sA_cons (sE_isx (D := "InvalidChanges") (cv := .ref (clsA mg (Str.ofString "InvalidChanges"))) tp_is_InvalidChanges nofun (T.xo.is "InvalidChanges" (by decide)) (fun u e => e) (pe_glob (by rfl) (T.xo.nm "InvalidChanges" (by decide)) rfl) T.B.isinstance_ (pe_name (pv 0))) (sA_cons (sE_isx (D := "InvalidDemands") (cv := .ref (clsA mg (Str.ofString "InvalidDemands"))) tp_is_InvalidDemands nofun (T.xo.is "InvalidDemands" (by decide)) (fun u e => e) (pe_glob (by rfl) (T.xo.nm "InvalidDemands" (by decide)) rfl) T.B.isinstance_ (pe_name (pv 0))) (sA_cons (sE_isx (D := "UnknownName") (cv := .ref (clsA mg (Str.ofString "UnknownName"))) tp_is_UnknownName nofun (T.xo.is "UnknownName" (by decide)) (fun u e => e) (pe_glob (by rfl) (T.xo.nm "UnknownName" (by decide)) rfl) T.B.isinstance_ (pe_name (pv 0))) sA_nil rfl nofun) rfl nofun) rfl nofun)))))
      (sSs_cons (sS_set (i := 1) (by decide) sc__law_sorts.nd rfl (by first | exact .inl rfl | exact .inr rfl) (sE_bin (o := .add) (pe_place (pv 1)) (oE (sE_lst (sA_cons (sE_isx (D := "InUse") (cv := .ref (clsA mg (Str.ofString "InUse"))) tp_is_InUse nofun (T.xo.is "InUse" (by decide)) (fun u e => e) (pe_glob (by rfl) (T.xo.nm "InUse" (by decide)) rfl) T.B.isinstance_ (pe_name (pv 0))) (sA_cons (sE_isx (D := "NothingToUndo") (cv := .ref (clsA mg (Str.ofString "NothingToUndo"))) tp_is_NothingToUndo nofun (T.xo.is "NothingToUndo" (by decide)) (fun u e => e) (pe_glob (by rfl) (T.xo.nm "NothingToUndo" (by decide)) rfl) T.B.isinstance_ (pe_name (pv 0))) (sA_cons (sE_isx (D := "TooLong") (cv := .ref (clsA mg (Str.ofString "TooLong"))) tp_is_TooLong nofun (T.xo.is "TooLong" (by decide)) (fun u e => e) (pe_glob (by rfl) (T.xo.nm "TooLong" (by decide)) rfl) T.B.isinstance_ (pe_name (pv 0))) sA_nil rfl nofun) rfl nofun) rfl nofun)))))
      (sSs_cons (sS_ret (sE_bin (o := .add) (pe_place (pv 1)) (oE (sE_lst (sA_cons (sE_isx (D := "Broken") (cv := .ref (clsA mg (Str.ofString "Broken"))) tp_is_Broken nofun (T.xo.is "Broken" (by decide)) (fun u e => e) (pe_glob (by rfl) (T.xo.nm "Broken" (by decide)) rfl) T.B.isinstance_ (pe_name (pv 0))) sA_nil rfl nofun)))) nofun)
      sSs_nil)))))))
theorem b__law_bases (T : Txt K mg) (C : Good P w K mg base (k + 2) cal) (M : Good P w K mg base (k + 1) mkc) (f : Addr) (cdv : Value) (lkx : LkX K mg "_law_bases" f cdv) (A : Around) (outer : List Env) (s : Shared) (H : Hp) (E : XK) (gd : A.guards = some []) (hr : Room (k + 2) (A.deeper (envOfC "_law_bases" (defScope s__law_bases) s.heap.objs.size f cdv))) :
    PSs (cxOf (EV.CXt P w) P w K mg base ["_law_e", "_law_found"] "_law_bases" (defScope s__law_bases) f cdv A outer s H E) (defBody s__law_bases) (tSs (cxOf (EV.CXt P w) P w K mg base ["_law_e", "_law_found"] "_law_bases" (defScope s__law_bases) f cdv A outer s H E) (fun c d _ H' => E c d H') tab cal mkc [] ir__law_bases.body) := by
  have tk : Takes (cxOf (EV.CXt P w) P w K mg base ["_law_e", "_law_found"] "_law_bases" (defScope s__law_bases) f cdv A outer s H E) (fun c d _ H' => E c d H') := takes_of rfl rfl rfl rfl
  have po : PassesOwn (model P w) (cxOf (EV.CXt P w) P w K mg base ["_law_e", "_law_found"] "_law_bases" (defScope s__law_bases) f cdv A outer s H E).A (cxOf (EV.CXt P w) P w K mg base ["_law_e", "_law_found"] "_law_bases" (defScope s__law_bases) f cdv A outer s H E).env (cxOf (EV.CXt P w) P w K mg base ["_law_e", "_law_found"] "_law_bases" (defScope s__law_bases) f cdv A outer s H E).xe := passes_of rfl
  exact (sSs_cons (sS_set (i := 1) (by decide) sc__law_bases.nd rfl (by first | exact .inl rfl | exact .inr rfl) (sE_lst (sA_cons (sE_isx (D := "BadValue") (cv := .ref (clsA mg (Str.ofString "BadValue"))) tp_is_BadValue nofun (T.xo.is "BadValue" (by decide)) (fun u e => e) (pe_glob (by rfl) (T.xo.nm "BadValue" (by decide)) rfl) T.B.isinstance_ (pe_name (pv 0))) (sA_cons (sE_isx (D := "BadName") (cv := .ref (clsA mg (Str.ofString "BadName"))) tp_is_BadName nofun (T.xo.is "BadName" (by decide)) (fun u e => e) (pe_glob (by rfl) (T.xo.nm "BadName" (by decide)) rfl) T.B.isinstance_ (pe_name (pv 0))) (sA_cons (sE_isx (D := "NoAnswer") (cv := .ref (clsA mg (Str.ofString "NoAnswer"))) tp_is_NoAnswer nofun (T.xo.is "NoAnswer" (by decide)) (fun u e => e) (pe_glob (by rfl) (T.xo.nm "NoAnswer" (by decide)) rfl) T.B.isinstance_ (pe_name (pv 0))) sA_nil rfl nofun) rfl nofun) rfl nofun)))
      (sSs_cons (sS_ret (sE_bin (o := .add) (pe_place (pv 1)) (oE (sE_lst (sA_cons (sE_isx (D := "ValueError") (cv := .ty "ValueError") tp_is_ValueError nofun (T.xo.ib "ValueError" (by decide)) (fun u e => e) (GH.pe_type (T := "ValueError") (T.xo.vn "ValueError" (by decide)) (by decide +kernel)) T.B.isinstance_ (pe_name (pv 0))) (sA_cons (sE_isx (D := "LookupError") (cv := .ty "LookupError") tp_is_LookupError nofun (T.xo.ib "LookupError" (by decide)) (fun u e => e) (GH.pe_type (T := "LookupError") (T.xo.vn "LookupError" (by decide)) (by decide +kernel)) T.B.isinstance_ (pe_name (pv 0))) (sA_cons (sE_isx (D := "ArithmeticError") (cv := .ty "ArithmeticError") tp_is_ArithmeticError nofun (T.xo.ib "ArithmeticError" (by decide)) (fun u e => e) (GH.pe_type (T := "ArithmeticError") (T.xo.vn "ArithmeticError" (by decide)) (by decide +kernel)) T.B.isinstance_ (pe_name (pv 0))) sA_nil rfl nofun) rfl nofun) rfl nofun)))) nofun)
      sSs_nil))
theorem b__law_kind (T : Txt K mg) (C : Good P w K mg base (k + 2) cal) (M : Good P w K mg base (k + 1) mkc) (f : Addr) (cdv : Value) (lkx : LkX K mg "_law_kind" f cdv) (A : Around) (outer : List Env) (s : Shared) (H : Hp) (E : XK) (gd : A.guards = some []) (hr : Room (k + 2) (A.deeper (envOfC "_law_kind" (defScope s__law_kind) s.heap.objs.size f cdv))) :
    PSs (cxOf (EV.CXt P w) P w K mg base ["_law_e", "_law_sorts_here", "_law_at", "_law_base", "_law_k"] "_law_kind" (defScope s__law_kind) f cdv A outer s H E) (defBody s__law_kind) (tSs (cxOf (EV.CXt P w) P w K mg base ["_law_e", "_law_sorts_here", "_law_at", "_law_base", "_law_k"] "_law_kind" (defScope s__law_kind) f cdv A outer s H E) (fun c d _ H' => E c d H') tab cal mkc [] ir__law_kind.body) := by
  have tk : Takes (cxOf (EV.CXt P w) P w K mg base ["_law_e", "_law_sorts_here", "_law_at", "_law_base", "_law_k"] "_law_kind" (defScope s__law_kind) f cdv A outer s H E) (fun c d _ H' => E c d H') := takes_of rfl rfl rfl rfl
  have po : PassesOwn (model P w) (cxOf (EV.CXt P w) P w K mg base ["_law_e", "_law_sorts_here", "_law_at", "_law_base", "_law_k"] "_law_kind" (defScope s__law_kind) f cdv A outer s H E).A (cxOf (EV.CXt P w) P w K mg base ["_law_e", "_law_sorts_here", "_law_at", "_law_base", "_law_k"] "_law_kind" (defScope s__law_kind) f cdv A outer s H E).env (cxOf (EV.CXt P w) P w K mg base ["_law_e", "_law_sorts_here", "_law_at", "_law_base", "_law_k"] "_law_kind" (defScope s__law_kind) f cdv A outer s H E).xe := passes_of rfl
  exact (sSs_cons (sS_set (i := 1) (by decide) sc__law_kind.nd rfl (by first | exact .inl rfl | exact .inr rfl) (cE C.f__law_sorts gd hr tk fn__law_sorts (sArgs_one (aV (pv 0)) rfl)))
      (sSs_cons (sS_if (sT_cmp (o := .ne) hr (oE (sE_cnt (y := true) tp_countb nofun (pe_name (pv 1)) pe_bl)) (oE cI) (nomark _))
      (sSs_cons (sS_ret (sE_neg cI) nofun)
      sSs_nil)
      sSs_nil)
      (sSs_cons (sS_set (i := 2) (by decide) sc__law_kind.nd rfl (by first | exact .inl rfl | exact .inr rfl) (sE_lindex hr (pe_place (pv 1)) (sA_cons cB sA_nil rfl nofun)))
      (sSs_cons (sS_set (i := 3) (by decide) sc__law_kind.nd rfl (by first | exact .inl rfl | exact .inr rfl) (sE_ite (sT_cmp (o := .lt) hr (pe_place (pv 2)) (oE cI) (nomark _)) cI (sE_ite (sT_cmp (o := .lt) hr (pe_place (pv 2)) (oE cI) (nomark _)) cI cI)))
      (sSs_cons (sS_ret (sE_ite (sT_cmp (o := .eq) hr (oE (cE C.f__law_bases gd hr tk fn__law_bases (sArgs_one (aV (pv 0)) rfl))) (oE (sE_bin (o := .mul) (oE (sE_lc rfl sc__law_kind.nd (sI_rng (by rfl) T.B.range_ cI (by rfl)) (blkOk_by (own := [("_law_k", 4)]) (N := ["_law_e", "_law_sorts_here", "_law_at", "_law_base", "_law_k"]) (sc := defScope s__law_kind) (by decide +kernel)) rfl (by decide) (fun _ _ _ _ _ => (sG_name (i := 4) sc__law_kind.nd rfl (by first | exact .inl rfl | exact .inr rfl))) (fun _ _ _ _ _ => sC_none) (fun _ _ _ _ _ => (sE_cmp (o := .eq) hr (pe_place (pv 4)) (pe_place (pv 3)) (nomark _))))) (oE cI))) (nomark _)) (pe_name (pv 2)) (sE_neg cI)) nofun)
      sSs_nil)))))
theorem b__law_made (T : Txt K mg) (C : Good P w K mg base (k + 2) cal) (M : Good P w K mg base (k + 1) mkc) (f : Addr) (cdv : Value) (lkx : LkX K mg "_law_made" f cdv) (A : Around) (outer : List Env) (s : Shared) (H : Hp) (E : XK) (gd : A.guards = some []) (hr : Room (k + 2) (A.deeper (envOfC "_law_made" (defScope s__law_made) s.heap.objs.size f cdv))) :
    PSs (cxOf (EV.CXt P w) P w K mg base ["_law_thing", "_law_found", "_law_some"] "_law_made" (defScope s__law_made) f cdv A outer s H E) (defBody s__law_made) (tSs (cxOf (EV.CXt P w) P w K mg base ["_law_thing", "_law_found", "_law_some"] "_law_made" (defScope s__law_made) f cdv A outer s H E) (fun c d _ H' => E c d H') tab cal mkc [] ir__law_made.body) := by
  have tk : Takes (cxOf (EV.CXt P w) P w K mg base ["_law_thing", "_law_found", "_law_some"] "_law_made" (defScope s__law_made) f cdv A outer s H E) (fun c d _ H' => E c d H') := takes_of rfl rfl rfl rfl
  have po : PassesOwn (model P w) (cxOf (EV.CXt P w) P w K mg base ["_law_thing", "_law_found", "_law_some"] "_law_made" (defScope s__law_made) f cdv A outer s H E).A (cxOf (EV.CXt P w) P w K mg base ["_law_thing", "_law_found", "_law_some"] "_law_made" (defScope s__law_made) f cdv A outer s H E).env (cxOf (EV.CXt P w) P w K mg base ["_law_thing", "_law_found", "_law_some"] "_law_made" (defScope s__law_made) f cdv A outer s H E).xe := passes_of rfl
  exact (sSs_cons (sS_set (i := 1) (by decide) sc__law_made.nd rfl (by first | exact .inl rfl | exact .inr rfl) (sE_lst (sA_cons (sE_mkx (c := "InvalidText") (f := "given") tp_mk_InvalidText nofun T.e_InvalidText (hr.mono (by omega)) (fun _ _ _ _ _ _ us hl => match us, hl with | [_, _], _ => rfl) (pe_name (pv 0))) (sA_cons (sE_mkx (c := "InvalidLetters") (f := "given") tp_mk_InvalidLetters nofun T.e_InvalidLetters (hr.mono (by omega)) (fun _ _ _ _ _ _ us hl => match us, hl with | [_, _], _ => rfl) (pe_name (pv 0))) (sA_cons (sE_mkx (c := "InvalidWord") (f := "given") tp_mk_InvalidWord nofun T.e_InvalidWord (hr.mono (by omega)) (fun _ _ _ _ _ _ us hl => match us, hl with | [_, _], _ => rfl) (pe_name (pv 0))) (sA_cons (sE_mkx (c := "InvalidLasso") (f := "given") tp_mk_InvalidLasso nofun T.e_InvalidLasso (hr.mono (by omega)) (fun _ _ _ _ _ _ us hl => match us, hl with | [_, _], _ => rfl) (pe_name (pv 0))) (sA_cons (sE_mkx (c := "InvalidVerdict") (f := "given") tp_mk_InvalidVerdict nofun T.e_InvalidVerdict (hr.mono (by omega)) (fun _ _ _ _ _ _ us hl => match us, hl with | [_, _], _ => rfl) (pe_name (pv 0))) sA_nil rfl nofun) rfl nofun) rfl nofun) rfl nofun) rfl nofun)))
      (sSs_cons (sS_set (i := 1) (by decide) sc__law_made.nd rfl (by first | exact .inl rfl | exact .inr rfl) (sE_bin (o := .add) (pe_place (pv 1)) (oE (sE_lst (sA_cons (sE_mkx (c := "InvalidName") (f := "given") tp_mk_InvalidName nofun T.e_InvalidName (hr.mono (by omega)) (fun _ _ _ _ _ _ us hl => match us, hl with | [_, _], _ => rfl) (pe_name (pv 0))) (sA_cons (sE_mkx (c := "InvalidChange") (f := "given") tp_mk_InvalidChange nofun T.e_InvalidChange (hr.mono (by omega)) (fun _ _ _ _ _ _ us hl => match us, hl with | [_, _], _ => rfl) (pe_name (pv 0))) (sA_cons (sE_mkx (c := "InvalidDemand") (f := "given") tp_mk_InvalidDemand nofun T.e_InvalidDemand (hr.mono (by omega)) (fun _ _ _ _ _ _ us hl => match us, hl with | [_, _], _ => rfl) (pe_name (pv 0))) (sA_cons (sE_mkx (c := "InvalidIndex") (f := "given") tp_mk_InvalidIndex nofun T.e_InvalidIndex (hr.mono (by omega)) (fun _ _ _ _ _ _ us hl => match us, hl with | [_, _], _ => rfl) (pe_name (pv 0))) sA_nil rfl nofun) rfl nofun) rfl nofun) rfl nofun)))))
      (sSs_cons (sS_set (i := 1) (by decide) sc__law_made.nd rfl (by first | exact .inl rfl | exact .inr rfl) (sE_bin (o := .add) (pe_place (pv 1)) (oE (sE_lst (sA_cons (sE_mkx (c := "NotAMachine") (f := "given") tp_mk_NotAMachine nofun T.e_NotAMachine (hr.mono (by omega)) (fun _ _ _ _ _ _ us hl => match us, hl with | [_, _], _ => rfl) (pe_name (pv 0))) (sA_cons (sE_mkx (c := "OtherLetters") (f := "given") tp_mk_OtherLetters nofun T.e_OtherLetters (hr.mono (by omega)) (fun _ _ _ _ _ _ us hl => match us, hl with | [_, _], _ => rfl) (pe_name (pv 0))) (sA_cons (sE_mkx (c := "InvalidStates") (f := "index") tp_mk_InvalidStates nofun T.e_InvalidStates (hr.mono (by omega)) (fun _ _ _ _ _ _ us hl => match us, hl with | [_, _], _ => rfl) (pe_name (pv 0))) (sA_cons (sE_mkx (c := "InvalidChanges") (f := "index") tp_mk_InvalidChanges nofun T.e_InvalidChanges (hr.mono (by omega)) (fun _ _ _ _ _ _ us hl => match us, hl with | [_, _], _ => rfl) (pe_name (pv 0))) sA_nil rfl nofun) rfl nofun) rfl nofun) rfl nofun)))))
      (sSs_cons (sS_set (i := 1) (by decide) sc__law_made.nd rfl (by first | exact .inl rfl | exact .inr rfl) (sE_bin (o := .add) (pe_place (pv 1)) (oE (sE_lst (sA_cons (sE_mkx (c := "InvalidDemands") (f := "index") tp_mk_InvalidDemands nofun T.e_InvalidDemands (hr.mono (by omega)) (fun _ _ _ _ _ _ us hl => match us, hl with | [_, _], _ => rfl) (pe_name (pv 0))) (sA_cons (sE_mkx (c := "UnknownName") (f := "given") tp_mk_UnknownName nofun T.e_UnknownName (hr.mono (by omega)) (fun _ _ _ _ _ _ us hl => match us, hl with | [_, _], _ => rfl) (pe_name (pv 0))) (sA_cons (sE_mkx (c := "InUse") (f := "index") tp_mk_InUse nofun T.e_InUse (hr.mono (by omega)) (fun _ _ _ _ _ _ us hl => match us, hl with | [_, _], _ => rfl) (pe_name (pv 0))) (sA_cons (sE_mk0 (c := "NothingToUndo") tp_m0_NothingToUndo T.e_NothingToUndo (hr.mono (by omega)) (fun _ _ _ _ _ _ us hl => match us, hl with | [_], _ => rfl)) (sA_cons (sE_mkx (c := "TooLong") (f := "most") tp_mk_TooLong nofun T.e_TooLong (hr.mono (by omega)) (fun _ _ _ _ _ _ us hl => match us, hl with | [_, _], _ => rfl) (pe_name (pv 0))) sA_nil rfl nofun) rfl nofun) rfl nofun) rfl nofun) rfl nofun)))))
      (sSs_cons (sS_set (i := 2) (by decide) sc__law_made.nd rfl (by first | exact .inl rfl | exact .inr rfl) (sE_lst (sA_cons (sE_mkk (c := "InvalidText") (f := "given") tp_mk_InvalidText nofun T.e_InvalidText (hr.mono (by omega)) (fun _ _ _ _ _ _ _ _ => rfl) (pe_name (pv 0))) (sA_cons (sE_mkk (c := "InvalidLetters") (f := "given") tp_mk_InvalidLetters nofun T.e_InvalidLetters (hr.mono (by omega)) (fun _ _ _ _ _ _ _ _ => rfl) (pe_name (pv 0))) (sA_cons (sE_mkk (c := "InvalidWord") (f := "given") tp_mk_InvalidWord nofun T.e_InvalidWord (hr.mono (by omega)) (fun _ _ _ _ _ _ _ _ => rfl) (pe_name (pv 0))) (sA_cons (sE_mkk (c := "InvalidLasso") (f := "given") tp_mk_InvalidLasso nofun T.e_InvalidLasso (hr.mono (by omega)) (fun _ _ _ _ _ _ _ _ => rfl) (pe_name (pv 0))) sA_nil rfl nofun) rfl nofun) rfl nofun) rfl nofun)))
      (sSs_cons (sS_set (i := 2) (by decide) sc__law_made.nd rfl (by first | exact .inl rfl | exact .inr rfl) (sE_bin (o := .add) (pe_place (pv 2)) (oE (sE_lst (sA_cons (sE_mkk (c := "InvalidVerdict") (f := "given") tp_mk_InvalidVerdict nofun T.e_InvalidVerdict (hr.mono (by omega)) (fun _ _ _ _ _ _ _ _ => rfl) (pe_name (pv 0))) (sA_cons (sE_mkk (c := "InvalidName") (f := "given") tp_mk_InvalidName nofun T.e_InvalidName (hr.mono (by omega)) (fun _ _ _ _ _ _ _ _ => rfl) (pe_name (pv 0))) (sA_cons (sE_mkk (c := "InvalidChange") (f := "given") tp_mk_InvalidChange nofun T.e_InvalidChange (hr.mono (by omega)) (fun _ _ _ _ _ _ _ _ => rfl) (pe_name (pv 0))) sA_nil rfl nofun) rfl nofun) rfl nofun)))))
      (sSs_cons (sS_set (i := 2) (by decide) sc__law_made.nd rfl (by first | exact .inl rfl | exact .inr rfl) (sE_bin (o := .add) (pe_place (pv 2)) (oE (sE_lst (sA_cons (sE_mkk (c := "InvalidDemand") (f := "given") tp_mk_InvalidDemand nofun T.e_InvalidDemand (hr.mono (by omega)) (fun _ _ _ _ _ _ _ _ => rfl) (pe_name (pv 0))) (sA_cons (sE_mkk (c := "InvalidIndex") (f := "given") tp_mk_InvalidIndex nofun T.e_InvalidIndex (hr.mono (by omega)) (fun _ _ _ _ _ _ _ _ => rfl) (pe_name (pv 0))) (sA_cons (sE_mkk (c := "NotAMachine") (f := "given") tp_mk_NotAMachine nofun T.e_NotAMachine (hr.mono (by omega)) (fun _ _ _ _ _ _ _ _ => rfl) (pe_name (pv 0))) sA_nil rfl nofun) rfl nofun) rfl nofun)))))
      (sSs_cons (sS_set (i := 2) (by decide) sc__law_made.nd rfl (by first | exact .inl rfl | exact .inr rfl) (sE_bin (o := .add) (pe_place (pv 2)) (oE (sE_lst (sA_cons (sE_mkk (c := "OtherLetters") (f := "given") tp_mk_OtherLetters nofun T.e_OtherLetters (hr.mono (by omega)) (fun _ _ _ _ _ _ _ _ => rfl) (pe_name (pv 0))) (sA_cons (sE_mkk (c := "InvalidStates") (f := "index") tp_mk_InvalidStates nofun T.e_InvalidStates (hr.mono (by omega)) (fun _ _ _ _ _ _ _ _ => rfl) (pe_name (pv 0))) (sA_cons (sE_mkk (c := "InvalidChanges") (f := "index") tp_mk_InvalidChanges nofun T.e_InvalidChanges (hr.mono (by omega)) (fun _ _ _ _ _ _ _ _ => rfl) (pe_name (pv 0))) sA_nil rfl nofun) rfl nofun) rfl nofun)))))
      (sSs_cons (sS_set (i := 2) (by decide) sc__law_made.nd rfl (by first | exact .inl rfl | exact .inr rfl) (sE_bin (o := .add) (pe_place (pv 2)) (oE (sE_lst (sA_cons (sE_mkk (c := "InvalidDemands") (f := "index") tp_mk_InvalidDemands nofun T.e_InvalidDemands (hr.mono (by omega)) (fun _ _ _ _ _ _ _ _ => rfl) (pe_name (pv 0))) (sA_cons (sE_mkk (c := "UnknownName") (f := "given") tp_mk_UnknownName nofun T.e_UnknownName (hr.mono (by omega)) (fun _ _ _ _ _ _ _ _ => rfl) (pe_name (pv 0))) (sA_cons (sE_mkk (c := "InUse") (f := "index") tp_mk_InUse nofun T.e_InUse (hr.mono (by omega)) (fun _ _ _ _ _ _ _ _ => rfl) (pe_name (pv 0))) (sA_cons (sE_mk0 (c := "NothingToUndo") tp_m0_NothingToUndo T.e_NothingToUndo (hr.mono (by omega)) (fun _ _ _ _ _ _ us hl => match us, hl with | [_], _ => rfl)) sA_nil rfl nofun) rfl nofun) rfl nofun) rfl nofun)))))
      (sSs_cons (sS_ret (sE_lst (sA_cons (sE_bin (o := .add) (pe_place (pv 1)) (oE (sE_lst (sA_cons (sE_mkx (c := "Broken") (f := "index") tp_mk_Broken nofun T.e_Broken (hr.mono (by omega)) (fun _ _ _ _ _ _ us hl => match us, hl with | [_, _], _ => rfl) (pe_name (pv 0))) sA_nil rfl nofun)))) (sA_cons (sE_bin (o := .add) (pe_place (pv 2)) (oE (sE_lst (sA_cons (sE_mkk (c := "TooLong") (f := "most") tp_mk_TooLong nofun T.e_TooLong (hr.mono (by omega)) (fun _ _ _ _ _ _ _ _ => rfl) (pe_name (pv 0))) (sA_cons (sE_mkk (c := "Broken") (f := "index") tp_mk_Broken nofun T.e_Broken (hr.mono (by omega)) (fun _ _ _ _ _ _ _ _ => rfl) (pe_name (pv 0))) sA_nil rfl nofun) rfl nofun)))) sA_nil rfl nofun) rfl nofun)) nofun)
      sSs_nil))))))))))
theorem b__law_kept (T : Txt K mg) (C : Good P w K mg base (k + 2) cal) (M : Good P w K mg base (k + 1) mkc) (f : Addr) (cdv : Value) (lkx : LkX K mg "_law_kept" f cdv) (A : Around) (outer : List Env) (s : Shared) (H : Hp) (E : XK) (gd : A.guards = some []) (hr : Room (k + 2) (A.deeper (envOfC "_law_kept" (defScope s__law_kept) s.heap.objs.size f cdv))) :
    PSs (cxOf (EV.CXt P w) P w K mg base ["_law_e", "_law_at"] "_law_kept" (defScope s__law_kept) f cdv A outer s H E) (defBody s__law_kept) (tSs (cxOf (EV.CXt P w) P w K mg base ["_law_e", "_law_at"] "_law_kept" (defScope s__law_kept) f cdv A outer s H E) (fun c d _ H' => E c d H') tab cal mkc [] ir__law_kept.body) := by
  have tk : Takes (cxOf (EV.CXt P w) P w K mg base ["_law_e", "_law_at"] "_law_kept" (defScope s__law_kept) f cdv A outer s H E) (fun c d _ H' => E c d H') := takes_of rfl rfl rfl rfl
  have po : PassesOwn (model P w) (cxOf (EV.CXt P w) P w K mg base ["_law_e", "_law_at"] "_law_kept" (defScope s__law_kept) f cdv A outer s H E).A (cxOf (EV.CXt P w) P w K mg base ["_law_e", "_law_at"] "_law_kept" (defScope s__law_kept) f cdv A outer s H E).env (cxOf (EV.CXt P w) P w K mg base ["_law_e", "_law_at"] "_law_kept" (defScope s__law_kept) f cdv A outer s H E).xe := passes_of rfl
  exact (sSs_cons (sS_if (sT_cmp (o := .eq) hr (pe_place (pv 1)) (oE cI) (nomark _))
      (sSs_cons (sS_ret cN nofun)
      sSs_nil)
      sSs_nil)
      (sSs_cons (sS_if (sT_cmp (o := .eq) hr (pe_place (pv 1)) (oE cI) (nomark _))
      (sSs_cons (sS_ret (sE_xfl (f := "most") tp_xf_most nofun (T.xo.fd "most" (by decide)) (pe_name (pv 0))) nofun)
      sSs_nil)
      sSs_nil)
      (sSs_cons (sS_ret (sE_ite (sT_cmp (o := .isin) hr (pe_place (pv 1)) (oE (sE_lst (sA_cons cI (sA_cons cI (sA_cons cI (sA_cons cI (sA_cons cI sA_nil rfl nofun) rfl nofun) rfl nofun) rfl nofun) rfl nofun))) (by rfl)) (sE_xfl (f := "index") tp_xf_index nofun (T.xo.fd "index" (by decide)) (pe_name (pv 0))) (sE_xfl (f := "given") tp_xf_given nofun (T.xo.fd "given" (by decide)) (pe_name (pv 0)))) nofun)
      sSs_nil)))
theorem b__law_right (T : Txt K mg) (C : Good P w K mg base (k + 2) cal) (M : Good P w K mg base (k + 1) mkc) (f : Addr) (cdv : Value) (lkx : LkX K mg "_law_right" f cdv) (A : Around) (outer : List Env) (s : Shared) (H : Hp) (E : XK) (gd : A.guards = some []) (hr : Room (k + 2) (A.deeper (envOfC "_law_right" (defScope s__law_right) s.heap.objs.size f cdv))) :
    PSs (cxOf (EV.CXt P w) P w K mg base ["_law_bag_here", "_law_turn", "_law_menu", "_law_thing", "_law_some", "_law_at", "_law_e"] "_law_right" (defScope s__law_right) f cdv A outer s H E) (defBody s__law_right) (tSs (cxOf (EV.CXt P w) P w K mg base ["_law_bag_here", "_law_turn", "_law_menu", "_law_thing", "_law_some", "_law_at", "_law_e"] "_law_right" (defScope s__law_right) f cdv A outer s H E) (fun c d _ H' => E c d H') tab cal mkc [0] ir__law_right.body) := by
  have tk : Takes (cxOf (EV.CXt P w) P w K mg base ["_law_bag_here", "_law_turn", "_law_menu", "_law_thing", "_law_some", "_law_at", "_law_e"] "_law_right" (defScope s__law_right) f cdv A outer s H E) (fun c d _ H' => E c d H') := takes_of rfl rfl rfl rfl
  have po : PassesOwn (model P w) (cxOf (EV.CXt P w) P w K mg base ["_law_bag_here", "_law_turn", "_law_menu", "_law_thing", "_law_some", "_law_at", "_law_e"] "_law_right" (defScope s__law_right) f cdv A outer s H E).A (cxOf (EV.CXt P w) P w K mg base ["_law_bag_here", "_law_turn", "_law_menu", "_law_thing", "_law_some", "_law_at", "_law_e"] "_law_right" (defScope s__law_right) f cdv A outer s H E).env (cxOf (EV.CXt P w) P w K mg base ["_law_bag_here", "_law_turn", "_law_menu", "_law_thing", "_law_some", "_law_at", "_law_e"] "_law_right" (defScope s__law_right) f cdv A outer s H E).xe := passes_of rfl
  exact (sSs_cons (sS_for (by decide) po rfl (sI_rng (by rfl) T.B.range_ cI (by rfl)) (sG_name (i := 1) sc__law_right.nd rfl (by first | exact .inl rfl | exact .inr rfl))
      (sSs_cons (sS_set (i := 2) (by decide) sc__law_right.nd rfl (by first | exact .inl rfl | exact .inr rfl) (sE_lst (sA_cons cN (sA_cons cB (sA_cons cI (sA_cons (sE_neg cI) (sA_cons (sE_bin (o := .pow) (oE cI) (oE cI)) (sA_cons (cS (s := "")) (sA_cons (cS (s := "a b")) (sA_cons (sE_tup sA_nil) (sA_cons (sE_tup (sA_cons cI (sA_cons (cS (s := "x")) sA_nil rfl nofun) rfl nofun)) (sA_cons (sE_lst sA_nil) (sA_cons (sE_lst (sA_cons cN sA_nil rfl nofun)) (sA_cons sE_dnew (sA_cons (sE_disp hr (cS (s := "a")) cI) (sA_cons (sE_tup (sA_cons (cS (s := "b")) (sA_cons (cS (s := "a")) sA_nil rfl nofun) rfl nofun)) (sA_cons cB sA_nil rfl nofun) rfl nofun) rfl nofun) rfl nofun) rfl nofun) rfl nofun) rfl nofun) rfl nofun) rfl nofun) rfl nofun) rfl nofun) rfl nofun) rfl nofun) rfl nofun) rfl nofun)))
      (sSs_cons (sS_set (i := 3) (by decide) sc__law_right.nd rfl (by first | exact .inl rfl | exact .inr rfl) (sE_idx hr (pe_place (pv 2)) (oE (cE C.f__law_take gd hr tk fn__law_take (sArgs_cons nofun (aV (pv 0)) (sArgs_one (aE cI) rfl) rfl))) (fun _ _ => rfl)))
      (sSs_cons (sS_for (by decide) po rfl (sI_seq (cE C.f__law_made gd hr tk fn__law_made (sArgs_one (aV (pv 3)) rfl))) (sG_name (i := 4) sc__law_right.nd rfl (by first | exact .inl rfl | exact .inr rfl))
      (sSs_cons (sS_if (PW.pt (sW_or (sT_cmp (o := .ne) hr (oE (b1 cr_len T.B.len_ PySem.boot_len (pe_place (pv 4)))) (oE cI) (nomark _)) (pw_or1 (sT_cmp (o := .ne) hr (oE (sE_lc rfl sc__law_right.nd (sI_seq (pe_name (pv 4))) (blkOk_by (own := [("_law_e", 6)]) (N := ["_law_bag_here", "_law_turn", "_law_menu", "_law_thing", "_law_some", "_law_at", "_law_e"]) (sc := defScope s__law_right) (by decide +kernel)) rfl (by decide) (fun _ _ _ _ _ => (sG_name (i := 6) sc__law_right.nd rfl (by first | exact .inl rfl | exact .inr rfl))) (fun _ _ _ _ _ => sC_none) (fun _ _ _ _ _ => (cE C.f__law_kind gd hr takesW0 fn__law_kind (sArgs_one (aV (pv 6)) rfl))))) (oE (sE_lrg rfl T.B.list_ T.B.range_ cI)) (nomark _)))))
      (sSs_cons (sS_ret cB nofun)
      sSs_nil)
      sSs_nil)
      (sSs_cons (sS_for (by decide) po rfl (sI_rng (by rfl) T.B.range_ cI (by rfl)) (sG_name (i := 5) sc__law_right.nd rfl (by first | exact .inl rfl | exact .inr rfl))
      (sSs_cons (sS_if (sT_cmp (o := .ne) hr (oE (sE_reprQ tp_reprq nofun T.sm gd hr T.B.repr_ (cE C.f__law_kept gd hr tk fn__law_kept (sArgs_cons nofun (aE (sE_idx hr (pe_place (pv 4)) (pe_place (pv 5)) (fun _ _ => rfl))) (sArgs_one (aV (pv 5)) rfl) rfl)))) (oE (sE_reprQ tp_reprq nofun T.sm gd hr T.B.repr_ (sE_ite (sT_cmp (o := .eq) hr (pe_place (pv 5)) (oE cI) (nomark _)) cN (pe_name (pv 3))))) (nomark _))
      (sSs_cons (sS_ret cB nofun)
      sSs_nil)
      sSs_nil)
      sSs_nil))
      sSs_nil)))
      sSs_nil))))
      (sSs_cons (sS_ret cB nofun)
      sSs_nil))
theorem b__law_quiet (T : Txt K mg) (C : Good P w K mg base (k + 2) cal) (M : Good P w K mg base (k + 1) mkc) (f : Addr) (cdv : Value) (lkx : LkX K mg "_law_quiet" f cdv) (A : Around) (outer : List Env) (s : Shared) (H : Hp) (E : XK) (gd : A.guards = some []) (hr : Room (k + 2) (A.deeper (envOfC "_law_quiet" (defScope s__law_quiet) s.heap.objs.size f cdv))) :
    PSs (cxOf (EV.CXt P w) P w K mg base ["_law_bag_here", "_law_is_right"] "_law_quiet" (defScope s__law_quiet) f cdv A outer s H E) (defBody s__law_quiet) (tSs (cxOf (EV.CXt P w) P w K mg base ["_law_bag_here", "_law_is_right"] "_law_quiet" (defScope s__law_quiet) f cdv A outer s H E) (fun c d _ H' => E c d H') tab cal mkc [0] ir__law_quiet.body) := by
  have tk : Takes (cxOf (EV.CXt P w) P w K mg base ["_law_bag_here", "_law_is_right"] "_law_quiet" (defScope s__law_quiet) f cdv A outer s H E) (fun c d _ H' => E c d H') := takes_of rfl rfl rfl rfl
  have po : PassesOwn (model P w) (cxOf (EV.CXt P w) P w K mg base ["_law_bag_here", "_law_is_right"] "_law_quiet" (defScope s__law_quiet) f cdv A outer s H E).A (cxOf (EV.CXt P w) P w K mg base ["_law_bag_here", "_law_is_right"] "_law_quiet" (defScope s__law_quiet) f cdv A outer s H E).env (cxOf (EV.CXt P w) P w K mg base ["_law_bag_here", "_law_is_right"] "_law_quiet" (defScope s__law_quiet) f cdv A outer s H E).xe := passes_of rfl
  exact (sSs_cons (sS_try (sSs_cons (sS_set (i := 1) (by decide) sc__law_quiet.nd rfl (by first | exact .inl rfl | exact .inr rfl) (cE C.f__law_right gd hr takesW0 fn__law_right (sArgs_one (aV (pv 0)) rfl)))
      sSs_nil))
      (sSs_cons (sS_retV (pv 1))
      sSs_nil))
theorem b_law (T : Txt K mg) (C : Good P w K mg base (k + 2) cal) (M : Good P w K mg base (k + 1) mkc) (f : Addr) (cdv : Value) (lkx : LkX K mg "law" f cdv) (A : Around) (outer : List Env) (s : Shared) (H : Hp) (E : XK) (gd : A.guards = some []) (hr : Room (k + 2) (A.deeper (envOfC "law" (defScope s_law) s.heap.objs.size f cdv))) :
    PSs (cxOf (EV.CXt P w) P w K mg base ["_law_script", "_law_limits_here", "_law_roots", "_law_at", "_law_k", "_law_turn"] "law" (defScope s_law) f cdv A outer s H E) (defBody s_law) (tSs (cxOf (EV.CXt P w) P w K mg base ["_law_script", "_law_limits_here", "_law_roots", "_law_at", "_law_k", "_law_turn"] "law" (defScope s_law) f cdv A outer s H E) (fun c d _ H' => E c d H') tab cal mkc [] ir_law.body) := by
  have tk : Takes (cxOf (EV.CXt P w) P w K mg base ["_law_script", "_law_limits_here", "_law_roots", "_law_at", "_law_k", "_law_turn"] "law" (defScope s_law) f cdv A outer s H E) (fun c d _ H' => E c d H') := takes_of rfl rfl rfl rfl
  have po : PassesOwn (model P w) (cxOf (EV.CXt P w) P w K mg base ["_law_script", "_law_limits_here", "_law_roots", "_law_at", "_law_k", "_law_turn"] "law" (defScope s_law) f cdv A outer s H E).A (cxOf (EV.CXt P w) P w K mg base ["_law_script", "_law_limits_here", "_law_roots", "_law_at", "_law_k", "_law_turn"] "law" (defScope s_law) f cdv A outer s H E).env (cxOf (EV.CXt P w) P w K mg base ["_law_script", "_law_limits_here", "_law_roots", "_law_at", "_law_k", "_law_turn"] "law" (defScope s_law) f cdv A outer s H E).xe := passes_of rfl
  exact (sSs_cons (sS_set (i := 1) (by decide) sc_law.nd rfl (by first | exact .inl rfl | exact .inr rfl) (sE_lst (sA_cons (cG T.c_MOST_LETTERS (fun _ => .int 3) tc_MOST_LETTERS) (sA_cons (cG T.c_MOST_STATES (fun _ => .int 6) tc_MOST_STATES) (sA_cons (cG T.c_MOST_COLOUR (fun _ => .int 6) tc_MOST_COLOUR) (sA_cons (cG T.c_MOST_WORD (fun _ => .int 200) tc_MOST_WORD) (sA_cons (cG T.c_MOST_CHANGES (fun _ => .int 5) tc_MOST_CHANGES) (sA_cons (cG T.c_MOST_DEMANDS (fun _ => .int 5) tc_MOST_DEMANDS) sA_nil rfl nofun) rfl nofun) rfl nofun) rfl nofun) rfl nofun) rfl nofun)))
      (sSs_cons (sS_if (sT_cmp (o := .ne) hr (oE (sE_reprQ tp_reprq nofun T.sm gd hr T.B.repr_ (pe_name (pv 1)))) (oE (sE_reprQ tp_reprq nofun T.sm gd hr T.B.repr_ (sE_lst (sA_cons cI (sA_cons cI (sA_cons cI (sA_cons cI (sA_cons cI (sA_cons cI sA_nil rfl nofun) rfl nofun) rfl nofun) rfl nofun) rfl nofun) rfl nofun)))) (nomark _))
      (sSs_cons (sS_ret cB nofun)
      sSs_nil)
      sSs_nil)
      (sSs_cons (sS_set (i := 2) (by decide) sc_law.nd rfl (by first | exact .inl rfl | exact .inr rfl) (sE_lst (sA_cons (sE_mkb (c := "BadValue") tp_m0_BadValue T.bx_BadValue) (sA_cons (sE_mkb (c := "BadName") tp_m0_BadName T.bx_BadName) (sA_cons (sE_mkb (c := "NoAnswer") tp_m0_NoAnswer T.bx_NoAnswer) sA_nil rfl nofun) rfl nofun) rfl nofun)))
      (sSs_cons (sS_for (by decide) po rfl (sI_rng (by rfl) T.B.range_ cI (by rfl)) (sG_name (i := 3) sc_law.nd rfl (by first | exact .inl rfl | exact .inr rfl))
      (sSs_cons (sS_if (PW.pt (sW_or (sT_cmp (o := .ne) hr (oE (cE C.f__law_bases gd hr tk fn__law_bases (sArgs_one (aE (sE_idx hr (pe_place (pv 2)) (pe_place (pv 3)) (fun _ _ => rfl))) rfl))) (oE (sE_bin (o := .mul) (oE (sE_lc rfl sc_law.nd (sI_rng (by rfl) T.B.range_ cI (by rfl)) (blkOk_by (own := [("_law_k", 4)]) (N := ["_law_script", "_law_limits_here", "_law_roots", "_law_at", "_law_k", "_law_turn"]) (sc := defScope s_law) (by decide +kernel)) rfl (by decide) (fun _ _ _ _ _ => (sG_name (i := 4) sc_law.nd rfl (by first | exact .inl rfl | exact .inr rfl))) (fun _ _ _ _ _ => sC_none) (fun _ _ _ _ _ => (sE_cmp (o := .eq) hr (pe_place (pv 4)) (pe_place (pv 3)) (nomark _))))) (oE cI))) (nomark _)) (pw_or1 (sT_cmp (o := .isin) hr (oE cB) (oE (cE C.f__law_sorts gd hr tk fn__law_sorts (sArgs_one (aE (sE_idx hr (pe_place (pv 2)) (pe_place (pv 3)) (fun _ _ => rfl))) rfl))) (by rfl)))))
      (sSs_cons (sS_ret cB nofun)
      sSs_nil)
      sSs_nil)
      sSs_nil))
      (sSs_cons (sS_ret (b1 (cr_allF rfl) T.B.all_ boot_all (oE (sE_lc rfl sc_law.nd (sI_rng (by rfl) T.B.range_ (b2 (cr_maxF rfl) T.B.max_ PyProof.Rows.boot_max (sA_cons cI (sA_cons (b2 (cr_minF rfl) T.B.min_ PyProof.Rows.boot_min (sA_cons (b1 cr_len T.B.len_ PySem.boot_len (pe_place (pv 0))) (sA_cons cI sA_nil rfl nofun) rfl nofun)) sA_nil rfl nofun) rfl nofun)) (by rfl)) (blkOk_by (own := [("_law_turn", 5)]) (N := ["_law_script", "_law_limits_here", "_law_roots", "_law_at", "_law_k", "_law_turn"]) (sc := defScope s_law) (by decide +kernel)) rfl (by decide) (fun _ _ _ _ _ => (sG_name (i := 5) sc_law.nd rfl (by first | exact .inl rfl | exact .inr rfl))) (fun _ _ _ _ _ => sC_none) (fun _ _ _ _ _ => (cE C.f__law_quiet gd hr takesW0 fn__law_quiet (sArgs_one (aE (cE C.f__law_bag gd hr takesW0 fn__law_bag (sArgs_cons nofun (aV (pv 0)) (sArgs_one (aV (pv 5)) rfl) rfl))) rfl)))))) nofun)
      sSs_nil)))))
theorem step (T : Txt K mg) (C : Good P w K mg base (k + 2) cal) (M : Good P w K mg base (k + 1) mkc) : Good P w K mg base (k + 3) (evB tab cal mkc) := {
  f__law_bag := okE_def (k := k + 2) T.d__law_bag sc__law_bag fn__law_bag rfl rfl rfl (fun _ _ _ _ _ _ us hl => match us, hl with | [_, _], _ => rfl) (b__law_bag T C M)
  f__law_take := okE_def (k := k + 2) T.d__law_take sc__law_take fn__law_take rfl rfl rfl (fun _ _ _ _ _ _ us hl => match us, hl with | [_, _], _ => rfl) (b__law_take T C M)
  f__law_sorts := okE_def (k := k + 2) T.d__law_sorts sc__law_sorts fn__law_sorts rfl rfl rfl (fun _ _ _ _ _ _ us hl => match us, hl with | [_], _ => rfl) (b__law_sorts T C M)
  f__law_bases := okE_def (k := k + 2) T.d__law_bases sc__law_bases fn__law_bases rfl rfl rfl (fun _ _ _ _ _ _ us hl => match us, hl with | [_], _ => rfl) (b__law_bases T C M)
  f__law_kind := okE_def (k := k + 2) T.d__law_kind sc__law_kind fn__law_kind rfl rfl rfl (fun _ _ _ _ _ _ us hl => match us, hl with | [_], _ => rfl) (b__law_kind T C M)
  f__law_made := okE_def (k := k + 2) T.d__law_made sc__law_made fn__law_made rfl rfl rfl (fun _ _ _ _ _ _ us hl => match us, hl with | [_], _ => rfl) (b__law_made T C M)
  f__law_kept := okE_def (k := k + 2) T.d__law_kept sc__law_kept fn__law_kept rfl rfl rfl (fun _ _ _ _ _ _ us hl => match us, hl with | [_, _], _ => rfl) (b__law_kept T C M)
  f__law_right := okE_def (k := k + 2) T.d__law_right sc__law_right fn__law_right rfl rfl rfl (fun _ _ _ _ _ _ us hl => match us, hl with | [_], _ => rfl) (b__law_right T C M)
  f__law_quiet := okE_def (k := k + 2) T.d__law_quiet sc__law_quiet fn__law_quiet rfl rfl rfl (fun _ _ _ _ _ _ us hl => match us, hl with | [_], _ => rfl) (b__law_quiet T C M)
  f_law := okE_def (k := k + 2) T.d_law sc_law fn_law rfl rfl rfl (fun _ _ _ _ _ _ us hl => match us, hl with | [_], _ => rfl) (b_law T C M)
}
theorem good0 (T : Txt K mg) : Good P w K mg base k none2 := {
  f__law_bag := okE_none T.d__law_bag (fun _ _ _ _ _ _ us hl => match us, hl with | [_, _], _ => rfl)
  f__law_take := okE_none T.d__law_take (fun _ _ _ _ _ _ us hl => match us, hl with | [_, _], _ => rfl)
  f__law_sorts := okE_none T.d__law_sorts (fun _ _ _ _ _ _ us hl => match us, hl with | [_], _ => rfl)
  f__law_bases := okE_none T.d__law_bases (fun _ _ _ _ _ _ us hl => match us, hl with | [_], _ => rfl)
  f__law_kind := okE_none T.d__law_kind (fun _ _ _ _ _ _ us hl => match us, hl with | [_], _ => rfl)
  f__law_made := okE_none T.d__law_made (fun _ _ _ _ _ _ us hl => match us, hl with | [_], _ => rfl)
  f__law_kept := okE_none T.d__law_kept (fun _ _ _ _ _ _ us hl => match us, hl with | [_, _], _ => rfl)
  f__law_right := okE_none T.d__law_right (fun _ _ _ _ _ _ us hl => match us, hl with | [_], _ => rfl)
  f__law_quiet := okE_none T.d__law_quiet (fun _ _ _ _ _ _ us hl => match us, hl with | [_], _ => rfl)
  f_law := okE_none T.d_law (fun _ _ _ _ _ _ us hl => match us, hl with | [_], _ => rfl)
}
theorem good2 (T : Txt K mg) : ∀ k, Good P w K mg base (k + 2) (ev2 tab k).1 ∧ Good P w K mg base (k + 1) (ev2 tab k).2
  | 0 => ⟨good0 T, good0 T⟩
  | k + 1 => ⟨step T (good2 T k).1 (good2 T k).2, (good2 T k).1⟩
theorem good (T : Txt K mg) (k : Nat) : Good P w K mg base (k + 2) (evF tab k) := (good2 T k).1
end
end EV
namespace EV
theorem evF_succ (T : Tab) (k : Nat) : evF T (k + 1) = evB T (evF T k) (ev2 T k).2 := rfl
theorem run_def {T : Tab} {cal mkc : Cal} {f : String} {d : Def} {args : List Slot} (hd : T.fn f = some d) (hx : T.ext f = none) (h : (args.length == d.ps.length && decide (d.ps.length ≤ d.n) && sameKind args d.io) = true) : evB T cal mkc f args = endF args d.ps.length (evSs T cal mkc d.body (args ++ List.replicate (d.n - d.ps.length) .un)) := by
  simp only [Bool.and_eq_true, beq_iff_eq, decide_eq_true_eq] at h
  simp only [evB, hx, hd]
  rw [if_pos ⟨h.1.1, h.1.2, h.2⟩]
section
variable {T : Tab} {cal mkc : Cal}
theorem ev_lcG {ns : List Nat} {t : Tg} {it : Iter} {c : Option Ex} {e : Ex} {ρ ρ1 ρ2 : Ro} {xs ys : List Val} (hit : evIt T cal mkc it ρ = some (.ok xs ρ1)) (hl : xs.length ≤ cap) (hc : clean ns ρ1 = true) (h : lcLoop (lcF T cal mkc c e) t ns xs (wipeR ρ1 ns) = some (.ok ys ρ2)) : evE T cal mkc (.lc ns t it c e) ρ = some (.ok (.ow (.lst ys)) (unwipe ns ρ1 ρ2)) := by
  simp only [evE, hit, bnd_ok]
  rw [if_pos ⟨hl, hc⟩]
  have h' := h
  unfold lcF at h'
  rw [h']
  simp only [quiet, bnd_ok, pur]
theorem forF_inv {body : Ro → Res Fl} {t : Tg} (I : Nat → Ro → Prop) : ∀ (xs : List Val) (n : Nat) (ρ : Ro), I n ρ → (∀ (m : Nat) (x : Val) (ρ : Ro), xs[m]? = some x → I (n + m) ρ → ∃ ρ1 ρ2, assn t (.fz x) ρ = some ρ1 ∧ body ρ1 = some (.ok .nx ρ2) ∧ I (n + m + 1) ρ2) → ∃ ρ', forF body t xs ρ = some (.ok .nx ρ') ∧ I (n + xs.length) ρ'
  | [], n, ρ, h0, _ => ⟨ρ, rfl, h0⟩
  | x :: xs, n, ρ, h0, hs => by
    obtain ⟨ρ1, ρ2, h1, h2, h3⟩ := hs 0 x ρ rfl h0
    obtain ⟨ρ', h4, h5⟩ := forF_inv I xs (n + 1) ρ2 h3 fun m y ρ hy hI => by
      have := hs (m + 1) y ρ (by simpa using hy) (by rw [show n + (m + 1) = n + 1 + m by omega]; exact hI)
      rw [show n + (m + 1) + 1 = n + 1 + m + 1 by omega] at this
      exact this
    refine ⟨ρ', ?_, by rw [List.length_cons, show n + (xs.length + 1) = n + 1 + xs.length by omega]; exact h5⟩
    simp only [forF, h1, h2, bnd_ok, h4]
end
end EV
namespace EV
theorem aJ {a b : Prop} (x : a) (y : b) : a ∧ b := ⟨x, y⟩
def eVq := (aJ (aJ (aJ (aJ @evE.eq_1 (aJ @evE.eq_2 @evE.eq_3)) (aJ @evE.eq_4 (aJ @evE.eq_5 @evE.eq_6))) (aJ (aJ @evE.eq_7 (aJ @evE.eq_8 @evE.eq_9)) (aJ (aJ @evE.eq_10 @evE.eq_11) (aJ @evE.eq_12 @evE.eq_13)))) (aJ (aJ (aJ @evE.eq_14 (aJ @evE.eq_15 @evE.eq_16)) (aJ @evE.eq_17 (aJ @evE.eq_18 @evE.eq_19))) (aJ (aJ @evE.eq_20 (aJ @evE.eq_21 @evE.eq_25)) (aJ (aJ @evE.eq_26 @evE.eq_27) (aJ @evE.eq_28 @evE.eq_31)))))
theorem q_take_pos (k : Nat) (g m t n : Int) (hg : 0 < g) (hn : 0 < n) (hn2 : n < 1073741824) : evF tab (k + 1) "_law_take" [.ow (.lst [.int g, .int m, .int t]), .fz (.int n)] = some (.ok (.fz (.int (g % n))) [.ow (.lst [.int (g / n), .int m, .int t]), .fz (.int n)]) := by
  rw [evF_succ, run_def fn__law_take (tab_ext _) rfl]
  simp [ir__law_take, eVq, evSs, evS, evOp, evC, evEs, opnd, Opd.val, Slot.val, slotAt, fixv, isiV, isiF, typ, asBool, cmpF, endF, keptIo, lift, pur, bltF, len, eqF, assn, assns, idxF, ixN, hg, hn, hn2, ownAt, setF]
theorem q_take_non (k : Nat) (g m t n : Int) (hg : g ≤ 0) (hn : 0 < n) (hn2 : n < 1073741824) : evF tab (k + 1) "_law_take" [.ow (.lst [.int g, .int m, .int t]), .fz (.int n)] = some (.ok (.fz (.int ((m * 40099 + 22003 * (t + 1)) % 2147483489 / 1024 % n))) [.ow (.lst [.int g, .int ((m * 40099 + 22003 * (t + 1)) % 2147483489), .int (t + 1)]), .fz (.int n)]) := by
  rw [evF_succ, run_def fn__law_take (tab_ext _) rfl]
  have h : ¬ 0 < g := by omega
  have s1 : small 40099 = true := by decide
  have s2 : small 22003 = true := by decide
  simp [ir__law_take, eVq, evSs, evS, evOp, evC, evEs, opnd, Opd.val, Slot.val, slotAt, fixv, isiV, isiF, typ, asBool, cmpF, endF, keptIo, lift, pur, bltF, len, eqF, assn, assns, idxF, ixN, h, hn, hn2, ownAt, setF, binF, s1, s2]
def bagV (b : Int × Int × Int) : Val := .lst [.int b.1, .int b.2.1, .int b.2.2]
def draw (b : Int × Int × Int) (n : Int) : Int × (Int × Int × Int) :=
  if 0 < b.1 then (b.1 % n, (b.1 / n, b.2.1, b.2.2)) else
    ((b.2.1 * 40099 + 22003 * (b.2.2 + 1)) % 2147483489 / 1024 % n, (b.1, (b.2.1 * 40099 + 22003 * (b.2.2 + 1)) % 2147483489, b.2.2 + 1))
theorem q_take (k : Nat) (b : Int × Int × Int) (n : Int) (hn : 0 < n) (hn2 : n < 1073741824) : evF tab (k + 1) "_law_take" [.ow (bagV b), .fz (.int n)] = some (.ok (.fz (.int (draw b n).1)) [.ow (bagV (draw b n).2), .fz (.int n)]) := by
  unfold draw bagV
  by_cases h : 0 < b.1
  · rw [if_pos h]; exact q_take_pos k _ _ _ n h hn hn2
  · rw [if_neg h]; exact q_take_non k _ _ _ n (by omega) hn hn2
theorem draw_lt {b : Int × Int × Int} {n : Int} (hn : 0 < n) : 0 ≤ (draw b n).1 ∧ (draw b n).1 < n := by
  unfold draw
  split
  · exact ⟨Int.emod_nonneg _ (by omega), Int.emod_lt_of_pos _ hn⟩
  · exact ⟨Int.emod_nonneg _ (by omega), Int.emod_lt_of_pos _ hn⟩
theorem ev_call {T : Tab} {cal mkc : Cal} {f : String} {d : Def} {es : List Ex} {ρ ρ1 : Ro} {as : List Arg} (hd : T.fn f = some d) (ha : evAs T cal mkc d.io es ρ = some (.ok as ρ1)) : evE T cal mkc (.call f es []) ρ = callF cal d.ps f [] as ρ1 := by
  simp only [evE, hd, ha, bnd_ok]
theorem cut_len {α : Type} (xs : List α) (lo hi : Option Int) : (cut xs lo hi).length ≤ xs.length := by
  unfold cut
  rw [List.length_take, List.length_drop]
  omega
theorem q_bag (k : Nat) (ns : List Int) (t : Nat) (h : ns.length ≤ 63) : ∃ b, evF tab (k + 1) "_law_bag" [.fz (.scr ns), .fz (.int (t : Nat))] = some (.ok (.ow (bagV b)) [.fz (.scr ns), .fz (.int (t : Nat))]) := by
  rw [evF_succ, run_def fn__law_bag (tab_ext _) rfl]
  have s1 : small 29 = true := by decide
  have s2 : small 34019 = true := by decide
  have s3 : small 43051 = true := by decide
  obtain ⟨g, hg⟩ : ∃ g : Int, evE tab (evF tab k) (ev2 tab k).2 (.ite (.cmp .lt (.v 1) (.blt .len [.v 0])) (.idx (.v 0) (.v 1)) (.bin .add (.bin .mul (.int 29) (.v 1)) (.int 8))) [.fz (.scr ns), .fz (.int (t : Nat)), .un, .un, .un] = some (.ok (.fz (.int g)) [.fz (.scr ns), .fz (.int (t : Nat)), .un, .un, .un]) := by
    by_cases ht : t < ns.length
    · refine ⟨ns[t], ?_⟩
      simp [eVq, evSs, evS, evOp, evC, evEs, opnd, Opd.val, Slot.val, slotAt, fixv, isiV, isiF, typ, asBool, cmpF, endF, keptIo, lift, pur, bltF, len, eqF, assn, assns, ht, idxF, ixN]
    · refine ⟨29 * (t : Nat) + 8, ?_⟩
      simp [eVq, evSs, evS, evOp, evC, evEs, opnd, Opd.val, Slot.val, slotAt, fixv, isiV, isiF, typ, asBool, cmpF, endF, keptIo, lift, pur, bltF, len, eqF, assn, assns, ht, binF, s1]
  have hit : ∀ m0 : Int, evIt tab (evF tab k) (ev2 tab k).2 (.seq (.bin .add (.lst [.v 2]) (.slc (.v 0) none (some (.int 6))))) [.fz (.scr ns), .fz (.int (t : Nat)), .fz (.int g), .fz (.int m0), .un] = some (.ok ((g :: cut ns none (some 6)).map .int) [.fz (.scr ns), .fz (.int (t : Nat)), .fz (.int g), .fz (.int m0), .un]) := by
    intro m0
    have hc := cut_len ns none (some 6)
    have hb : (cut ns none (some 6)).length ≤ 999999 := by omega
    simp [evIt, itemsF, eVq, evSs, evS, evOp, evC, evEs, opnd, Opd.val, Slot.val, slotAt, fixv, isiV, isiF, typ, asBool, cmpF, endF, keptIo, lift, pur, bltF, len, eqF, assn, assns, slcF, binF, cap]
    rw [if_pos (by omega)]
    simp
  have loop : ∀ m0 : Int, ∃ (m : Int) (s : Slot), evS tab (evF tab k) (ev2 tab k).2 (.for_ (.nm 4) (.seq (.bin .add (.lst [.v 2]) (.slc (.v 0) none (some (.int 6))))) [.asg (.nm 3) (.bin .mod (.blt .int [.bin .add (.bin .mul (.v 3) (.int 43051)) (.v 4)]) (.int 2147483489))]) [.fz (.scr ns), .fz (.int (t : Nat)), .fz (.int g), .fz (.int m0), .un] = some (.ok .nx [.fz (.scr ns), .fz (.int (t : Nat)), .fz (.int g), .fz (.int m), s]) := by
    intro m0
    obtain ⟨ρ', h1, m, s, rfl⟩ := forF_inv (body := evSs tab (evF tab k) (ev2 tab k).2 [.asg (.nm 3) (.bin .mod (.blt .int [.bin .add (.bin .mul (.v 3) (.int 43051)) (.v 4)]) (.int 2147483489))]) (t := .nm 4) (fun _ ρ => ∃ (m : Int) (s : Slot), ρ = [.fz (.scr ns), .fz (.int (t : Nat)), .fz (.int g), .fz (.int m), s]) ((g :: cut ns none (some 6)).map .int) 0 [.fz (.scr ns), .fz (.int (t : Nat)), .fz (.int g), .fz (.int m0), .un] ⟨m0, .un, rfl⟩ (fun n x ρ hx hI => by
      obtain ⟨m, s, rfl⟩ := hI
      rw [List.getElem?_map] at hx
      obtain ⟨i, _, rfl⟩ := Option.map_eq_some_iff.mp hx
      refine ⟨_, [.fz (.scr ns), .fz (.int (t : Nat)), .fz (.int g), .fz (.int ((m * 43051 + i) % 2147483489)), .fz (.int i)], rfl, ?_, (m * 43051 + i) % 2147483489, .fz (.int i), rfl⟩
      simp [eVq, evSs, evS, evOp, evC, evEs, opnd, Opd.val, Slot.val, slotAt, fixv, isiV, isiF, typ, asBool, cmpF, endF, keptIo, lift, pur, bltF, len, eqF, assn, assns, binF, s3])
    refine ⟨m, s, ?_⟩
    simp only [evS, hit, bnd_ok]
    rw [if_pos, h1]
    have hc := cut_len ns none (some 6)
    unfold cap
    simp
    omega
  obtain ⟨m, s, hl⟩ := loop (86028121 + 34019 * (t : Nat))
  refine ⟨(if 10 ^ 18 ≤ (if g < 0 then -g else g) then (if g < 0 then -g else g) else 0, m, 0), ?_⟩
  have e : evSs tab (evF tab k) (ev2 tab k).2 ir__law_bag.body [.fz (.scr ns), .fz (.int (t : Nat)), .un, .un, .un] = some (.ok (.rt (.ow (bagV (if 10 ^ 18 ≤ (if g < 0 then -g else g) then (if g < 0 then -g else g) else 0, m, 0)))) [.fz (.scr ns), .fz (.int (t : Nat)), .fz (.int g), .fz (.int m), s]) := by
    have st1 : evS tab (evF tab k) (ev2 tab k).2 (.asg (.nm 3) (.bin .add (.int 86028121) (.bin .mul (.int 34019) (.v 1)))) [.fz (.scr ns), .fz (.int (t : Nat)), .fz (.int g), .un, .un] = some (.ok .nx [.fz (.scr ns), .fz (.int (t : Nat)), .fz (.int g), .fz (.int (86028121 + 34019 * (t : Nat))), .un]) := by
      simp [eVq, evSs, evS, evOp, evC, evEs, opnd, Opd.val, Slot.val, slotAt, fixv, isiV, isiF, typ, asBool, cmpF, endF, keptIo, lift, pur, bltF, len, eqF, assn, assns, binF, s2]
    have st0 : evS tab (evF tab k) (ev2 tab k).2 (.asg (.nm 2) (.ite (.cmp .lt (.v 1) (.blt .len [.v 0])) (.idx (.v 0) (.v 1)) (.bin .add (.bin .mul (.int 29) (.v 1)) (.int 8)))) [.fz (.scr ns), .fz (.int (t : Nat)), .un, .un, .un] = some (.ok .nx [.fz (.scr ns), .fz (.int (t : Nat)), .fz (.int g), .un, .un]) := by
      simp only [evS, hg, bnd_ok]
      simp [assn, pur]
    have st3 : evS tab (evF tab k) (ev2 tab k).2 (.ret (.lst [.ite (.cmp .ge (.blt .abs [.v 2]) (.bin .pow (.int 10) (.int 18))) (.blt .abs [.v 2]) (.int 0), .v 3, .int 0])) [.fz (.scr ns), .fz (.int (t : Nat)), .fz (.int g), .fz (.int m), s] = some (.ok (.rt (.ow (bagV (if 10 ^ 18 ≤ (if g < 0 then -g else g) then (if g < 0 then -g else g) else 0, m, 0)))) [.fz (.scr ns), .fz (.int (t : Nat)), .fz (.int g), .fz (.int m), s]) := by
      by_cases hc : (1000000000000000000 : Int) ≤ (if g < 0 then -g else g)
      · simp [eVq, evSs, evS, evOp, evC, evEs, opnd, Opd.val, Slot.val, slotAt, fixv, isiV, isiF, typ, asBool, cmpF, endF, keptIo, lift, pur, bltF, len, eqF, assn, assns, binF, bagV, cap, hc]
      · simp [eVq, evSs, evS, evOp, evC, evEs, opnd, Opd.val, Slot.val, slotAt, fixv, isiV, isiF, typ, asBool, cmpF, endF, keptIo, lift, pur, bltF, len, eqF, assn, assns, binF, bagV, cap, hc]
    simp only [ir__law_bag, evSs, st0, st1, hl, st3, bnd_ok, pur]
  show endF _ _ (evSs tab (evF tab k) (ev2 tab k).2 ir__law_bag.body [.fz (.scr ns), .fz (.int (t : Nat)), .un, .un, .un]) = _
  rw [e]
  simp [endF, keptIo, ir__law_bag]
end EV
namespace GH
section
variable {α : Type} [DecidableEq α]
inductive RI (A : α → List α) (S : α → Prop) : α → α → Prop
  | one {a b : α} : b ∈ A a → S b → RI A S a b
  | more {a b c : α} : RI A S a b → c ∈ A b → S c → RI A S a c
namespace RI
variable {A : α → List α} {S S' : α → Prop} {a b c : α}
theorem mono (hS : ∀ x, S x → S' x) (h : RI A S a b) : RI A S' a b := by
  induction h with
  | one h1 h2 => exact .one h1 (hS _ h2)
  | more _ h1 h2 ih => exact .more ih h1 (hS _ h2)
theorem first (h : RI A S a b) : ∃ x ∈ A a, S x ∧ (x = b ∨ RI A S x b) := by
  induction h with
  | one h1 h2 => exact ⟨_, h1, h2, .inl rfl⟩
  | more _ h1 h2 ih =>
    obtain ⟨x, hx, hs, h⟩ := ih
    refine ⟨x, hx, hs, .inr ?_⟩
    rcases h with rfl | h
    · exact .one h1 h2
    · exact .more h h1 h2
end RI
def RR (A : α → List α) (S : α → Prop) (a b : α) : Prop := a = b ∨ RI A S a b
namespace RR
variable {A : α → List α} {S S' : α → Prop} {a b c : α}
theorem mono (hS : ∀ x, S x → S' x) (h : RR A S a b) : RR A S' a b := h.imp id (RI.mono hS)
end RR
def Hang (A : α → List α) (S : α → Prop) (f x : α) : Prop := RR A S f x ∧ RR A S x f
theorem Hang.more {A : α → List α} {S : α → Prop} {f : α} (hf : S f) (h : RI A S f f) : f ∈ A f ∨ ∃ y, y ≠ f ∧ Hang A S f y := by
  cases h with
  | one h1 _ => exact .inl h1
  | @more b _ h0 h1 _ =>
    by_cases e : b = f
    · exact .inl (e ▸ h1)
    · exact .inr ⟨b, e, .inr h0, .inr (.one h1 hf)⟩
structure GrOk (L : List Nat) (D : List α) (A : α → List α) : Prop where
  small : D.length ≤ 400
  nodup : D.Nodup
  arr : ∀ a ∈ D, (A a).length = L.length
  tgt : ∀ a ∈ D, ∀ b ∈ A a, b ∈ D
section
variable {L : List Nat} {D : List α} {A : α → List α} (G : GrOk L D A)
include G
end
section
variable {L : List Nat} {D : List α} {A : α → List α} (G : GrOk L D A) {ins : List α} (hi : ∀ x ∈ ins, x ∈ D)
include G hi
end
end
end GH
namespace GH
section
variable {α : Type} [DecidableEq α]
section
variable {L : List Nat} {D : List α} {A : α → List α} {C : α → Int} (G : GrOk L D A) {ins : List α} (hi : ∀ x ∈ ins, x ∈ D)
include G hi
end
section
variable {L : List Nat} {D : List α} {A : α → List α} {C : α → Int} (G : GrOk L D A)
include G
end
section
variable {A A' : α → List α} {C C' : α → Int} {D D' : List α} (hA : ∀ a ∈ D, A' a = A a) (hC : ∀ a ∈ D, C' a = C a) (hcl : ∀ a ∈ D, ∀ b ∈ A a, b ∈ D) (hDD : ∀ a ∈ D, a ∈ D')
end
end
end GH
namespace EV
open PySem GH
def Sh (m : Nat) (v : Val) : Prop := ∃ d, toD v = some d ∧ d.canLay0 = true ∧ d.depth ≤ m
theorem Sh.mono {m n : Nat} {v : Val} (h : Sh m v) (hm : m ≤ n) : Sh n v := by
  obtain ⟨d, h1, h2, h3⟩ := h
  exact ⟨d, h1, h2, by omega⟩
theorem Sh.int (i : Int) : Sh 0 (.int i) := ⟨_, rfl, rfl, by simp [PyData.depth]⟩
theorem Sh.all {m : Nat} : ∀ {xs : List Val}, (∀ x ∈ xs, Sh m x) → ∃ ds, toDs xs = some ds ∧ PyData.canLayAll0 ds = true ∧ PyData.depthAll ds ≤ m
  | [], _ => ⟨[], by simp [toDs], rfl, by simp [PyData.depthAll]⟩
  | x :: xs, h => by
    obtain ⟨d, h1, h2, h3⟩ := h x List.mem_cons_self
    obtain ⟨ds, g1, g2, g3⟩ := Sh.all (xs := xs) fun y hy => h y (List.mem_cons_of_mem _ hy)
    refine ⟨d :: ds, by simp [toDs, h1, g1], by simp [PyData.canLayAll0, h2, g2], ?_⟩
    simp only [PyData.depthAll]
    omega
theorem Sh.lst {m : Nat} {xs : List Val} (h : ∀ x ∈ xs, Sh m x) : Sh (m + 1) (.lst xs) := by
  obtain ⟨ds, g1, g2, g3⟩ := Sh.all h
  refine ⟨.list ds, by simp [toD, g1], by simp [PyData.canLay0, g2], ?_⟩
  simp only [PyData.depth]
  omega
theorem Sh.tup {m : Nat} {xs : List Val} (h : ∀ x ∈ xs, Sh m x) : Sh (m + 1) (.tup xs) := by
  obtain ⟨ds, g1, g2, g3⟩ := Sh.all h
  refine ⟨.tuple ds, by simp [toD, g1], by simp [PyData.canLay0, g2], ?_⟩
  simp only [PyData.depth]
  omega
class Pl (α : Type) [DecidableEq α] where
  pv : α → Val
  tp : Bool
  eq' : ∀ a b, eqv (pv a) (pv b) = decide (a = b)
  sh : ∀ a, Sh 2 (pv a)
  up : ∀ k l : List α, l.Nodup → l ≠ [] → updOk (k.map fun a => (pv a, .bl true)) (l.map fun a => (pv a, .bl true)) = true
  dk : ∀ a, dkey (pv a) = true
  tu : ∀ a, isTup (pv a) = tp
open Pl
instance : Pl Int where
  pv := .int
  tp := false
  eq' := fun a b => by simp [eqv]; rfl
  sh := fun a => (Sh.int a).mono (by omega)
  up := fun k l _ _ => by simp [updOk, keyOk]
  dk := fun _ => rfl
  tu := fun _ => rfl
section
variable {α β : Type} [DecidableEq α] [Pl α]
theorem lc_gen {f : Ro → Res (Option Val)} {t : Tg} {ns : List Nat} {ρ : Ro} (val : β → Val) (g : β → Option Val) : ∀ {xs : List β}, (∀ x ∈ xs, ∃ ρ1 ρ2, assn t (.fz (val x)) ρ = some ρ1 ∧ f ρ1 = some (.ok (g x) ρ2) ∧ wipeR ρ2 ns = ρ) → lcLoop f t ns (xs.map val) ρ = some (.ok (xs.filterMap g) ρ)
  | [], _ => rfl
  | x :: xs, h => by
    obtain ⟨ρ1, ρ2, h1, h2, h3⟩ := h x List.mem_cons_self
    have ih := lc_gen (f := f) val g (xs := xs) fun y hy => h y (List.mem_cons_of_mem _ hy)
    rw [List.map_cons]
    simp only [lcLoop, h1, h2, bnd_ok, h3, ih, pur]
    rw [List.filterMap_cons]
    cases g x <;> rfl
variable {T : Tab} {cal mkc : Cal}
theorem ev_lcB {ns : List Nat} {t : Tg} {it : Iter} {c : Option Ex} {e : Ex} {ρ ρ1 : Ro} {xs : List β} (val : β → Val) (g : β → Option Val) (hit : evIt T cal mkc it ρ = some (.ok (xs.map val) ρ1)) (hl : xs.length ≤ cap) (hc : clean ns ρ1 = true) (hu : unwipe ns ρ1 (wipeR ρ1 ns) = ρ1)
    (h : ∀ x ∈ xs, ∃ ρ2 ρ3, assn t (.fz (val x)) (wipeR ρ1 ns) = some ρ2 ∧ lcF T cal mkc c e ρ2 = some (.ok (g x) ρ3) ∧ wipeR ρ3 ns = wipeR ρ1 ns) : evE T cal mkc (.lc ns t it c e) ρ = some (.ok (.ow (.lst (xs.filterMap g))) ρ1) := by
  have := ev_lcG hit (by rw [List.length_map]; exact hl) hc (lc_gen val g h)
  rw [this, hu]
end
section
variable {T : Tab} {cal mkc : Cal}
theorem evSs_2 {s : Sx} {r : List Sx} {ρ ρ1 : Ro} {x : Res Fl} (h : evS T cal mkc s ρ = some (.ok .nx ρ1)) (h2 : evSs T cal mkc r ρ1 = x) : evSs T cal mkc (s :: r) ρ = x := by
  simp only [evSs, h, bnd_ok]
  exact h2
theorem evSs_r {s : Sx} {r : List Sx} {ρ ρ1 : Ro} {q : Slot} (h : evS T cal mkc s ρ = some (.ok (.rt q) ρ1)) : evSs T cal mkc (s :: r) ρ = some (.ok (.rt q) ρ1) := by
  simp only [evSs, h, bnd_ok, pur]
theorem evS_for (t : Tg) (it : Iter) (a : List Sx) (ρ : Ro) : evS T cal mkc (.for_ t it a) ρ = bnd (evIt T cal mkc it ρ) fun xs ρ1 => if xs.length ≤ cap then forF (evSs T cal mkc a) t xs ρ1 else none := by simp only [evS]
theorem evE_idx (a i : Ex) (ρ : Ro) : evE T cal mkc (.idx a i) ρ = bnd (opnd a (evE T cal mkc a) ρ) fun x ρ1 => bnd (opnd i (evE T cal mkc i) ρ1) fun y ρ2 => lift (((x.val ρ2).bind fun u => (y.val ρ2).bind (idxF u)).map .fz) ρ2 := by simp only [evE]
theorem evE_blt1 (b : Bl) (a : Ex) (ρ : Ro) : evE T cal mkc (.blt b [a]) ρ = bnd (opnd a (evE T cal mkc a) ρ) fun x ρ1 => lift ((x.val ρ1).bind fun u => bltF b [u]) ρ1 := by simp only [evE]
end
end EV
namespace EV
open PySem PySem.Spec PyProof.Rows L2
section
variable {pr : List Nat} {X : Cx} {W : WX} {T : Tab} {cal mkc : Cal} {a b c e tg : Expr} {ea eb ec : Ex} {pos p : Pos} {kr : Nat}
end
end EV
namespace EV.Y
def isV : Ex → Bool
  | .v _ => true
  | _ => false
section
variable {α β : Type} {Q : α → Ro → Prop} {P : α → Prop}
end
section
variable {T : Tab} {cal mkc : Cal} {ρ : Ro} {Q : Slot → Ro → Prop}
end
section
variable {T : Tab} {cal mkc : Cal} {ρ : Ro}
variable {Q : List Val → Ro → Prop}
end
section
variable {T : Tab} {cal mkc : Cal} {ρ : Ro} {Q : Fl → Ro → Prop}
end
section
variable {T : Tab} {cal mkc : Cal} {ρ : Ro} {Q : Slot → Ro → Prop}
end
end EV.Y
namespace EV.Y
class Kn (α : Type) : Type where
  go : α → Ro → Prop
class Ko (α : Type) : Type where
  go : α → Prop
class Kt : Type where
  a : Prop
  b : Prop
section
variable {α β : Type} {Q : α → Ro → Prop} {P : α → Prop}
end
section
variable {T : Tab} {cal mkc : Cal} {ρ : Ro} {Q : Slot → Ro → Prop}
end
section
variable {T : Tab} {cal mkc : Cal} {ρ : Ro}
variable {Q : List Val → Ro → Prop}
end
section
variable {T : Tab} {cal mkc : Cal} {ρ : Ro} {Q : Fl → Ro → Prop}
end
section
variable {T : Tab} {cal mkc : Cal} {ρ : Ro} {Q : Slot → Ro → Prop}
end
end EV.Y
namespace EV.Y
end EV.Y
namespace EV
open Y
section
variable {cal mkc : Cal} {ρ : Ro} {es : List Ex} {a : Ex} {Q : Slot → Ro → Prop}
end
end EV
namespace EV
open PySem GH
def errL : List (String × Option String) := [("InvalidText", some "given"), ("InvalidLetters", some "given"), ("InvalidWord", some "given"), ("InvalidLasso", some "given"), ("InvalidVerdict", some "given"), ("InvalidName", some "given"), ("InvalidChange", some "given"), ("InvalidDemand", some "given"), ("InvalidIndex", some "given"), ("NotAMachine", some "given"), ("OtherLetters", some "given"), ("InvalidStates", some "index"), ("InvalidChanges", some "index"), ("InvalidDemands", some "index"), ("UnknownName", some "given"), ("InUse", some "index"), ("NothingToUndo", none), ("TooLong", some "most"), ("Broken", some "index")]
def made (v : Val) : List Val := errL.map fun p => .exo p.1 (match p.2 with
  | some f => [(f, v)]
  | none => [])
theorem allB_map {α : Type} (f : α → Bool) : ∀ l : List α, allB (l.map fun x => .bl (f x)) = some (l.map f)
  | [] => rfl
  | x :: r => by simp [allB, allB_map f r]
def inner : Sx := (.for_ (.nm 4) (.seq (.call "_law_made" [(.v 3)] [])) [(.ife (.or (.cmp .ne (.blt .len [(.v 4)]) (.int 19)) (.cmp .ne (.lc [6] (.nm 6) (.seq (.v 4)) none (.call "_law_kind" [(.v 6)] [])) (.lrg (.int 19)))) [(.ret (.bl false))] []), (.for_ (.nm 5) (.rng (.int 19)) [(.ife (.cmp .ne (.prim "reprq" [(.call "_law_kept" [(.idx (.v 4) (.v 5)), (.v 5)] [])]) (.prim "reprq" [(.ite (.cmp .eq (.v 5) (.int 16)) .non (.v 3))])) [(.ret (.bl false))] [])])])
def menu : List Val := [.non, .bl true, .int 0, .int (-7), .int (10 ^ 30), .str (asStr ""), .str (asStr "a b"), .tup [], .tup [.int 1, .str (asStr "x")], .lst [], .lst [.non], .dct [], .dct [(.str (asStr "a"), .int 1)], .tup [.str (asStr "b"), .str (asStr "a")], .bl false]
theorem i_0 (k : Nat) (s0 s1 s2 s4 s5 : Slot) : evS tab (evF tab (k + 2)) (ev2 tab (k + 2)).2 inner [s0, s1, s2, .fz .non, s4, s5, .un] = some (.ok .nx [s0, s1, s2, .fz .non, .fz (.lst (made .non)), .fz (.int 18), .un]) := by kernel_rfl
theorem i_1 (k : Nat) (s0 s1 s2 s4 s5 : Slot) : evS tab (evF tab (k + 2)) (ev2 tab (k + 2)).2 inner [s0, s1, s2, .fz (.bl true), s4, s5, .un] = some (.ok .nx [s0, s1, s2, .fz (.bl true), .fz (.lst (made (.bl true))), .fz (.int 18), .un]) := by kernel_rfl
theorem i_2 (k : Nat) (s0 s1 s2 s4 s5 : Slot) : evS tab (evF tab (k + 2)) (ev2 tab (k + 2)).2 inner [s0, s1, s2, .fz (.int 0), s4, s5, .un] = some (.ok .nx [s0, s1, s2, .fz (.int 0), .fz (.lst (made (.int 0))), .fz (.int 18), .un]) := by kernel_rfl
theorem i_3 (k : Nat) (s0 s1 s2 s4 s5 : Slot) : evS tab (evF tab (k + 2)) (ev2 tab (k + 2)).2 inner [s0, s1, s2, .fz (.int (-7)), s4, s5, .un] = some (.ok .nx [s0, s1, s2, .fz (.int (-7)), .fz (.lst (made (.int (-7)))), .fz (.int 18), .un]) := by kernel_rfl
theorem i_4 (k : Nat) (s0 s1 s2 s4 s5 : Slot) : evS tab (evF tab (k + 2)) (ev2 tab (k + 2)).2 inner [s0, s1, s2, .fz (.int (10 ^ 30)), s4, s5, .un] = some (.ok .nx [s0, s1, s2, .fz (.int (10 ^ 30)), .fz (.lst (made (.int (10 ^ 30)))), .fz (.int 18), .un]) := by kernel_rfl
theorem i_5 (k : Nat) (s0 s1 s2 s4 s5 : Slot) : evS tab (evF tab (k + 2)) (ev2 tab (k + 2)).2 inner [s0, s1, s2, .fz (.str (asStr "")), s4, s5, .un] = some (.ok .nx [s0, s1, s2, .fz (.str (asStr "")), .fz (.lst (made (.str (asStr "")))), .fz (.int 18), .un]) := by kernel_rfl
theorem i_6 (k : Nat) (s0 s1 s2 s4 s5 : Slot) : evS tab (evF tab (k + 2)) (ev2 tab (k + 2)).2 inner [s0, s1, s2, .fz (.str (asStr "a b")), s4, s5, .un] = some (.ok .nx [s0, s1, s2, .fz (.str (asStr "a b")), .fz (.lst (made (.str (asStr "a b")))), .fz (.int 18), .un]) := by kernel_rfl
theorem i_7 (k : Nat) (s0 s1 s2 s4 s5 : Slot) : evS tab (evF tab (k + 2)) (ev2 tab (k + 2)).2 inner [s0, s1, s2, .fz (.tup []), s4, s5, .un] = some (.ok .nx [s0, s1, s2, .fz (.tup []), .fz (.lst (made (.tup []))), .fz (.int 18), .un]) := by kernel_rfl
theorem i_8 (k : Nat) (s0 s1 s2 s4 s5 : Slot) : evS tab (evF tab (k + 2)) (ev2 tab (k + 2)).2 inner [s0, s1, s2, .fz (.tup [.int 1, .str (asStr "x")]), s4, s5, .un] = some (.ok .nx [s0, s1, s2, .fz (.tup [.int 1, .str (asStr "x")]), .fz (.lst (made (.tup [.int 1, .str (asStr "x")]))), .fz (.int 18), .un]) := by kernel_rfl
theorem i_9 (k : Nat) (s0 s1 s2 s4 s5 : Slot) : evS tab (evF tab (k + 2)) (ev2 tab (k + 2)).2 inner [s0, s1, s2, .fz (.lst []), s4, s5, .un] = some (.ok .nx [s0, s1, s2, .fz (.lst []), .fz (.lst (made (.lst []))), .fz (.int 18), .un]) := by kernel_rfl
theorem i_10 (k : Nat) (s0 s1 s2 s4 s5 : Slot) : evS tab (evF tab (k + 2)) (ev2 tab (k + 2)).2 inner [s0, s1, s2, .fz (.lst [.non]), s4, s5, .un] = some (.ok .nx [s0, s1, s2, .fz (.lst [.non]), .fz (.lst (made (.lst [.non]))), .fz (.int 18), .un]) := by kernel_rfl
theorem i_11 (k : Nat) (s0 s1 s2 s4 s5 : Slot) : evS tab (evF tab (k + 2)) (ev2 tab (k + 2)).2 inner [s0, s1, s2, .fz (.dct []), s4, s5, .un] = some (.ok .nx [s0, s1, s2, .fz (.dct []), .fz (.lst (made (.dct []))), .fz (.int 18), .un]) := by kernel_rfl
theorem i_12 (k : Nat) (s0 s1 s2 s4 s5 : Slot) : evS tab (evF tab (k + 2)) (ev2 tab (k + 2)).2 inner [s0, s1, s2, .fz (.dct [(.str (asStr "a"), .int 1)]), s4, s5, .un] = some (.ok .nx [s0, s1, s2, .fz (.dct [(.str (asStr "a"), .int 1)]), .fz (.lst (made (.dct [(.str (asStr "a"), .int 1)]))), .fz (.int 18), .un]) := by kernel_rfl
theorem i_13 (k : Nat) (s0 s1 s2 s4 s5 : Slot) : evS tab (evF tab (k + 2)) (ev2 tab (k + 2)).2 inner [s0, s1, s2, .fz (.tup [.str (asStr "b"), .str (asStr "a")]), s4, s5, .un] = some (.ok .nx [s0, s1, s2, .fz (.tup [.str (asStr "b"), .str (asStr "a")]), .fz (.lst (made (.tup [.str (asStr "b"), .str (asStr "a")]))), .fz (.int 18), .un]) := by kernel_rfl
theorem i_14 (k : Nat) (s0 s1 s2 s4 s5 : Slot) : evS tab (evF tab (k + 2)) (ev2 tab (k + 2)).2 inner [s0, s1, s2, .fz (.bl false), s4, s5, .un] = some (.ok .nx [s0, s1, s2, .fz (.bl false), .fz (.lst (made (.bl false))), .fz (.int 18), .un]) := by kernel_rfl
theorem q_inner (k : Nat) (s0 s1 s2 s4 s5 : Slot) {i : Int} {v : Val} (h0 : 0 ≤ i) (h : i < 15) (hv : menu[i.toNat]? = some v) : evS tab (evF tab (k + 2)) (ev2 tab (k + 2)).2 inner [s0, s1, s2, .fz v, s4, s5, .un] = some (.ok .nx [s0, s1, s2, .fz v, .fz (.lst (made v)), .fz (.int 18), .un]) := by
  have : i = 0 ∨ i = 1 ∨ i = 2 ∨ i = 3 ∨ i = 4 ∨ i = 5 ∨ i = 6 ∨ i = 7 ∨ i = 8 ∨ i = 9 ∨ i = 10 ∨ i = 11 ∨ i = 12 ∨ i = 13 ∨ i = 14 := by omega
  rcases this with rfl | rfl | rfl | rfl | rfl | rfl | rfl | rfl | rfl | rfl | rfl | rfl | rfl | rfl | rfl
  · cases hv; exact i_0 k s0 s1 s2 s4 s5
  · cases hv; exact i_1 k s0 s1 s2 s4 s5
  · cases hv; exact i_2 k s0 s1 s2 s4 s5
  · cases hv; exact i_3 k s0 s1 s2 s4 s5
  · cases hv; exact i_4 k s0 s1 s2 s4 s5
  · cases hv; exact i_5 k s0 s1 s2 s4 s5
  · cases hv; exact i_6 k s0 s1 s2 s4 s5
  · cases hv; exact i_7 k s0 s1 s2 s4 s5
  · cases hv; exact i_8 k s0 s1 s2 s4 s5
  · cases hv; exact i_9 k s0 s1 s2 s4 s5
  · cases hv; exact i_10 k s0 s1 s2 s4 s5
  · cases hv; exact i_11 k s0 s1 s2 s4 s5
  · cases hv; exact i_12 k s0 s1 s2 s4 s5
  · cases hv; exact i_13 k s0 s1 s2 s4 s5
  · cases hv; exact i_14 k s0 s1 s2 s4 s5
def bodyR : List Sx := [(.asg (.nm 2) (.lst [.non, (.bl true), (.int 0), (.neg (.int 7)), (.bin .pow (.int 10) (.int 30)), (.str ""), (.str "a b"), (.tup []), (.tup [(.int 1), (.str "x")]), (.lst []), (.lst [.non]), (.dct [] []), (.dct [(.str "a")] [(.int 1)]), (.tup [(.str "b"), (.str "a")]), (.bl false)])), (.asg (.nm 3) (.idx (.v 2) (.call "_law_take" [(.v 0), (.int 15)] []))), inner]
theorem s_menu (k : Nat) (s0 s1 s2 s3 s4 s5 s6 : Slot) : evS tab (evF tab k) (ev2 tab k).2 (.asg (.nm 2) (.lst [.non, (.bl true), (.int 0), (.neg (.int 7)), (.bin .pow (.int 10) (.int 30)), (.str ""), (.str "a b"), (.tup []), (.tup [(.int 1), (.str "x")]), (.lst []), (.lst [.non]), (.dct [] []), (.dct [(.str "a")] [(.int 1)]), (.tup [(.str "b"), (.str "a")]), (.bl false)])) [s0, s1, s2, s3, s4, s5, s6] = some (.ok .nx [s0, s1, .ow (.lst menu), s3, s4, s5, s6]) := by kernel_rfl
theorem s_pick (k : Nat) (b : Int × Int × Int) (s1 s3 s4 s5 s6 : Slot) : ∃ (i : Int) (v : Val), 0 ≤ i ∧ i < 15 ∧ menu[i.toNat]? = some v ∧ evS tab (evF tab (k + 1)) (ev2 tab (k + 1)).2 (.asg (.nm 3) (.idx (.v 2) (.call "_law_take" [(.v 0), (.int 15)] []))) [.ow (bagV b), s1, .ow (.lst menu), s3, s4, s5, s6] = some (.ok .nx [.ow (bagV (draw b 15).2), s1, .ow (.lst menu), .fz v, s4, s5, s6]) := by
  obtain ⟨h0, h15⟩ := draw_lt (b := b) (n := 15) (by omega)
  have hl : (draw b 15).1.toNat < menu.length := by
    have : menu.length = 15 := rfl
    omega
  refine ⟨(draw b 15).1, menu[(draw b 15).1.toNat], h0, h15, List.getElem?_eq_getElem hl, ?_⟩
  have hc : evE tab (evF tab (k + 1)) (ev2 tab (k + 1)).2 (.call "_law_take" [.v 0, .int 15] []) [.ow (bagV b), s1, .ow (.lst menu), s3, s4, s5, s6] = some (.ok (.fz (.int (draw b 15).1)) [.ow (bagV (draw b 15).2), s1, .ow (.lst menu), s3, s4, s5, s6]) := by
    rw [ev_call (as := [.io 0, .va (.int 15)]) (ρ1 := [.ow (bagV b), s1, .ow (.lst menu), s3, s4, s5, s6]) fn__law_take (by simp [ir__law_take, evAs, argOf, ownAt, Arg.isN, eVq, evSs, evS, evOp, evC, evEs, opnd, Opd.val, Slot.val, slotAt, fixv, isiV, isiF, typ, asBool, cmpF, endF, keptIo, lift, pur, bltF, len, eqF, assn, assns])]
    simp [callF, ioNd, Arg.isAt, Arg.slot, order, q_take k b 15 (by omega) (by omega), finish, putBack]
  have hx : idxF (.lst menu) (.int (draw b 15).1) = some menu[(draw b 15).1.toNat] := by
    show (ixN menu.length (draw b 15).1).bind (fun j => menu[j]?) = _
    unfold ixN
    rw [if_pos ⟨h0, by omega⟩, Option.bind_some, List.getElem?_eq_getElem hl]
  have hp : opnd (.v 2) (evE tab (evF tab (k + 1)) (ev2 tab (k + 1)).2 (.v 2)) [.ow (bagV b), s1, .ow (.lst menu), s3, s4, s5, s6] = some (.ok (.pl 2) [.ow (bagV b), s1, .ow (.lst menu), s3, s4, s5, s6]) := rfl
  have hq : opnd (.call "_law_take" [.v 0, .int 15] []) (evE tab (evF tab (k + 1)) (ev2 tab (k + 1)).2 (.call "_law_take" [.v 0, .int 15] [])) [.ow (bagV b), s1, .ow (.lst menu), s3, s4, s5, s6] = some (.ok (.tm (.int (draw b 15).1)) [.ow (bagV (draw b 15).2), s1, .ow (.lst menu), s3, s4, s5, s6]) := by
    simp only [opnd, hc, bnd_ok, pur]
  simp only [evS, evE_idx, hp, hq, bnd_ok, Opd.val]
  rw [show ([Slot.ow (bagV (draw b 15).2), s1, Slot.ow (Val.lst menu), s3, s4, s5, s6] : Ro)[2]?.bind Slot.val = some (.lst menu) from rfl, Option.bind_some, Option.bind_some, hx]
  rfl
theorem q_turn (k : Nat) (b : Int × Int × Int) (s1 s2 s3 s4 s5 : Slot) : ∃ b' v, evSs tab (evF tab (k + 2)) (ev2 tab (k + 2)).2 bodyR [.ow (bagV b), s1, s2, s3, s4, s5, .un] = some (.ok .nx [.ow (bagV b'), s1, .ow (.lst menu), .fz v, .fz (.lst (made v)), .fz (.int 18), .un]) := by
  obtain ⟨i, v, h0, h15, hv, hs⟩ := s_pick (k + 1) b s1 s3 s4 s5 .un
  refine ⟨_, v, evSs_2 (s_menu (k + 2) (.ow (bagV b)) s1 s2 s3 s4 s5 .un) (evSs_2 hs (evSs_2 (q_inner k _ s1 _ s4 s5 h0 h15 hv) rfl))⟩
theorem q_right (k : Nat) (b : Int × Int × Int) : ∃ b', evF tab (k + 3) "_law_right" [.ow (bagV b)] = some (.ok (.fz (.bl true)) [.ow (bagV b')]) := by
  obtain ⟨ρ', h1, b', s1, s2, s3, s4, s5, rfl⟩ := forF_inv (body := evSs tab (evF tab (k + 2)) (ev2 tab (k + 2)).2 bodyR) (t := .nm 1) (fun _ ρ => ∃ b s1 s2 s3 s4 s5, ρ = [.ow (bagV b), s1, s2, s3, s4, s5, .un]) (rng 0 3) 0 [.ow (bagV b), .un, .un, .un, .un, .un, .un] ⟨b, _, _, _, _, _, rfl⟩ (fun n x ρ hx hI => by
    obtain ⟨b, s1, s2, s3, s4, s5, rfl⟩ := hI
    obtain ⟨b', v, h⟩ := q_turn k b (.fz x) s2 s3 s4 s5
    exact ⟨_, _, rfl, h, b', _, _, _, _, _, rfl⟩)
  refine ⟨b', ?_⟩
  rw [evF_succ, run_def fn__law_right (tab_ext _) rfl]
  have hit : evIt tab (evF tab (k + 2)) (ev2 tab (k + 2)).2 (.rng (.int 3)) [.ow (bagV b), .un, .un, .un, .un, .un, .un] = some (.ok (rng 0 3) [.ow (bagV b), .un, .un, .un, .un, .un, .un]) := by
    have hz : -(cap : Int) ≤ 3 ∧ (3 : Int) ≤ cap := by unfold cap; omega
    simp [evIt, eVq, evSs, evS, evOp, evC, evEs, opnd, Opd.val, Slot.val, slotAt, fixv, isiV, isiF, typ, asBool, cmpF, endF, keptIo, lift, pur, bltF, len, assn, assns, rngF, hz]
  have st1 : evS tab (evF tab (k + 2)) (ev2 tab (k + 2)).2 (.for_ (.nm 1) (.rng (.int 3)) bodyR) [.ow (bagV b), .un, .un, .un, .un, .un, .un] = some (.ok .nx [.ow (bagV b'), s1, s2, s3, s4, s5, .un]) := by
    rw [evS_for, hit, bnd_ok, if_pos (by unfold cap; decide), h1]
  have st2 : evS tab (evF tab (k + 2)) (ev2 tab (k + 2)).2 (.ret (.bl true)) [.ow (bagV b'), s1, s2, s3, s4, s5, .un] = some (.ok (.rt (.fz (.bl true))) [.ow (bagV b'), s1, s2, s3, s4, s5, .un]) := by
    simp [eVq, evSs, evS, evOp, evC, evEs, opnd, Opd.val, Slot.val, slotAt, fixv, isiV, isiF, typ, asBool, cmpF, endF, keptIo, lift, pur, bltF, len, assn, assns]
  have e : evSs tab (evF tab (k + 2)) (ev2 tab (k + 2)).2 ir__law_right.body [.ow (bagV b), .un, .un, .un, .un, .un, .un] = some (.ok (.rt (.fz (.bl true))) [.ow (bagV b'), s1, s2, s3, s4, s5, .un]) := evSs_2 st1 (evSs_r st2)
  show endF _ _ (evSs tab (evF tab (k + 2)) (ev2 tab (k + 2)).2 ir__law_right.body [.ow (bagV b), .un, .un, .un, .un, .un, .un]) = _
  rw [e]
  simp [endF, keptIo, ir__law_right]
theorem q_quiet (k : Nat) (b : Int × Int × Int) : ∃ b', evF tab (k + 4) "_law_quiet" [.ow (bagV b)] = some (.ok (.fz (.bl true)) [.ow (bagV b')]) := by
  obtain ⟨b', q⟩ := q_right k b
  refine ⟨b', ?_⟩
  rw [evF_succ, run_def fn__law_quiet (tab_ext _) rfl]
  simp [ir__law_quiet, eVq, evSs, evS, evOp, evC, evEs, opnd, Opd.val, Slot.val, slotAt, fixv, isiV, isiF, typ, asBool, cmpF, endF, keptIo, lift, pur, bltF, len, assn, assns, evE.eq_22, evAs, argOf, callF, ioNd, order, finish, putBack, Arg.slot, Arg.isN, Arg.isAt, Arg.isV, ownAt, newArg, idxF, ixN, binF, fn__law_right, ir__law_right, q, quiet]
def lim : Val := .lst [.int 3, .int 6, .int 6, .int 200, .int 5, .int 5]
def roots : Val := .lst [.exo "BadValue" [], .exo "BadName" [], .exo "NoAnswer" []]
def L1 : Sx := (.asg (.nm 1) (.lst [(.g "MOST_LETTERS"), (.g "MOST_STATES"), (.g "MOST_COLOUR"), (.g "MOST_WORD"), (.g "MOST_CHANGES"), (.g "MOST_DEMANDS")]))
def L2 : Sx := (.ife (.cmp .ne (.prim "reprq" [(.v 1)]) (.prim "reprq" [(.lst [(.int 3), (.int 6), (.int 6), (.int 200), (.int 5), (.int 5)])])) [(.ret (.bl false))] [])
def L3 : Sx := (.asg (.nm 2) (.lst [(.prim "m0_BadValue" []), (.prim "m0_BadName" []), (.prim "m0_NoAnswer" [])]))
def L4 : Sx := (.for_ (.nm 3) (.rng (.int 3)) [(.ife (.or (.cmp .ne (.call "_law_bases" [(.idx (.v 2) (.v 3))] []) (.bin .mul (.lc [4] (.nm 4) (.rng (.int 3)) none (.cmp .eq (.v 4) (.v 3))) (.int 2))) (.cmp .isin (.bl true) (.call "_law_sorts" [(.idx (.v 2) (.v 3))] []))) [(.ret (.bl false))] [])])
theorem l_1 (s : Slot) : evS tab (evF tab 27) (ev2 tab 27).2 L1 [s, .un, .un, .un, .un, .un] = some (.ok .nx [s, .ow lim, .un, .un, .un, .un]) := by kernel_rfl
theorem l_2 (s : Slot) : evS tab (evF tab 27) (ev2 tab 27).2 L2 [s, .ow lim, .un, .un, .un, .un] = some (.ok .nx [s, .fz lim, .un, .un, .un, .un]) := by kernel_rfl
theorem l_3 (s : Slot) : evS tab (evF tab 27) (ev2 tab 27).2 L3 [s, .fz lim, .un, .un, .un, .un] = some (.ok .nx [s, .fz lim, .ow roots, .un, .un, .un]) := by kernel_rfl
theorem l_4 (s : Slot) : evS tab (evF tab 27) (ev2 tab 27).2 L4 [s, .fz lim, .ow roots, .un, .un, .un] = some (.ok .nx [s, .fz lim, .ow roots, .fz (.int 2), .un, .un]) := by kernel_rfl
theorem law_holds (ns : List Int) (h : ns.length ≤ 63) : ∃ fin, evF tab 28 "law" [.fz (.scr ns)] = some (.ok (.fz (.bl true)) fin) := by
  refine ⟨[.fz (.scr ns)], ?_⟩
  rw [evF_succ, run_def fn_law (tab_ext _) rfl]
  obtain ⟨m, hm⟩ : ∃ m : Int, evE tab (evF tab 27) (ev2 tab 27).2 (.blt .max [(.int 2), (.blt .min [(.blt .len [(.v 0)]), (.int 4)])]) [.fz (.scr ns), .fz lim, .ow roots, .fz (.int 2), .un, .un] = some (.ok (.fz (.int m)) [.fz (.scr ns), .fz lim, .ow roots, .fz (.int 2), .un, .un]) ∧ m ≤ 63 ∧ 0 ≤ m := by
    refine ⟨_, by simp [eVq, evSs, evS, evOp, evC, evEs, opnd, Opd.val, Slot.val, slotAt, fixv, isiV, isiF, typ, asBool, cmpF, endF, keptIo, lift, pur, bltF, len, assn, assns]; rfl, ?_⟩
    split <;> split <;> omega
  have hz : -(cap : Int) ≤ m ∧ m ≤ cap := by unfold cap; omega
  have hit : evIt tab (evF tab 27) (ev2 tab 27).2 (.rng (.blt .max [(.int 2), (.blt .min [(.blt .len [(.v 0)]), (.int 4)])])) [.fz (.scr ns), .fz lim, .ow roots, .fz (.int 2), .un, .un] = some (.ok ((List.range m.toNat).map fun t => .int (t : Nat)) [.fz (.scr ns), .fz lim, .ow roots, .fz (.int 2), .un, .un]) := by
    simp only [evIt, hm.1, bnd_ok, fixv, pur, rngF, hz, and_self, if_true, lift]
    unfold rng
    simp
  have hlc : evE tab (evF tab 27) (ev2 tab 27).2 (.lc [5] (.nm 5) (.rng (.blt .max [(.int 2), (.blt .min [(.blt .len [(.v 0)]), (.int 4)])])) none (.call "_law_quiet" [(.call "_law_bag" [(.v 0), (.v 5)] [])] [])) [.fz (.scr ns), .fz lim, .ow roots, .fz (.int 2), .un, .un] = some (.ok (.ow (.lst ((List.range m.toNat).map fun _ => .bl true))) [.fz (.scr ns), .fz lim, .ow roots, .fz (.int 2), .un, .un]) := by
    have := ev_lcB (fun t : Nat => Val.int (t : Nat)) (fun _ => some (Val.bl true)) hit (ns := [5]) (t := .nm 5) (c := none) (e := (.call "_law_quiet" [(.call "_law_bag" [(.v 0), (.v 5)] [])] [])) (by rw [List.length_range]; unfold cap; omega) rfl rfl (fun t _ => by
      refine ⟨[.fz (.scr ns), .fz lim, .ow roots, .fz (.int 2), .un, .fz (.int (t : Nat))], [.fz (.scr ns), .fz lim, .ow roots, .fz (.int 2), .un, .fz (.int (t : Nat))], rfl, ?_, rfl⟩
      obtain ⟨b, qb⟩ := q_bag 26 ns t h
      obtain ⟨b', qq⟩ := q_quiet 23 b
      simp [lcF, eVq, evSs, evS, evOp, evC, evEs, opnd, Opd.val, Slot.val, slotAt, fixv, isiV, isiF, typ, asBool, cmpF, endF, keptIo, lift, pur, bltF, len, assn, assns, evE.eq_22, evAs, argOf, callF, ioNd, order, finish, putBack, Arg.slot, Arg.isN, Arg.isAt, Arg.isV, ownAt, newArg, idxF, ixN, binF, fn__law_quiet, ir__law_quiet, fn__law_bag, ir__law_bag, qb, qq])
    rw [this]
    simp
  have ha : allB ((List.range m.toNat).map fun _ => Val.bl true) = some ((List.range m.toNat).map fun _ => true) := allB_map (fun _ => true) _
  have e5 : evSs tab (evF tab 27) (ev2 tab 27).2 [(.ret (.blt .all [(.lc [5] (.nm 5) (.rng (.blt .max [(.int 2), (.blt .min [(.blt .len [(.v 0)]), (.int 4)])])) none (.call "_law_quiet" [(.call "_law_bag" [(.v 0), (.v 5)] [])] []))]))] [.fz (.scr ns), .fz lim, .ow roots, .fz (.int 2), .un, .un] = some (.ok (.rt (.fz (.bl true))) [.fz (.scr ns), .fz lim, .ow roots, .fz (.int 2), .un, .un]) := by
    simp only [evSs, evS, evE_blt1, opnd, hlc, bnd_ok, bnd_pur, pur, Opd.val, Option.bind_some, bltF, ha, Option.map_some, lift]
    have : ((List.range m.toNat).map fun _ => true).all id = true := by simp
    rw [this]
  have e : evSs tab (evF tab 27) (ev2 tab 27).2 ir_law.body [.fz (.scr ns), .un, .un, .un, .un, .un] = some (.ok (.rt (.fz (.bl true))) [.fz (.scr ns), .fz lim, .ow roots, .fz (.int 2), .un, .un]) := evSs_2 (l_1 _) (evSs_2 (l_2 _) (evSs_2 (l_3 _) (evSs_2 (l_4 _) e5)))
  show endF _ _ (evSs tab (evF tab 27) (ev2 tab 27).2 ir_law.body [.fz (.scr ns), .un, .un, .un, .un, .un]) = _
  rw [e]
  simp [endF, keptIo, ir_law]
end EV
namespace GH
open PySem PySem.Spec PyProof.Rows L2
theorem lawTxt {K : PySem.W.Frag} {h : Heap} {mg : Str → Option Value} (X : K.In h) (G : h.Ns mainGlobals mg) (c : SaysM lawDn lawEx K) : Txt K mg := by
  have z := c.more
  obtain ⟨z, zSm⟩ := He.ba z
  obtain ⟨z, zBx_NoAnswer⟩ := He.ba z
  obtain ⟨z, zBx_BadName⟩ := He.ba z
  obtain ⟨z, zBx_BadValue⟩ := He.ba z
  obtain ⟨z, zXo⟩ := He.ba z
  obtain ⟨z, zE_Broken⟩ := He.ba z
  obtain ⟨z, zE_TooLong⟩ := He.ba z
  obtain ⟨z, zE_NothingToUndo⟩ := He.ba z
  obtain ⟨z, zE_InUse⟩ := He.ba z
  obtain ⟨z, zE_UnknownName⟩ := He.ba z
  obtain ⟨z, zE_InvalidDemands⟩ := He.ba z
  obtain ⟨z, zE_InvalidChanges⟩ := He.ba z
  obtain ⟨z, zE_InvalidStates⟩ := He.ba z
  obtain ⟨z, zE_OtherLetters⟩ := He.ba z
  obtain ⟨z, zE_NotAMachine⟩ := He.ba z
  obtain ⟨z, zE_InvalidIndex⟩ := He.ba z
  obtain ⟨z, zE_InvalidDemand⟩ := He.ba z
  obtain ⟨z, zE_InvalidChange⟩ := He.ba z
  obtain ⟨z, zE_InvalidName⟩ := He.ba z
  obtain ⟨z, zE_InvalidVerdict⟩ := He.ba z
  obtain ⟨z, zE_InvalidLasso⟩ := He.ba z
  obtain ⟨z, zE_InvalidWord⟩ := He.ba z
  obtain ⟨z, zE_InvalidLetters⟩ := He.ba z
  obtain ⟨z, zE_InvalidText⟩ := He.ba z
  exact {
    B := ⟨He.free_ok X G (facts_at z 0), He.free_ok X G (facts_at z 1), He.free_ok X G (facts_at z 2), He.free_ok X G (facts_at z 3), He.free_ok X G (facts_at z 4), He.free_ok X G (facts_at z 5), He.free_ok X G (facts_at z 6), He.free_ok X G (facts_at z 7), He.free_ok X G (facts_at z 8), He.free_ok X G (facts_at z 9), He.free_ok X G (facts_at z 10), He.free_ok X G (facts_at z 11), He.free_ok X G (facts_at z 12), He.free_ok X G (facts_at z 13), He.free_ok X G (facts_at z 14), He.free_ok X G (facts_at z 15), He.free_ok X G (facts_at z 16), He.free_ok X G (facts_at z 17), He.free_ok X G (facts_at z 18), He.free_ok X G (facts_at z 19)⟩
    d__law_bag := def_is X G (facts_at z 20) (c.is 0)
    d__law_take := def_is X G (facts_at z 21) (c.is 1)
    d__law_sorts := def_is X G (facts_at z 22) (c.is 2)
    d__law_bases := def_is X G (facts_at z 23) (c.is 3)
    d__law_kind := def_is X G (facts_at z 24) (c.is 4)
    d__law_made := def_is X G (facts_at z 25) (c.is 5)
    d__law_kept := def_is X G (facts_at z 26) (c.is 6)
    d__law_right := def_is X G (facts_at z 27) (c.is 7)
    d__law_quiet := def_is X G (facts_at z 28) (c.is 8)
    d_law := def_is X G (facts_at z 29) (c.is 9)
    c_MOST_LETTERS := cst_int X G (facts_at z 30)
    c_MOST_STATES := cst_int X G (facts_at z 31)
    c_MOST_COLOUR := cst_int X G (facts_at z 32)
    c_MOST_WORD := cst_int X G (facts_at z 33)
    c_MOST_CHANGES := cst_int X G (facts_at z 34)
    c_MOST_DEMANDS := cst_int X G (facts_at z 35)
    e_InvalidText := EV.err_is X G EV.isVE (facts_at z 36) zE_InvalidText (c.is 10) sc_InvalidText___init__ ⟨_, _, _, _, rfl⟩
    e_InvalidLetters := EV.err_is X G EV.isVE (facts_at z 37) zE_InvalidLetters (c.is 11) sc_InvalidLetters___init__ ⟨_, _, _, _, rfl⟩
    e_InvalidWord := EV.err_is X G EV.isVE (facts_at z 38) zE_InvalidWord (c.is 12) sc_InvalidWord___init__ ⟨_, _, _, _, rfl⟩
    e_InvalidLasso := EV.err_is X G EV.isVE (facts_at z 39) zE_InvalidLasso (c.is 13) sc_InvalidLasso___init__ ⟨_, _, _, _, rfl⟩
    e_InvalidVerdict := EV.err_is X G EV.isVE (facts_at z 40) zE_InvalidVerdict (c.is 14) sc_InvalidVerdict___init__ ⟨_, _, _, _, rfl⟩
    e_InvalidName := EV.err_is X G EV.isVE (facts_at z 41) zE_InvalidName (c.is 15) sc_InvalidName___init__ ⟨_, _, _, _, rfl⟩
    e_InvalidChange := EV.err_is X G EV.isVE (facts_at z 42) zE_InvalidChange (c.is 16) sc_InvalidChange___init__ ⟨_, _, _, _, rfl⟩
    e_InvalidDemand := EV.err_is X G EV.isVE (facts_at z 43) zE_InvalidDemand (c.is 17) sc_InvalidDemand___init__ ⟨_, _, _, _, rfl⟩
    e_InvalidIndex := EV.err_is X G EV.isVE (facts_at z 44) zE_InvalidIndex (c.is 18) sc_InvalidIndex___init__ ⟨_, _, _, _, rfl⟩
    e_NotAMachine := EV.err_is X G EV.isVE (facts_at z 45) zE_NotAMachine (c.is 19) sc_NotAMachine___init__ ⟨_, _, _, _, rfl⟩
    e_OtherLetters := EV.err_is X G EV.isVE (facts_at z 46) zE_OtherLetters (c.is 20) sc_OtherLetters___init__ ⟨_, _, _, _, rfl⟩
    e_InvalidStates := EV.err_is X G EV.isVE (facts_at z 47) zE_InvalidStates (c.is 21) sc_InvalidStates___init__ ⟨_, _, _, _, rfl⟩
    e_InvalidChanges := EV.err_is X G EV.isVE (facts_at z 48) zE_InvalidChanges (c.is 22) sc_InvalidChanges___init__ ⟨_, _, _, _, rfl⟩
    e_InvalidDemands := EV.err_is X G EV.isVE (facts_at z 49) zE_InvalidDemands (c.is 23) sc_InvalidDemands___init__ ⟨_, _, _, _, rfl⟩
    e_UnknownName := EV.err_is X G EV.isLE (facts_at z 50) zE_UnknownName (c.is 24) sc_UnknownName___init__ ⟨_, _, _, _, rfl⟩
    e_InUse := EV.err_is X G EV.isLE (facts_at z 51) zE_InUse (c.is 25) sc_InUse___init__ ⟨_, _, _, _, rfl⟩
    e_NothingToUndo := EV.err0_is X G EV.isAE (facts_at z 52) zE_NothingToUndo (c.is 26) sc_NothingToUndo___init__ ⟨_, rfl⟩
    e_TooLong := EV.err_is X G EV.isAE (facts_at z 53) zE_TooLong (c.is 27) sc_TooLong___init__ ⟨_, _, _, _, rfl⟩
    e_Broken := EV.err_is X G EV.isAE (facts_at z 54) zE_Broken (c.is 28) sc_Broken___init__ ⟨_, _, _, _, rfl⟩
    xo := EV.xoB_ok X G zXo
    bx_BadValue := EV.bxB_ok EV.baseVE X G zBx_BadValue
    bx_BadName := EV.bxB_ok EV.baseLE X G zBx_BadName
    bx_NoAnswer := EV.bxB_ok EV.baseAE X G zBx_NoAnswer
    sm := zSm
  }
end GH
open PySem PySem.W PySem.Calls PyProof.Rows
theorem PySem.Challenge.cw_guardhopes_k01_limits_and_errors_holds : PySem.Challenge.rw_guardhopes_k01_limits_and_errors.Holds := by
  w_on; o_law
  refine HandSHeadRun.head_any (r := OpenLaw.row PySem.Challenge.rw_guardhopes_k01_limits_and_errors) (q := view (OpenLaw.row PySem.Challenge.rw_guardhopes_k01_limits_and_errors).prog [39]) (H := GH.lawHook) (ob := GH.lawOb) (M := 9000) (loose := GH.lawOut) (d := HandSHeadRun.topDef (OpenLaw.row PySem.Challenge.rw_guardhopes_k01_limits_and_errors).prog 39) (kwd := []) GH.lawOb_eq
    GH.lawKe (fun s => by kernel_rfl) GH.lawRun GH.lawKd GH.lawKp (by kernel_rfl) (by rfl) GH.lawKs GH.lawKok GH.lawKb GH.lawKw ?hc
  case hc =>
    refine GH.go_walk (l := PySem.Challenge.rw_guardhopes_k01_limits_and_errors) (n := 63) (k := 30) (x := "_law_script") rfl (by decide) (by kernel_rfl) ⟨rfl, by decide, by decide⟩ ?F
    intro w mg fa h Y G hmg0
    obtain ⟨K, KX, c⟩ := Y
    have e0 : (HandSHeadRun.topDef (OpenLaw.row PySem.Challenge.rw_guardhopes_k01_limits_and_errors).prog 39).name = ("law" : PySem.Str) := by kernel_rfl
    rw [e0] at hmg0
    have T := GH.lawTxt KX G c
    obtain ⟨fd, hb, hF⟩ := GH.OkG.every (P := (PySem.Challenge.rw_guardhopes_k01_limits_and_errors).prog) (w := w) (fun base => EV.okG_of (EV.good T 28).f_law) hmg0
    exact ⟨K, fd, EV.spL K mg (EV.evF EV.tab 28) "law", KX, hb, fun H a ns hl hS => (let ⟨_, z⟩ := EV.law_holds ns hl; EV.law_sp z (EV.tbs_nil rfl) hS _), fun base => hF base⟩
